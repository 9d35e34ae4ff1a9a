import PyProof.Rows.All
import Wide.All
import OpenK.AllK
import Wide.FinOn
import PySem.Str
import HandS.ForMost
import HandS.Flow
import HandS.TupAny
import HandS.ExcCtx
import HandS.TupMul
import HandS.StrMore
import HandS.Strs
import HandS.More
import KE.DataFind
import HandS.IsInst
import HandS.Iter
import HandS.Zip
import KE.GoesEnum
import KE.GoesMore
import HandS.Comp
import HandS.Small
import HandS.Codes
import PySem.Challenge.RW_tableshop_k28_whole_named
set_option Elab.async false
set_option linter.all false
set_option maxRecDepth 100000
/-! TS1: plain data, mutable cells, the monad, the own syntax and its meaning. No machine here. -/
namespace TS
open PySem

inductive D where
  | non | bl (b : Bool) | int (i : Int) | str (s : Str)
  | tup (l : List D) | lst (l : List D) | ref (n : Nat) | gl (n : Nat) | scr (l : List Int)
  deriving Inhabited

mutual
def sm : D → D → Bool
  | .non, .non => true
  | .bl a, .bl b => decide (a = b)
  | .int a, .int b => decide (a = b)
  | .str a, .str b => decide (a = b)
  | .tup a, .tup b => sms a b
  | .lst a, .lst b => sms a b
  | .ref a, .ref b => decide (a = b)
  | .gl a, .gl b => decide (a = b)
  | .scr a, .scr b => decide (a = b)
  | _, _ => false
def sms : List D → List D → Bool
  | [], [] => true
  | x :: xs, y :: ys => sm x y && sms xs ys
  | _, _ => false
end
mutual
theorem sm_eq : ∀ a b : D, sm a b = true → a = b
  | .non, b, h => by cases b <;> simp_all [sm]
  | .bl x, b, h => by cases b <;> simp_all [sm]
  | .int x, b, h => by cases b <;> simp_all [sm]
  | .str x, b, h => by cases b <;> simp_all [sm]
  | .tup x, b, h => by
    cases b with
    | tup y => rw [sm] at h; rw [sms_eq x y h]
    | _ => simp [sm] at h
  | .lst x, b, h => by
    cases b with
    | lst y => rw [sm] at h; rw [sms_eq x y h]
    | _ => simp [sm] at h
  | .ref x, b, h => by cases b <;> simp_all [sm]
  | .gl x, b, h => by cases b <;> simp_all [sm]
  | .scr x, b, h => by cases b <;> simp_all [sm]
theorem sms_eq : ∀ a b : List D, sms a b = true → a = b
  | [], b, h => by cases b <;> simp_all [sms]
  | x :: xs, b, h => by
    cases b with
    | nil => simp [sms] at h
    | cons y ys =>
      rw [sms, Bool.and_eq_true] at h
      rw [sm_eq x y h.1, sms_eq xs ys h.2]
end
mutual
theorem sm_refl : ∀ a : D, sm a a = true
  | .non => by simp [sm]
  | .bl x => by simp [sm]
  | .int x => by simp [sm]
  | .str x => by simp [sm]
  | .tup x => by rw [sm]; exact sms_refl x
  | .lst x => by rw [sm]; exact sms_refl x
  | .ref x => by simp [sm]
  | .gl x => by simp [sm]
  | .scr x => by simp [sm]
theorem sms_refl : ∀ a : List D, sms a a = true
  | [] => by simp [sms]
  | x :: xs => by rw [sms, sm_refl x, sms_refl xs]; rfl
end
instance : DecidableEq D := fun a b => if h : sm a b = true then isTrue (sm_eq a b h) else isFalse fun e => h (by rw [e]; exact sm_refl b)

inductive Cell where
  | dead | lst (l : List D) | dct (kvs : List (D × D)) | ins (c : Nat) (fs : List (Str × D))
  deriving DecidableEq, Inhabited
abbrev Hh := List Cell
structure Exn where
  c : Nat
  a : Option D
  deriving DecidableEq
inductive Res (α : Type) where
  | ok (a : α) (h : Hh) | exc (x : Exn) (h : Hh) | bad
abbrev M (α : Type) := Hh → Res α
def ret {α : Type} (a : α) : M α := fun h => .ok a h
def bnd {α β : Type} (m : M α) (f : α → M β) : M β := fun h => match m h with
  | .ok a h' => f a h'
  | .exc x h' => .exc x h'
  | .bad => .bad
def mbad {α : Type} : M α := fun _ => .bad
def ofO {α : Type} : Option α → M α
  | some a => ret a
  | none => mbad
def guardM {α : Type} (b : Bool) (m : M α) : M α := if b = true then m else mbad
/-- a new cell -/
def alloc (c : Cell) : M D := fun h => .ok (.ref h.length) (h ++ [c])
def setCell (n : Nat) (c : Cell) : M D := fun h => .ok .non (h.set n c)

abbrev Env := List (Option D)

/-! ### the syntax -/
inductive Ty where | tInt | tStr | tBool | tTup | tLst
  deriving DecidableEq
inductive Op where
  | tup | lst (m : Bool)
  | add (m : Bool) | sub | mul (m : Bool) | mod | pow | neg | not
  | eq | ne | lt | le | gt | ge | isN | isnN | inn | nin
  | ix | sl (lo hi : Bool)
  | call (f : Nat)
  | len | all | any | tuple | list (m : Bool) | sorted (m : Bool) | lenset | srtset | toStr | toInt | max | min2 | isi (t : Ty)
  | strip | count | index | append | extend | insert | pop0 | pop1 | remove | get2 | setdef | partition | split | join
  | dnew | dictOf | dcopy | values | keys | items | listzip | gget (kvs : List (Str × Int))
  | frz | fld (f : Str) | um (m : Str) | make (c : Nat) | callv
inductive IK where | seq | rng1 | rng2 | enm | zip
inductive Tg where | one (i : Nat) | many (l : List Nat)
inductive E where
  | var (i : Nat)
  | cst (d : D)
  | op (o : Op) (l : List E)
  | mth (o : Op) (a : E) (l : List E)
  | and (a b : E) | or (a b : E) | andB (a b : E) | orB (a b : E) | ife (c a b : E) | chain (a b c : E) | sl2 (a b c : E)
  | comp (m : Bool) (elt : E) (tg : Tg) (k : IK) (its : List E) (cond : List E) (own : List Nat)
inductive S where
  | asg (i : Nat) (e : E)
  | par (i j : Nat) (a b : E)
  | asgT (l : List Nat) (e : E)
  | asgTT (l m : List Nat) (e : E)
  | put (o i v : E)
  | fld (o : E) (f : Str) (v : E)
  | exp (e : E)
  | rtn (e : E)
  | ite (c : E) (a b : List S)
  | for_ (tg : Tg) (k : IK) (its : List E) (body : List S)
  | while_ (c : E) (body : List S)
  | raise (c : Nat) (l : List E)
  | tryw (body : List S) (c : Nat) (w : Nat)
  | pass | never

/-! ### plain functions -/
mutual
def eqD : D → D → Bool
  | .non, .non => true
  | .bl a, .bl b => a == b
  | .bl a, .int j => (if a then 1 else 0) == j
  | .int i, .bl b => i == (if b then 1 else 0)
  | .int i, .int j => i == j
  | .str x, .str y => x == y
  | .tup l, .tup m => eqDs l m
  | .lst l, .lst m => eqDs l m
  | _, _ => false
def eqDs : List D → List D → Bool
  | [], [] => true
  | x :: xs, y :: ys => eqD x y && eqDs xs ys
  | _, _ => false
end
/-- data without cells, of small depth -/
def pu : Nat → D → Bool
  | _, .non => true
  | _, .bl _ => true
  | _, .int _ => true
  | _, .str _ => true
  | 0, _ => false
  | n + 1, .tup l => l.all (pu n)
  | n + 1, .lst l => l.all (pu n)
  | _, _ => false
/-- a list cell read as a list -/
def top (h : Hh) : D → D
  | .ref n => match h[n]? with
    | some (.lst l) => .lst l
    | _ => .ref n
  | .scr l => .lst (l.map .int)
  | d => d
/-- a list of one's own -/
def lstT (h : Hh) : D → Option (List D)
  | .lst l => some l
  | .ref n => match h[n]? with
    | some (.lst l) => some l
    | _ => none
  | _ => none
def seqOf (h : Hh) (d : D) : Option (List D) := match top h d with
  | .tup l => some l
  | .lst l => some l
  | _ => none
def lstOf (h : Hh) (d : D) : Option (List D) := match top h d with
  | .lst l => some l
  | _ => none
def sIx (n d : Nat) : Option Int → Nat
  | none => d
  | some v => if v < 0 then (v + (n : Int)).toNat else min v.toNat n
def cut {α : Type} (xs : List α) (lo hi : Option Int) : List α := (xs.drop (sIx xs.length 0 lo)).take (sIx xs.length xs.length hi - sIx xs.length 0 lo)
def ixN (n : Nat) (i : Int) : Option Nat := if 0 ≤ i then (if i < n then some i.toNat else none) else if -(n : Int) ≤ i then some (i + n).toNat else none
def atI {α : Type} (xs : List α) (i : Int) : Option α := (ixN xs.length i).bind fun j => xs[j]?
def strL (l : List Nat) : Str := ⟨l.toArray⟩
def stripL (cs : List Nat) (l : List Nat) : List Nat := ((l.dropWhile fun c => cs.contains c).reverse.dropWhile fun c => cs.contains c).reverse
def truth (h : Hh) : D → Option Bool
  | .non => some false
  | .bl b => some b
  | .int i => some (i != 0)
  | .str s => if s.length ≤ 100000 then some (s.length != 0) else none
  | d => (seqOf h d).map fun l => !l.isEmpty
def strsOf : List D → Option (List Str)
  | [] => some []
  | .str s :: r => (strsOf r).map (s :: ·)
  | _ => none
def blsOf : List D → Option (List Bool)
  | [] => some []
  | .bl s :: r => (blsOf r).map (s :: ·)
  | _ => none
def intsOf : List D → Option (List Int)
  | [] => some []
  | .int s :: r => (intsOf r).map (s :: ·)
  | _ => none
def dedup [DecidableEq α] : List α → List α
  | [] => []
  | x :: xs => x :: (dedup xs).filter fun y => decide (y ≠ x)
def leS (a b : Str) : Bool := !decide (b.cps.toList < a.cps.toList)
def srtS (l : List Str) : List Str := l.mergeSort leS
def isTy : Ty → D → Hh → Option Bool
  | _, .gl _, _ => none
  | t, .ref n, h => match h[n]? with
    | some (.lst _) => some (decide (t = .tLst))
    | _ => none
  | t, .non, _ => some false
  | t, .bl _, _ => some (decide (t = .tBool) || decide (t = .tInt))
  | t, .int _, _ => some (decide (t = .tInt))
  | t, .str _, _ => some (decide (t = .tStr))
  | t, .tup _, _ => some (decide (t = .tTup))
  | t, .lst _, _ => some (decide (t = .tLst))
  | t, .scr _, _ => some (decide (t = .tLst))
def big (i : Int) : Bool := decide (-(2 ^ 64) < i) && decide (i < 2 ^ 64)
def keyD : D → Bool
  | .int _ => true
  | .str _ => true
  | _ => false
def look (kvs : List (D × D)) (k : D) : Option D := (kvs.find? fun kv => decide (kv.1 = k)).map (·.2)
def putD (kvs : List (D × D)) (k v : D) : List (D × D) := if kvs.any (fun kv => decide (kv.1 = k)) = true then kvs.map (fun kv => if kv.1 = k then (kv.1, v) else kv) else kvs ++ [(k, v)]

/-! ### what an operation does -/
def mkL (m : Bool) (l : List D) : M D := if l.length ≤ 100000 then (if m = true then alloc (.lst l) else ret (.lst l)) else mbad
def mkT (l : List D) : M D := if l.length ≤ 100000 then ret (.tup l) else mbad
def addD (m : Bool) (a b : D) : M D := fun h => match a, b with
  | .int i, .int j => .ok (.int (i + j)) h
  | .str x, .str y => if x.length + y.length ≤ 100000 then .ok (.str (x ++ y)) h else .bad
  | .tup l, .tup r => mkT (l ++ r) h
  | a, b => match lstT h a, lstT h b with
    | some l, some r => mkL m (l ++ r) h
    | _, _ => .bad
def mulD (m : Bool) (a b : D) : M D := fun h => match a, b with
  | .int i, .int j => if (big i || big j) = true then .ok (.int (i * j)) h else .bad
  | a, .int k => match lstT h a with
    | some l => if l.length ≤ 1000 ∧ 0 ≤ k ∧ k ≤ 100 then mkL m (List.replicate k.toNat l).flatten h else .bad
    | none => .bad
  | _, _ => .bad
def eqH (neg : Bool) (a b : D) : M D := fun h => if (pu 9 (top h a) && pu 9 (top h b)) = true then .ok (.bl (neg != eqD (top h a) (top h b))) h else .bad
def inD (neg : Bool) (x c : D) : M D := fun h => match x, c with
  | .str y, .str z => match y.cps.toList with
    | [c] => .ok (.bl (neg != decide (c ∈ z.cps.toList))) h
    | _ => .bad
  | x, c => match seqOf h c with
    | some l => if (pu 9 (top h x) && l.all (pu 9)) = true then .ok (.bl (neg != l.any fun z => eqD z (top h x))) h else .bad
    | none => match c with
      | .ref n => match h[n]? with
        | some (.dct kvs) => if keyD x = true then .ok (.bl (neg != (look kvs x).isSome)) h else .bad
        | _ => .bad
      | _ => .bad
def ixD (a i : D) : M D := fun h => match a, i with
  | .str z, .int k => match atI z.cps.toList k with
    | some c => if z.length ≤ 100000 then .ok (.str (strL [c])) h else .bad
    | none => .bad
  | a, i => match seqOf h a, i with
    | some l, .int k => match atI l k with
      | some d => .ok d h
      | none => .bad
    | _, _ => match a with
      | .ref n => match h[n]? with
        | some (.dct kvs) => if keyD i = true then (match look kvs i with
          | some d => .ok d h
          | none => .bad) else .bad
        | _ => .bad
      | _ => .bad
def partO : Bool → List D → Option (Option Int × List D)
  | false, l => some (none, l)
  | true, .int i :: l => some (some i, l)
  | true, _ => none
def slD (lo hi : Bool) (ds : List D) : M D := fun h => match ds with
  | a :: r => match partO lo r with
    | some (l, r1) => match partO hi r1 with
      | some (u, []) => match a with
        | .str z => if z.length ≤ 100000 then .ok (.str (strL (cut z.cps.toList l u))) h else .bad
        | .tup xs => .ok (.tup (cut xs l u)) h
        | a => match lstOf h a with
          | some xs => .ok (.lst (cut xs l u)) h
          | none => .bad
      | _ => .bad
    | none => .bad
  | [] => .bad
def lenD (d : D) : M D := fun h => match d with
  | .str s => if s.length ≤ 100000 then .ok (.int s.length) h else .bad
  | d => match seqOf h d with
    | some l => .ok (.int l.length) h
    | none => .bad
def onList (d : D) (f : Nat → List D → M D) : M D := fun h => match d with
  | .ref n => match h[n]? with
    | some (.lst l) => f n l h
    | _ => .bad
  | _ => .bad
def a1 (f : D → M D) : List D → M D
  | [a] => f a
  | _ => mbad
def a2 (f : D → D → M D) : List D → M D
  | [a, b] => f a b
  | _ => mbad
def a3 (f : D → D → D → M D) : List D → M D
  | [a, b, c] => f a b c
  | _ => mbad
def int2 (f : Int → Int → M D) (a b : D) : M D := match a, b with
  | .int i, .int j => f i j
  | _, _ => mbad
def pMod (i j : Int) : M D := guardM (decide (0 < j)) (ret (.int (i % j)))
def pPow (i j : Int) : M D := guardM (decide (0 ≤ j) && decide (j ≤ 1000000) && decide (i.natAbs < 2 ^ 64)) (ret (.int (i ^ j.toNat)))
def pNeg : D → M D
  | .int i => ret (.int (-i))
  | _ => mbad
def pNot : D → M D
  | .bl b => ret (.bl (!b))
  | _ => mbad
def pAll (d : D) : M D := fun h => match (lstOf h d).bind blsOf with
  | some bs => .ok (.bl (bs.all id)) h
  | none => .bad
def pAny (d : D) : M D := fun h => match (lstOf h d).bind blsOf with
  | some bs => .ok (.bl (bs.any id)) h
  | none => .bad
def pTuple (d : D) : M D := fun h => match seqOf h d with
  | some l => .ok (.tup l) h
  | none => .bad
def pList (m : Bool) (d : D) : M D := fun h => match seqOf h d with
  | some l => mkL m l h
  | none => .bad
def pSorted (m : Bool) (d : D) : M D := fun h => match (seqOf h d).bind strsOf with
  | some ss => if ss.length < 64 then mkL m ((srtS ss).map .str) h else .bad
  | none => .bad
def pLenset (d : D) : M D := fun h => match (seqOf h d).bind strsOf with
  | some ss => if ss.length < 1000 then .ok (.int (dedup ss).length) h else .bad
  | none => .bad
def pSrtset (d : D) : M D := fun h => match (seqOf h d).bind strsOf with
  | some ss => if ss.length < 64 then .ok (.lst ((srtS (dedup ss)).map .str)) h else .bad
  | none => .bad
def pInt : D → M D
  | .int i => ret (.int i)
  | .bl b => ret (.int (if b = true then 1 else 0))
  | _ => mbad
def pIsi (t : Ty) (d : D) : M D := fun h => match isTy t d h with
  | some b => .ok (.bl b) h
  | none => .bad
def pStrip (a b : D) : M D := match a, b with
  | .str s, .str cs => guardM (decide (s.length ≤ 100000)) (ret (.str (strL (stripL cs.cps.toList s.cps.toList))))
  | _, _ => mbad
def pCount (d x : D) : M D := fun h => match lstOf h d with
  | some l => if (pu 9 x && l.all (pu 9)) = true then .ok (.int (l.countP fun z => eqD z x)) h else .bad
  | none => .bad
def pIndex (d x : D) : M D := fun h => match seqOf h d with
  | some l => if (pu 9 x && l.all (pu 9)) = true then (match l.findIdx? fun z => eqD z x with
    | some j => .ok (.int j) h
    | none => .bad) else .bad
  | none => .bad
def pAppend (d x : D) : M D := onList d fun n l => guardM (decide (l.length < 100000)) (setCell n (.lst (l ++ [x])))
def pExtend (d x : D) : M D := onList d fun n l h => match lstT h x with
  | some r => if l.length + r.length ≤ 100000 then setCell n (.lst (l ++ r)) h else .bad
  | none => .bad
def pPop0 (d : D) : M D := onList d fun n l h => match l.getLast? with
  | some x => .ok x (h.set n (.lst l.dropLast))
  | none => .bad
def pPop1 (d i : D) : M D := match i with
  | .int i => onList d fun n l h => if 0 ≤ i ∧ i ≤ 100000 then (match l[i.toNat]? with
    | some x => .ok x (h.set n (.lst (l.eraseIdx i.toNat)))
    | none => .bad) else .bad
  | _ => mbad
def pRemove (d x : D) : M D := onList d fun n l h => if (pu 9 x && l.all (pu 9)) = true then (match l.findIdx? fun z => eqD z x with
  | some j => .ok .non (h.set n (.lst (l.eraseIdx j)))
  | none => .bad) else .bad
def pInsert (d i x : D) : M D := match i with
  | .int i => onList d fun n l h => if 0 ≤ i ∧ i ≤ 100000 ∧ l.length < 100000 then .ok .non (h.set n (.lst (l.take i.toNat ++ x :: l.drop i.toNat))) else .bad
  | _ => mbad
def pFrz (d : D) : M D := onList d fun n l h => .ok (.lst l) (h.set n .dead)
def pGget (kvs : List (Str × Int)) (k d : D) : M D := match k with
  | .str k => ret (match kvs.find? fun kv => decide (kv.1 = k) with
    | some kv => .int kv.2
    | none => d)
  | _ => mbad
def prim (Phi : Nat → List D → M D) : Op → List D → M D
  | .tup => mkT
  | .lst m => mkL m
  | .add m => a2 (addD m)
  | .sub => a2 (int2 fun i j => ret (.int (i - j)))
  | .mul m => a2 (mulD m)
  | .mod => a2 (int2 pMod)
  | .pow => a2 (int2 pPow)
  | .neg => a1 pNeg
  | .not => a1 pNot
  | .eq => a2 (eqH false)
  | .ne => a2 (eqH true)
  | .lt => a2 (int2 fun i j => ret (.bl (decide (i < j))))
  | .le => a2 (int2 fun i j => ret (.bl (decide (i ≤ j))))
  | .gt => a2 (int2 fun i j => ret (.bl (decide (j < i))))
  | .ge => a2 (int2 fun i j => ret (.bl (decide (j ≤ i))))
  | .isN => a1 fun a => ret (.bl (decide (a = .non)))
  | .isnN => a1 fun a => ret (.bl (!decide (a = .non)))
  | .inn => a2 (inD false)
  | .nin => a2 (inD true)
  | .ix => a2 ixD
  | .sl lo hi => slD lo hi
  | .call f => Phi f
  | .len => a1 lenD
  | .all => a1 pAll
  | .any => a1 pAny
  | .tuple => a1 pTuple
  | .list m => a1 (pList m)
  | .sorted m => a1 (pSorted m)
  | .lenset => a1 pLenset
  | .srtset => a1 pSrtset
  | .toInt => a1 pInt
  | .isi t => a1 (pIsi t)
  | .strip => a2 pStrip
  | .count => a2 pCount
  | .index => a2 pIndex
  | .append => a2 pAppend
  | .extend => a2 pExtend
  | .pop0 => a1 pPop0
  | .pop1 => a2 pPop1
  | .remove => a2 pRemove
  | .insert => a3 pInsert
  | .frz => a1 pFrz
  | .gget kvs => a2 (pGget kvs)
  | _ => fun _ => mbad

/-- a method's owner, looked at ahead of the arguments -/
def isLst (h : Hh) : D → Bool
  | .ref n => match h[n]? with
    | some (.lst _) => true
    | _ => false
  | _ => false
def isDct (h : Hh) : D → Bool
  | .ref n => match h[n]? with
    | some (.dct _) => true
    | _ => false
  | _ => false
def isStrD : D → Bool
  | .str _ => true
  | _ => false
def kindOk : Op → D → Hh → Bool
  | .index, d, h => (seqOf h d).isSome
  | .count, d, h => (lstOf h d).isSome
  | .append, d, h => isLst h d
  | .extend, d, h => isLst h d
  | .insert, d, h => isLst h d
  | .pop0, d, h => isLst h d
  | .pop1, d, h => isLst h d
  | .remove, d, h => isLst h d
  | .strip, d, _ => isStrD d
  | .partition, d, _ => isStrD d
  | .split, d, _ => isStrD d
  | .join, d, _ => isStrD d
  | .get2, d, h => isDct h d
  | .setdef, d, h => isDct h d
  | .values, d, h => isDct h d
  | .keys, d, h => isDct h d
  | .items, d, h => isDct h d
  | _, _, _ => false

def itSeq (ds : List D) (h : Hh) : Option (List D) := match ds with
  | [.str s] => some (s.cps.toList.map fun c => .str (strL [c]))
  | [d] => seqOf h d
  | _ => none
def itR1 (ds : List D) : Option (List D) := match ds with
  | [.int n] => if -100000 ≤ n ∧ n ≤ 100000 then some ((List.range n.toNat).map fun (i : Nat) => .int (i : Int)) else none
  | _ => none
def itR2 (ds : List D) : Option (List D) := match ds with
  | [.int a, .int b] => if -100000 ≤ a ∧ a ≤ 100000 ∧ -100000 ≤ b ∧ b ≤ 100000 then some ((List.range (b - a).toNat).map fun (i : Nat) => .int (a + i)) else none
  | _ => none
def itE (ds : List D) (h : Hh) : Option (List D) := match ds with
  | [d] => (seqOf h d).map fun l => l.zipIdx.map fun p => .tup [.int (p.2 : Nat), p.1]
  | _ => none
def itZ (ds : List D) (h : Hh) : Option (List D) := match ds with
  | [a, b] => match top h a, top h b with
    | .lst l, .lst m => some (List.zipWith (fun x y => .tup [x, y]) l m)
    | .tup l, .tup m => some (List.zipWith (fun x y => .tup [x, y]) l m)
    | _, _ => none
  | _ => none
def itemsOf (k : IK) (ds : List D) (h : Hh) : Option (List D) := match k with
  | .seq => itSeq ds h
  | .rng1 => itR1 ds
  | .rng2 => itR2 ds
  | .enm => itE ds h
  | .zip => itZ ds h
/-- the lists that are walked stand as they stood -/
def still (ds : List D) (h0 h : Hh) : Bool := ds.all fun d => match d with
  | .ref n => decide (h[n]? = h0[n]?)
  | _ => true
def setAll : List Nat → List D → Env → Option Env
  | [], [], r => some r
  | i :: is, d :: ds, r => setAll is ds (r.set i (some d))
  | _, _, _ => none
def bindTg (t : Tg) (d : D) (r : Env) : Option Env := match t with
  | .one i => some (r.set i (some d))
  | .many is => match d with
    | .tup ds => setAll is ds r
    | _ => none
def wipeE (r : Env) : List Nat → Env
  | [] => r
  | v :: vs => (wipeE r vs).set v none

/-- the turns of a comprehension -/
def compL (bd : D → Option Env) (cond : Env → M Bool) (elt : Env → M D) (ok : Hh → Bool) : List D → M (List D)
  | [] => fun h => if ok h = true then .ok [] h else .bad
  | x :: xs => fun h => if ok h = true then (match bd x with
    | some r => bnd (cond r) (fun b => if b = true then bnd (elt r) (fun d => bnd (compL bd cond elt ok xs) fun ds => ret (d :: ds)) else compL bd cond elt ok xs) h
    | none => .bad) else .bad
/-- no exception leaves a comprehension -/
def noexc {α : Type} (m : M α) : M α := fun h => match m h with
  | .exc _ _ => .bad
  | r => r

mutual
def E.ev (Phi : Nat → List D → M D) : E → Env → M D
  | .var i, r => match r[i]? with
    | some (some d) => ret d
    | _ => mbad
  | .cst d, _ => ret d
  | .op o l, r => bnd (E.evs Phi l r) (prim Phi o)
  | .mth o a l, r => bnd (a.ev Phi r) fun d h => if kindOk o d h = true then bnd (E.evs Phi l r) (fun ds => prim Phi o (d :: ds)) h else .bad
  | .and a b, r => bnd (a.ev Phi r) fun x h => match truth h x with
    | some true => b.ev Phi r h
    | some false => .ok x h
    | none => .bad
  | .or a b, r => bnd (a.ev Phi r) fun x h => match truth h x with
    | some true => .ok x h
    | some false => b.ev Phi r h
    | none => .bad
  | .andB a b, r => bnd (a.ev Phi r) fun x => match x with
    | .bl true => b.ev Phi r
    | .bl false => ret (.bl false)
    | _ => mbad
  | .orB a b, r => bnd (a.ev Phi r) fun x => match x with
    | .bl true => ret (.bl true)
    | .bl false => b.ev Phi r
    | _ => mbad
  | .ife c a b, r => bnd (c.ev Phi r) fun x => match x with
    | .bl true => a.ev Phi r
    | .bl false => b.ev Phi r
    | _ => mbad
  | .chain a b c, r => bnd (a.ev Phi r) fun x => bnd (b.ev Phi r) fun y => match x, y with
    | .int i, .int j => if i ≤ j then bnd (c.ev Phi r) fun z => (match z with
        | .int k => ret (.bl (decide (j ≤ k)))
        | _ => mbad) else ret (.bl false)
    | _, _ => mbad
  | .sl2 a b c, r => bnd (a.ev Phi r) fun x => bnd (b.ev Phi r) fun y => match y with
    | .int i => bnd (c.ev Phi r) fun z => slD true true [x, .int i, z]
    | _ => mbad
  | .comp m elt tg k its cond own, r => bnd (E.evs Phi its r) fun ds h => match itemsOf k ds h with
    | some xs => bnd (noexc (compL (fun d => bindTg tg d (wipeE r own)) (E.conds Phi cond) (E.ev Phi elt) (still ds h) xs)) (mkL m) h
    | none => .bad
def E.evs (Phi : Nat → List D → M D) : List E → Env → M (List D)
  | [], _ => ret []
  | e :: es, r => bnd (e.ev Phi r) fun d => bnd (E.evs Phi es r) fun ds => ret (d :: ds)
def E.conds (Phi : Nat → List D → M D) : List E → Env → M Bool
  | [], _ => ret true
  | e :: _, r => bnd (e.ev Phi r) fun d => match d with
    | .bl b => ret b
    | _ => mbad
end

/-! ### statements -/
inductive Fl where | next (r : Env) | ret (d : D)
/-- the turns of a for -/
def forL (bd : D → Env → Option Env) (body : Env → M Fl) (ok : Hh → Bool) : List D → Env → M Fl
  | [], r => ret (.next r)
  | x :: xs, r => fun h => if ok h = true then (match bd x r with
    | some r1 => bnd (body r1) (fun f => match f with
      | .next r2 => fun h2 => if ok h2 = true then forL bd body ok xs r2 h2 else .bad
      | .ret d => ret (.ret d)) h
    | none => .bad) else .bad
def whileL (c : Env → M D) (body : Env → M Fl) : Nat → Env → M Fl
  | 0, _ => mbad
  | n + 1, r => bnd (c r) fun x => match x with
    | .bl true => bnd (body r) fun f => (match f with
      | .next r2 => whileL c body n r2
      | .ret d => ret (.ret d))
    | .bl false => ret (.next r)
    | _ => mbad
def putM (o i v : D) : M D := fun h => match o with
  | .ref n => match h[n]?, i with
    | some (.lst l), .int k => match ixN l.length k with
      | some j => .ok .non (h.set n (.lst (l.set j v)))
      | none => .bad
    | some (.dct kvs), k => if keyD k = true ∧ kvs.length < 100000 then .ok .non (h.set n (.dct (putD kvs k v))) else .bad
    | _, _ => .bad
  | _ => .bad
def setF (fs : List (Str × D)) (f : Str) (v : D) : List (Str × D) := match fs with
  | [] => [(f, v)]
  | (g, x) :: r => if g = f then (g, v) :: r else (g, x) :: setF r f v
def fldM (o : D) (f : Str) (v : D) : M D := fun h => match o with
  | .ref n => match h[n]? with
    | some (.ins c fs) => if fs.length < 100 then .ok .non (h.set n (.ins c (setF fs f v))) else .bad
    | _ => .bad
  | _ => .bad
mutual
def S.ex (Phi : Nat → List D → M D) : S → Env → M Fl
  | .asg i e, r => bnd (e.ev Phi r) fun d => ret (.next (r.set i (some d)))
  | .par i j a b, r => bnd (a.ev Phi r) fun x => bnd (b.ev Phi r) fun y => ret (.next ((r.set i (some x)).set j (some y)))
  | .asgT l e, r => bnd (e.ev Phi r) fun d => match bindTg (.many l) d r with
    | some r1 => ret (.next r1)
    | none => mbad
  | .asgTT l m e, r => bnd (e.ev Phi r) fun d => match d with
    | .tup [a, b] => (match bindTg (.many l) a r with
      | some r1 => (match bindTg (.many m) b r1 with
        | some r2 => ret (.next r2)
        | none => mbad)
      | none => mbad)
    | _ => mbad
  | .put o i v, r => bnd (v.ev Phi r) fun z => bnd (o.ev Phi r) fun x => bnd (i.ev Phi r) fun y => bnd (putM x y z) fun _ => ret (.next r)
  | .fld o f v, r => bnd (v.ev Phi r) fun z => bnd (o.ev Phi r) fun x => bnd (fldM x f z) fun _ => ret (.next r)
  | .exp e, r => bnd (e.ev Phi r) fun _ => ret (.next r)
  | .rtn e, r => bnd (e.ev Phi r) fun d => ret (.ret d)
  | .ite c a b, r => bnd (c.ev Phi r) fun x => match x with
    | .bl true => S.exs Phi a r
    | .bl false => S.exs Phi b r
    | _ => mbad
  | .for_ tg k its body, r => bnd (E.evs Phi its r) fun ds h => match itemsOf k ds h with
    | some xs => forL (bindTg tg) (S.exs Phi body) (still ds h) xs r h
    | none => .bad
  | .while_ c body, r => whileL (c.ev Phi) (S.exs Phi body) 1000 r
  | .raise c l, r => bnd (E.evs Phi l r) fun ds h => match ds with
    | [.str _] => .exc ⟨c, none⟩ h
    | [d] => .exc ⟨c, some d⟩ h
    | _ => .bad
  | .pass, r => ret (.next r)
  | _, _ => mbad
def S.exs (Phi : Nat → List D → M D) : List S → Env → M Fl
  | [], r => ret (.next r)
  | s :: ss, r => bnd (s.ex Phi r) fun f => match f with
    | .next r1 => S.exs Phi ss r1
    | .ret d => ret (.ret d)
end
structure FnDef where
  np : Nat
  ns : Nat
  trim : Bool
  body : List S
mutual
/-- no cell from n on is met -/
def refLt (n : Nat) : D → Bool
  | .ref m => decide (m < n)
  | .tup l => refLts n l
  | .lst l => refLts n l
  | _ => true
def refLts (n : Nat) : List D → Bool
  | [] => true
  | d :: l => refLt n d && refLts n l
end
def cellLt (n : Nat) : Cell → Bool
  | .dead => true
  | .lst l => refLts n l
  | .dct kvs => kvs.all fun kv => refLt n kv.2
  | .ins _ fs => fs.all fun kv => refLt n kv.2
/-- a call's own cells go, where nothing tells of them -/
def trimM (m : M D) : M D := fun h => match m h with
  | .ok d h' => if refLt h.length d = true ∧ (h'.take h.length).all (cellLt h.length) = true then .ok d (h'.take h.length) else .bad
  | .exc x h' => .exc x h'
  | .bad => .bad
def startE (np ns : Nat) (ds : List D) : Env := ds.map some ++ List.replicate (ns - np) none
def outOf (m : M Fl) : M D := bnd m fun f => match f with
  | .next _ => ret .non
  | .ret d => ret d
def FnDef.run (Phi : Nat → List D → M D) (f : FnDef) (ds : List D) : M D :=
  if ds.length = f.np then (if f.trim = true then trimM else id) (outOf (S.exs Phi f.body (startE f.np f.ns ds))) else mbad
def runs (T : Nat → Option FnDef) : Nat → Nat → List D → M D
  | 0 => fun _ _ => mbad
  | k + 1 => fun f ds => match T f with
    | some fd => fd.run (runs T k) ds
    | none => mbad
end TS

set_option Elab.async false
set_option linter.all false
set_option maxRecDepth 100000
set_option maxHeartbeats 4000000
/-! TS2: plain data over HandS's values and heaps; what a meaning promises of a piece of the text. -/
namespace TS
open PySem L2

/-- where the cells stand; what stays for good -/
structure Wd where
  ph : List Addr
  fz : Addr → Prop
/-- the written part, the addresses of defs and classes by number -/
structure Gi where
  K : PySem.W.Frag
  fa : Nat → Option Addr
  ca : Nat → Option Addr

/-- a written tuple -/
def TupK (K : PySem.W.Frag) (a : Addr) (xs : List V) : Prop :=
  ∃ (o : Obj) (its : Array Value) (n : Nat), K.lookup a = some o ∧ o.cls = .type "tuple" ∧ o.dict = none ∧ o.data = .seq its n ∧ its.size ≤ sizeLine ∧ Vals xs its.toList
/-- a tuple that was made: its object is known -/
def TupH (H : Hp) (a : Addr) (xs : List V) : Prop := ∃ o, H a = some (.frz o (.tup xs)) ∧ o.cls = .type "tuple" ∧ o.dict = none

/-- a written list -/
def LstK (K : PySem.W.Frag) (a : Addr) (xs : List V) : Prop :=
  ∃ (o : Obj) (its : Array Value) (n : Nat), K.lookup a = some o ∧ o.cls = .type "list" ∧ o.dict = none ∧ o.data = .seq its n ∧ its.size ≤ sizeLine ∧ Vals xs its.toList
mutual
inductive Rp (g : Gi) (W : Wd) (H : Hp) : D → V → Prop
  | non : Rp g W H .non .non
  | bl (b : Bool) : Rp g W H (.bl b) (.bl b)
  | int (i : Int) : Rp g W H (.int i) (.int i)
  | str (s : Str) : Rp g W H (.str s) (.str s)
  | tup {a : Addr} {vs : List V} {ds : List D} : W.fz a → TupH H a vs → Rps g W H ds vs → Rp g W H (.tup ds) (.ref a)
  | tupK {a : Addr} {vs : List V} {ds : List D} : TupK g.K a vs → Rps g W H ds vs → Rp g W H (.tup ds) (.ref a)
  | lst {a : Addr} {vs : List V} {ds : List D} : W.fz a → H a = some (.lst vs) → Rps g W H ds vs → Rp g W H (.lst ds) (.ref a)
  | scr {a : Addr} {o : Obj} {ns : List Int} : W.fz a → H a = some (.frz o (.lst (ns.map V.int))) → Rp g W H (.scr ns) (.ref a)
  | scrK {a : Addr} {ns : List Int} : LstK g.K a (ns.map V.int) → Rp g W H (.scr ns) (.ref a)
  | ref {n : Nat} {a : Addr} : W.ph[n]? = some a → Rp g W H (.ref n) (.ref a)
  | gl {n : Nat} {a : Addr} : g.fa n = some a → Rp g W H (.gl n) (.ref a)
inductive Rps (g : Gi) (W : Wd) (H : Hp) : List D → List V → Prop
  | nil : Rps g W H [] []
  | cons {d : D} {v : V} {ds : List D} {vs : List V} : Rp g W H d v → Rps g W H ds vs → Rps g W H (d :: ds) (v :: vs)
end

/-- what stays, weakly -/
structure Ew (W W' : Wd) (H H' : Hp) : Prop where
  ph : ∃ l, W'.ph = W.ph ++ l
  fz : ∀ a, W.fz a → W'.fz a
  keep : ∀ a, W.fz a → H' a = H a
/-- .. and whatever is no cell of ours stays; what is new was free -/
structure Ex (W W' : Wd) (H H' : Hp) : Prop extends Ew W W' H H' where
  fresh : ∀ a, a ∈ W'.ph → a ∈ W.ph ∨ H a = none
  old : ∀ a, (H a).isSome = true → a ∉ W.ph → H' a = H a
  nfz : ∀ a, W'.fz a → W.fz a ∨ H a = none ∨ a ∈ W.ph
theorem Ex.refl (W : Wd) (H : Hp) : Ex W W H H := ⟨⟨⟨[], by simp⟩, fun _ h => h, fun _ _ => rfl⟩, fun _ h => .inl h, fun _ _ _ => rfl, fun _ h => .inl h⟩
theorem Ew.trans {W W1 W2 : Wd} {H H1 H2 : Hp} (a : Ew W W1 H H1) (b : Ew W1 W2 H1 H2) : Ew W W2 H H2 := by
  obtain ⟨l, e⟩ := a.ph
  obtain ⟨m, e2⟩ := b.ph
  exact ⟨⟨l ++ m, by rw [e2, e, List.append_assoc]⟩, fun x h => b.fz x (a.fz x h), fun x h => (b.keep x (a.fz x h)).trans (a.keep x h)⟩
theorem Ex.back {W W1 : Wd} {H H1 : Hp} (a : Ex W W1 H H1) {x : Addr} (h : H1 x = none) : H x = none ∨ x ∈ W.ph := by
  by_cases hx : x ∈ W.ph
  · exact .inr hx
  · left
    cases e : H x with
    | none => rfl
    | some o =>
      have := a.old x (by rw [e]; rfl) hx
      rw [h, e] at this
      cases this
theorem Ex.trans {W W1 W2 : Wd} {H H1 H2 : Hp} (a : Ex W W1 H H1) (b : Ex W1 W2 H1 H2) : Ex W W2 H H2 := by
  refine ⟨a.toEw.trans b.toEw, fun x h => ?_, fun x h k => ?_, fun x h => ?_⟩
  · rcases b.fresh x h with z | z
    · exact a.fresh x z
    · rcases a.back z with y | y
      · exact .inr y
      · exact .inl y
  · have e1 := a.old x h k
    have k1 : x ∉ W1.ph := fun z => by
      rcases a.fresh x z with y | y
      · exact k y
      · rw [y] at h; cases h
    exact (b.old x (by rw [e1]; exact h) k1).trans e1
  · rcases b.nfz x h with z | z | z
    · exact a.nfz x z
    · rcases a.back z with y | y
      · exact .inr (.inl y)
      · exact .inr (.inr y)
    · rcases a.fresh x z with y | y
      · exact .inr (.inr y)
      · exact .inr (.inl y)
theorem Ew.at {W W' : Wd} {H H' : Hp} (e : Ew W W' H H') {n : Nat} {a : Addr} (h : W.ph[n]? = some a) : W'.ph[n]? = some a := by
  obtain ⟨l, q⟩ := e.ph
  obtain ⟨hn, _⟩ := List.getElem?_eq_some_iff.mp h
  rw [q, List.getElem?_append_left hn]
  exact h
theorem Ex.at {W W' : Wd} {H H' : Hp} (e : Ex W W' H H') {n : Nat} {a : Addr} (h : W.ph[n]? = some a) : W'.ph[n]? = some a := e.toEw.at h
section
variable {g : Gi} {W W' : Wd} {H H' : Hp}
mutual
theorem Rp.monoW (e : Ew W W' H H') : ∀ {d : D} {v : V}, Rp g W H d v → Rp g W' H' d v
  | _, _, .non => .non
  | _, _, .bl b => .bl b
  | _, _, .int i => .int i
  | _, _, .str s => .str s
  | _, _, .tup f t r => .tup (e.fz _ f) (by
      obtain ⟨o, q, z⟩ := t
      exact ⟨o, (e.keep _ f).trans q, z⟩) (Rps.monoW e r)
  | _, _, .tupK t r => .tupK t (Rps.monoW e r)
  | _, _, .lst f t r => .lst (e.fz _ f) ((e.keep _ f).trans t) (Rps.monoW e r)
  | _, _, .scr f t => .scr (e.fz _ f) ((e.keep _ f).trans t)
  | _, _, .scrK t => .scrK t
  | _, _, .ref h => .ref (e.at h)
  | _, _, .gl h => .gl h
theorem Rps.monoW (e : Ew W W' H H') : ∀ {ds : List D} {vs : List V}, Rps g W H ds vs → Rps g W' H' ds vs
  | _, _, .nil => .nil
  | _, _, .cons r t => .cons (Rp.monoW e r) (Rps.monoW e t)
end
theorem Rp.mono (e : Ex W W' H H') {d : D} {v : V} (r : Rp g W H d v) : Rp g W' H' d v := r.monoW e.toEw
theorem Rps.mono (e : Ex W W' H H') {d : List D} {v : List V} (r : Rps g W H d v) : Rps g W' H' d v := r.monoW e.toEw
theorem Rps.length : ∀ {ds : List D} {vs : List V}, Rps g W H ds vs → ds.length = vs.length
  | _, _, .nil => rfl
  | _, _, .cons _ t => by simp [Rps.length t]
theorem Rps.get : ∀ {ds : List D} {vs : List V} {i : Nat} {d : D}, Rps g W H ds vs → ds[i]? = some d → ∃ v, vs[i]? = some v ∧ Rp g W H d v
  | _, _, _, _, .nil, e => by simp at e
  | _, _, 0, _, .cons r _, e => by simp at e; subst e; exact ⟨_, rfl, r⟩
  | _, _, i + 1, d, .cons _ t, e => by
    obtain ⟨u, h1, h2⟩ := Rps.get (i := i) (d := d) t (by simpa using e)
    exact ⟨u, by simpa using h1, h2⟩
theorem Rps.getV : ∀ {ds : List D} {vs : List V} {i : Nat} {v : V}, Rps g W H ds vs → vs[i]? = some v → ∃ d, ds[i]? = some d ∧ Rp g W H d v
  | _, _, _, _, .nil, e => by simp at e
  | _, _, 0, _, .cons r _, e => by simp at e; subst e; exact ⟨_, rfl, r⟩
  | _, _, i + 1, d, .cons _ t, e => by
    obtain ⟨u, h1, h2⟩ := Rps.getV (i := i) (v := d) t (by simpa using e)
    exact ⟨u, by simpa using h1, h2⟩
theorem Rps.app : ∀ {ds es : List D} {vs us : List V}, Rps g W H ds vs → Rps g W H es us → Rps g W H (ds ++ es) (vs ++ us)
  | _, _, _, _, .nil, s => s
  | _, _, _, _, .cons r t, s => .cons r (Rps.app t s)
theorem Rps.drop : ∀ {ds : List D} {vs : List V} (n : Nat), Rps g W H ds vs → Rps g W H (ds.drop n) (vs.drop n)
  | _, _, 0, r => r
  | _, _, _ + 1, .nil => .nil
  | _, _, n + 1, .cons _ t => Rps.drop n t
theorem Rps.take : ∀ {ds : List D} {vs : List V} (n : Nat), Rps g W H ds vs → Rps g W H (ds.take n) (vs.take n)
  | _, _, 0, _ => .nil
  | _, _, _ + 1, .nil => .nil
  | _, _, n + 1, .cons r t => .cons r (Rps.take n t)
theorem Rps.set {d : D} {v : V} (r : Rp g W H d v) : ∀ {ds : List D} {vs : List V} (n : Nat), Rps g W H ds vs → Rps g W H (ds.set n d) (vs.set n v)
  | _, _, _, .nil => .nil
  | _, _, 0, .cons _ t => .cons r t
  | _, _, n + 1, .cons q t => .cons q (Rps.set r n t)
theorem Rps.erase : ∀ {ds : List D} {vs : List V} (n : Nat), Rps g W H ds vs → Rps g W H (ds.eraseIdx n) (vs.eraseIdx n)
  | _, _, _, .nil => .nil
  | _, _, 0, .cons _ t => t
  | _, _, n + 1, .cons q t => .cons q (Rps.erase n t)
theorem Rps.rep {ds : List D} {vs : List V} (r : Rps g W H ds vs) : ∀ n : Nat, Rps g W H (List.replicate n ds).flatten (List.replicate n vs).flatten
  | 0 => .nil
  | n + 1 => by
    rw [List.replicate_succ, List.replicate_succ, List.flatten_cons, List.flatten_cons]
    exact r.app (Rps.rep r n)
/-- a value tells whether it is None -/
theorem Rp.non_iff {d : D} {v : V} (r : Rp g W H d v) : (d = .non ↔ v = .non) := by
  cases r <;> simp
end

/-! ### the cells -/
def keyV : D → Option Key
  | .int i => some (.inl i)
  | .str s => some (.inr s)
  | _ => none
def CellR (g : Gi) (W : Wd) (H : Hp) (a : Addr) : Cell → Prop
  | .dead => (H a).isSome = true
  | .lst ds => ∃ vs, H a = some (.lst vs) ∧ Rps g W H ds vs
  | .dct kvs => ∃ kvs', H a = some (.dK kvs') ∧ Paired (fun (p : D × D) (q : Key × V) => keyV p.1 = some q.1 ∧ Rp g W H p.2 q.2) kvs kvs'
  | .ins c fs => ∃ C dx fs', H a = some (.ins C dx fs') ∧ g.ca c = some C ∧ Paired (fun (p : Str × D) (q : Str × V) => p.1 = q.1 ∧ Rp g W H p.2 q.2) fs fs'
structure HR (g : Gi) (W : Wd) (h : Hh) (H : Hp) : Prop where
  len : W.ph.length = h.length
  nd : W.ph.Nodup
  fzs : ∀ a, W.fz a → (H a).isSome = true
  dis : ∀ (n : Nat) a c, W.ph[n]? = some a → h[n]? = some c → c ≠ .dead → ¬ W.fz a
  cell : ∀ (n : Nat) a c, W.ph[n]? = some a → h[n]? = some c → CellR g W H a c
theorem paired_imp {α β : Type} {F G : α → β → Prop} : ∀ {l : List α} {m : List β}, Paired F l m → (∀ a b, F a b → G a b) → Paired G l m
  | _, _, .nil, _ => .nil
  | _, _, .cons r t, f => .cons (f _ _ r) (paired_imp t f)
theorem CellR.some {g : Gi} {W : Wd} {H : Hp} {a : Addr} {c : Cell} (r : CellR g W H a c) : (H a).isSome = true := by
  cases c with
  | dead => exact r
  | lst ds => obtain ⟨vs, e, _⟩ := r; rw [e]; rfl
  | dct kvs => obtain ⟨vs, e, _⟩ := r; rw [e]; rfl
  | ins c fs => obtain ⟨_, _, _, e, _⟩ := r; rw [e]; rfl
theorem CellR.monoW {g : Gi} {W W' : Wd} {H H' : Hp} {a : Addr} {c : Cell} (e : Ew W W' H H') (ha : H' a = H a) (r : CellR g W H a c) : CellR g W' H' a c := by
  cases c with
  | dead => show (H' a).isSome = true; rw [ha]; exact r
  | lst ds => obtain ⟨vs, q, z⟩ := r; exact ⟨vs, ha.trans q, z.monoW e⟩
  | dct kvs => obtain ⟨vs, q, z⟩ := r; exact ⟨vs, ha.trans q, paired_imp z fun _ _ y => ⟨y.1, y.2.monoW e⟩⟩
  | ins c fs => obtain ⟨C, dx, f', q, k, z⟩ := r; exact ⟨C, dx, f', ha.trans q, k, paired_imp z fun _ _ y => ⟨y.1, y.2.monoW e⟩⟩
theorem CellR.mono {g : Gi} {W W' : Wd} {H H' : Hp} {a : Addr} {c : Cell} (e : Ex W W' H H') (ha : H' a = H a) (r : CellR g W H a c) : CellR g W' H' a c := r.monoW e.toEw ha
section
variable {g : Gi} {W : Wd} {h : Hh} {H : Hp}
theorem HR.at (R : HR g W h H) {n : Nat} {c : Cell} (e : h[n]? = some c) : ∃ a, W.ph[n]? = some a ∧ CellR g W H a c := by
  obtain ⟨hn, _⟩ := List.getElem?_eq_some_iff.mp e
  have hl : n < W.ph.length := by rw [R.len]; exact hn
  exact ⟨W.ph[n], List.getElem?_eq_getElem hl, R.cell n _ c (List.getElem?_eq_getElem hl) e⟩
theorem HR.has (R : HR g W h H) {n : Nat} {a : Addr} (e : W.ph[n]? = some a) : ∃ c, h[n]? = some c ∧ CellR g W H a c := by
  obtain ⟨hn, _⟩ := List.getElem?_eq_some_iff.mp e
  have hl : n < h.length := by rw [← R.len]; exact hn
  exact ⟨h[n], List.getElem?_eq_getElem hl, R.cell n a _ e (List.getElem?_eq_getElem hl)⟩
theorem HR.in_some (R : HR g W h H) {a : Addr} (e : a ∈ W.ph) : (H a).isSome = true := by
  obtain ⟨n, hn, rfl⟩ := List.getElem_of_mem e
  obtain ⟨c, _, r⟩ := R.has (List.getElem?_eq_getElem hn)
  exact r.some
theorem isSome_ne {H : Hp} {a p : Addr} (h : (H a).isSome = true) (hp : H p = none) : a ≠ p := fun e => by
  rw [e, hp] at h; cases h
/-- one more object, for good -/
theorem ex_new (R : HR g W h H) {p : Addr} {o : HO} (hp : H p = none) : Ex W ⟨W.ph, fun a => W.fz a ∨ a = p⟩ H (upd H p o) :=
  ⟨⟨⟨[], by simp⟩, fun _ z => .inl z, fun a z => upd_ne (isSome_ne (R.fzs a z) hp)⟩, fun _ z => .inl z, fun a z _ => upd_ne (isSome_ne z hp), fun a z => z.elim .inl fun e => .inr (.inl (by rw [e]; exact hp))⟩
theorem hr_new (R : HR g W h H) {p : Addr} {o : HO} (hp : H p = none) : HR g ⟨W.ph, fun a => W.fz a ∨ a = p⟩ h (upd H p o) := by
  refine ⟨R.len, R.nd, fun a z => ?_, fun n a c e q k z => ?_, fun n a c e q => ?_⟩
  · rcases z with z | z
    · rw [upd_ne (isSome_ne (R.fzs a z) hp)]; exact R.fzs a z
    · subst z; rw [upd_same]; rfl
  · rcases z with z | z
    · exact R.dis n a c e q k z
    · subst z
      have := (R.cell n a c e q).some
      rw [hp] at this; cases this
  · have r := R.cell n a c e q
    exact r.mono (ex_new R hp) (upd_ne (isSome_ne r.some hp))
/-- an object that nobody asks for -/
theorem ex_junk (R : HR g W h H) {p : Addr} {o : HO} (hp : H p = none) : Ex W W H (upd H p o) :=
  ⟨⟨⟨[], by simp⟩, fun _ z => z, fun a z => upd_ne (isSome_ne (R.fzs a z) hp)⟩, fun _ z => .inl z, fun a z _ => upd_ne (isSome_ne z hp), fun _ z => .inl z⟩
theorem hr_junk (R : HR g W h H) {p : Addr} {o : HO} (hp : H p = none) : HR g W h (upd H p o) := by
  refine ⟨R.len, R.nd, fun a z => ?_, R.dis, fun n a c e q => ?_⟩
  · rw [upd_ne (isSome_ne (R.fzs a z) hp)]; exact R.fzs a z
  · have r := R.cell n a c e q
    exact r.mono (ex_junk R hp) (upd_ne (isSome_ne r.some hp))
/-- a new cell -/
theorem ex_cell (R : HR g W h H) {p : Addr} {o : HO} (hp : H p = none) : Ex W ⟨W.ph ++ [p], W.fz⟩ H (upd H p o) :=
  ⟨⟨⟨[p], rfl⟩, fun _ z => z, fun a z => upd_ne (isSome_ne (R.fzs a z) hp)⟩, fun a z => by
    rcases List.mem_append.mp z with y | y
    · exact .inl y
    · simp at y
      exact .inr (by rw [y]; exact hp), fun a z _ => upd_ne (isSome_ne z hp), fun _ z => .inl z⟩
theorem hr_cell (R : HR g W h H) {p : Addr} {o : HO} {c : Cell} (hp : H p = none) (hc : CellR g ⟨W.ph ++ [p], W.fz⟩ (upd H p o) p c) : HR g ⟨W.ph ++ [p], W.fz⟩ (h ++ [c]) (upd H p o) := by
  have hnp : p ∉ W.ph := fun z => by
    have := R.in_some z
    rw [hp] at this; cases this
  have key : ∀ (n : Nat) a c', (W.ph ++ [p])[n]? = some a → (h ++ [c])[n]? = some c' → (W.ph[n]? = some a ∧ h[n]? = some c') ∨ (a = p ∧ c' = c) := fun n a c' e q => by
    by_cases hn : n < h.length
    · left
      rw [List.getElem?_append_left (by rw [R.len]; exact hn)] at e
      rw [List.getElem?_append_left hn] at q
      exact ⟨e, q⟩
    · right
      rw [List.getElem?_append_right (by rw [R.len]; omega)] at e
      rw [List.getElem?_append_right (by omega)] at q
      have e1 : n - W.ph.length = 0 := by
        cases k : n - W.ph.length with
        | zero => rfl
        | succ m => rw [k] at e; simp at e
      have e2 : n - h.length = 0 := by rw [← R.len]; exact e1
      rw [e1] at e
      rw [e2] at q
      simp at e q
      exact ⟨e.symm, q.symm⟩
  refine ⟨by simp [R.len], List.nodup_append.mpr ⟨R.nd, by simp, fun a ha b hb e => ?_⟩, fun a z => ?_, fun n a c' e q k z => ?_, fun n a c' e q => ?_⟩
  · simp at hb
    subst hb
    subst e
    exact hnp ha
  · rw [upd_ne (isSome_ne (R.fzs a z) hp)]; exact R.fzs a z
  · rcases key n a c' e q with ⟨e, q⟩ | ⟨rfl, rfl⟩
    · exact R.dis n a c' e q k z
    · have := R.fzs a z
      rw [hp] at this; cases this
  · rcases key n a c' e q with ⟨e, q⟩ | ⟨rfl, rfl⟩
    · have r := R.cell n a c' e q
      exact r.mono (ex_cell R hp) (upd_ne (isSome_ne r.some hp))
    · exact hc
/-- a cell is written -/
theorem ex_set (R : HR g W h H) {n : Nat} {a : Addr} {o : HO} {c0 : Cell} (ha : W.ph[n]? = some a) (h0 : h[n]? = some c0) (hd : c0 ≠ .dead) : Ex W W H (upd H a o) :=
  ⟨⟨⟨[], by simp⟩, fun _ z => z, fun b z => upd_ne fun e => R.dis n a c0 ha h0 hd (e ▸ z)⟩, fun _ z => .inl z, fun b _ k => upd_ne fun e => k (by rw [e]; exact List.mem_of_getElem? ha), fun _ z => .inl z⟩
theorem hr_set (R : HR g W h H) {n : Nat} {a : Addr} {o : HO} {c0 c : Cell} (ha : W.ph[n]? = some a) (h0 : h[n]? = some c0) (hd : c0 ≠ .dead) (hc : CellR g W (upd H a o) a c) : HR g W (h.set n c) (upd H a o) := by
  have hn : n < h.length := (List.getElem?_eq_some_iff.mp h0).1
  have e0 := ex_set (o := o) R ha h0 hd
  refine ⟨by simp [R.len], R.nd, fun b z => ?_, fun m b c' e q k z => ?_, fun m b c' e q => ?_⟩
  · rw [e0.keep b z]; exact R.fzs b z
  · by_cases hm : m = n
    · subst hm
      rw [ha] at e; cases e
      exact R.dis m _ c0 ha h0 hd z
    · rw [List.getElem?_set_ne (Ne.symm hm)] at q
      exact R.dis m b c' e q k z
  · by_cases hm : m = n
    · subst hm
      rw [List.getElem?_set_self hn] at q
      cases q
      rw [ha] at e; cases e
      exact hc
    · rw [List.getElem?_set_ne (Ne.symm hm)] at q
      have hb : b ≠ a := fun z => by
        subst z
        exact hm ((List.getElem?_inj (by have := (List.getElem?_eq_some_iff.mp e).1; exact this) R.nd).mp (e.trans ha.symm))
      exact (R.cell m b c' e q).mono e0 (upd_ne hb)
/-- a list cell becomes a list for good -/
theorem hr_kill (R : HR g W h H) {n : Nat} {a : Addr} {l : List D} (ha : W.ph[n]? = some a) (h0 : h[n]? = some (.lst l)) : HR g ⟨W.ph, fun b => W.fz b ∨ b = a⟩ (h.set n .dead) H ∧ Ex W ⟨W.ph, fun b => W.fz b ∨ b = a⟩ H H := by
  have hn : n < h.length := (List.getElem?_eq_some_iff.mp h0).1
  have e0 : Ex W ⟨W.ph, fun b => W.fz b ∨ b = a⟩ H H := ⟨⟨⟨[], by simp⟩, fun _ z => .inl z, fun _ _ => rfl⟩, fun _ z => .inl z, fun _ _ _ => rfl, fun b z => z.elim .inl fun e => .inr (.inr (by rw [e]; exact List.mem_of_getElem? ha))⟩
  have hs := (R.cell n a _ ha h0).some
  refine ⟨⟨by simp [R.len], R.nd, fun b z => ?_, fun m b c' e q k z => ?_, fun m b c' e q => ?_⟩, e0⟩
  · rcases z with z | z
    · exact R.fzs b z
    · subst z; exact hs
  · by_cases hm : m = n
    · subst hm
      rw [List.getElem?_set_self hn] at q
      cases q
      exact k rfl
    · rw [List.getElem?_set_ne (Ne.symm hm)] at q
      rcases z with z | z
      · exact R.dis m b c' e q k z
      · subst z
        exact hm ((List.getElem?_inj (by have := (List.getElem?_eq_some_iff.mp e).1; exact this) R.nd).mp (e.trans ha.symm))
  · by_cases hm : m = n
    · subst hm
      rw [List.getElem?_set_self hn] at q
      cases q
      rw [ha] at e; cases e
      exact hs
    · rw [List.getElem?_set_ne (Ne.symm hm)] at q
      exact (R.cell m b c' e q).mono e0 rfl
end

/-! ### names -/
structure ER (g : Gi) (W : Wd) (H : Hp) (r : Env) (s : L2.St) : Prop where
  len : r.length = s.length
  at_ : ∀ (i : Nat) d, r[i]? = some (some d) → ∃ v, s[i]? = some (some v) ∧ Rp g W H d v
section
variable {g : Gi} {W W' : Wd} {H H' : Hp} {r : Env} {s : L2.St}
theorem ER.monoW (e : Ew W W' H H') (x : ER g W H r s) : ER g W' H' r s := ⟨x.len, fun i d q => by
  obtain ⟨v, h1, h2⟩ := x.at_ i d q
  exact ⟨v, h1, h2.monoW e⟩⟩
theorem ER.mono (e : Ex W W' H H') (x : ER g W H r s) : ER g W' H' r s := x.monoW e.toEw
theorem ER.set (x : ER g W H r s) (i : Nat) {d : D} {v : V} (q : Rp g W H d v) : ER g W H (r.set i (some d)) (s.set i (some v)) := by
  refine ⟨by simp [x.len], fun j e k => ?_⟩
  by_cases hj : i = j
  · subst hj
    by_cases hi : i < r.length
    · rw [List.getElem?_set_self hi] at k
      cases k
      exact ⟨v, by rw [List.getElem?_set_self (by rw [← x.len]; exact hi)], q⟩
    · rw [List.getElem?_eq_none (by simpa using hi)] at k; cases k
  · rw [List.getElem?_set_ne hj] at k
    obtain ⟨u, h1, h2⟩ := x.at_ j e k
    exact ⟨u, by rw [List.getElem?_set_ne hj]; exact h1, h2⟩
theorem ER.wipe (x : ER g W H r s) : ∀ vs : List Nat, ER g W H (wipeE r vs) (L2.wipe s vs)
  | [] => x
  | v :: vs => by
    have y := ER.wipe x vs
    refine ⟨by simp [wipeE, L2.wipe, y.len], fun j e k => ?_⟩
    unfold wipeE at k
    unfold L2.wipe
    by_cases hj : v = j
    · subst hj
      by_cases hi : v < (wipeE r vs).length
      · rw [List.getElem?_set_self hi] at k; cases k
      · rw [List.getElem?_eq_none (by simpa using hi)] at k; cases k
    · rw [List.getElem?_set_ne hj] at k ⊢
      exact y.at_ j e k
end

/-! ### what is wanted behind a meaning -/
/-- an exception: its class, its field -/
def XR (g : Gi) (W : Wd) (H : Hp) (x : Exn) (cls : Value) (d : Option Addr) : Prop :=
  (∃ C, g.ca x.c = some C ∧ cls = .ref C) ∧ match x.a with
    | none => d = none
    | some y => ∃ dd v, d = some dd ∧ H dd = some (.xd [("at", v)]) ∧ Rp g W H y v
def Pst {α β : Type} (g : Gi) (U : XK) (Rel : Wd → Hp → α → β → Prop) (W : Wd) (H : Hp) (res : Res α) (Q : β → Hp → Prop) : Prop := match res with
  | .ok a h' => ∀ W' b H', Ex W W' H H' → HR g W' h' H' → Rel W' H' a b → Q b H'
  | .exc x h' => ∀ W' H' cls dd, Ex W W' H H' → HR g W' h' H' → XR g W' H' x cls dd → U cls dd H'
  | .bad => False
theorem Pst.mono {α β : Type} {g : Gi} {U : XK} {Rel : Wd → Hp → α → β → Prop} {W W1 : Wd} {H H1 : Hp} {res : Res α} {Q : β → Hp → Prop} (p : Pst g U Rel W H res Q) (e : Ex W W1 H H1) : Pst g U Rel W1 H1 res Q := by
  cases res with
  | ok a h' => exact fun W' b H' x y z => p W' b H' (e.trans x) y z
  | exc x h' => exact fun W' H' c d x y z => p W' H' c d (e.trans x) y z
  | bad => exact p
theorem Pst.imp {α β : Type} {g : Gi} {U : XK} {Rel : Wd → Hp → α → β → Prop} {W : Wd} {H : Hp} {res : Res α} {Q Q' : β → Hp → Prop} (p : Pst g U Rel W H res Q) (k : ∀ b H', Q b H' → Q' b H') : Pst g U Rel W H res Q' := by
  cases res with
  | ok a h' => exact fun W' b H' x y z => k _ _ (p W' b H' x y z)
  | exc x h' => exact p
  | bad => exact p
/-- one meaning, then another -/
theorem Pst.bnd {α β γ δ : Type} {g : Gi} {U : XK} {Rel : Wd → Hp → α → γ → Prop} {Rel' : Wd → Hp → β → δ → Prop} {W : Wd} {H : Hp} {h : Hh} {m : M α} {f : α → M β} {Q : δ → Hp → Prop} {Q1 : γ → Hp → Prop}
    (p : Pst g U Rel' W H (bnd m f h) Q) (k : ∀ a h1 W1 c H1, m h = .ok a h1 → Ex W W1 H H1 → HR g W1 h1 H1 → Rel W1 H1 a c → Pst g U Rel' W1 H1 (f a h1) Q → Q1 c H1) : Pst g U Rel W H (m h) Q1 := by
  unfold TS.bnd at p
  cases e : m h with
  | ok a h1 =>
    rw [e] at p
    exact fun W1 c H1 x y z => k a h1 W1 c H1 e x y z (p.mono x)
  | exc x h1 =>
    rw [e] at p
    exact p
  | bad =>
    rw [e] at p
    exact p
def RelB : Wd → Hp → D → Bool → Prop := fun _ _ d b => d = .bl b

/-- expressions, tests, argument lists, statements by meanings -/
def tE (g : Gi) (U : XK) (f : Env → M D) : TE := fun σ H Q => ∃ W r h, HR g W h H ∧ ER g W H r σ ∧ Pst g U (Rp g) W H (f r h) Q
def tT (g : Gi) (U : XK) (f : Env → M D) : TT := fun σ H Q => ∃ W r h, HR g W h H ∧ ER g W H r σ ∧ Pst g U RelB W H (f r h) Q ∧ (∀ d h', f r h = .ok d h' → ∃ b, d = .bl b)
def tA (g : Gi) (U : XK) (f : Env → M (List D)) : TA := fun σ H Q => ∃ W r h, HR g W h H ∧ ER g W H r σ ∧ Pst g U (Rps g) W H (f r h) Q
def RelF (g : Gi) : Wd → Hp → Fl → (L2.St ⊕ V) → Prop := fun W H f z => match f, z with
  | .next r, .inl σ => ER g W H r σ
  | .ret d, .inr v => Rp g W H d v
  | _, _ => False
def tS (g : Gi) (U : XK) (f : Env → M Fl) : TS := fun D σ H => ∃ W r h, HR g W h H ∧ ER g W H r σ ∧ Pst g U (RelF g) W H (f r h) fun z H' => match z with
  | .inl σ' => D.nx σ' H'
  | .inr v => D.rt v H'
def SE (X : Cx) (g : Gi) (U : XK) (e : Expr) (f : Env → M D) : Prop := PE X e (tE g U f)
def ST (X : Cx) (g : Gi) (U : XK) (e : Expr) (f : Env → M D) : Prop := PT X e (tT g U f)
def SA (X : Cx) (g : Gi) (U : XK) (es : List Expr) (f : Env → M (List D)) : Prop := PA X es (tA g U f)
def SS (X : Cx) (g : Gi) (U : XK) (s : Stmt) (f : Env → M Fl) : Prop := PS X s (tS g U f)
def SSs (X : Cx) (g : Gi) (U : XK) (s : List Stmt) (f : Env → M Fl) : Prop := PSs X s (tS g U f)
theorem PE.to {X : Cx} {e : Expr} {t t' : TE} (h : PE X e t) (k : ∀ σ H Q, t' σ H Q → t σ H Q) : PE X e t' := ⟨fun pins s σ H Q I w => h.run pins s σ H Q I (k σ H Q w)⟩
theorem PT.to {X : Cx} {e : Expr} {t t' : TT} (h : PT X e t) (k : ∀ σ H Q, t' σ H Q → t σ H Q) : PT X e t' := ⟨fun pins s σ H Q I w => h.run pins s σ H Q I (k σ H Q w)⟩
theorem PA.to {X : Cx} {e : List Expr} {t t' : TA} (h : PA X e t) (k : ∀ σ H Q, t' σ H Q → t σ H Q) : PA X e t' := ⟨fun pos pins s σ H Q I w => h.run pos pins s σ H Q I (k σ H Q w)⟩
theorem PS.to {X : Cx} {e : Stmt} {t t' : TS} (h : PS X e t) (k : ∀ D σ H, t' D σ H → t D σ H) : PS X e t' := ⟨fun pins s σ H Q I w => h.run pins s σ H Q I (k Q σ H w)⟩
theorem PSs.to {X : Cx} {e : List Stmt} {t t' : TS} (h : PSs X e t) (k : ∀ D σ H, t' D σ H → t D σ H) : PSs X e t' := ⟨fun pins s σ H Q I w => h.run pins s σ H Q I (k Q σ H w)⟩
end TS

set_option Elab.async false
set_option linter.all false
set_option maxRecDepth 100000
set_option maxHeartbeats 4000000
/-! TS3: one rule a construct: names, constants, displays, operators. -/
namespace TS
open PySem L2
theorem bnd_assoc {α β γ : Type} (m : M α) (f : α → M β) (k : β → M γ) : bnd (bnd m f) k = bnd m fun a => bnd (f a) k := by
  funext h
  simp only [bnd]
  cases m h <;> rfl
theorem ret_bnd {α β : Type} (a : α) (f : α → M β) : bnd (ret a) f = f a := rfl
theorem bnd_ret {α : Type} (m : M α) : bnd m ret = m := by
  funext h
  simp only [bnd]
  cases m h <;> rfl
theorem sz_line {n : Nat} (h : n ≤ 100000) : n ≤ sizeLine := Nat.le_trans h (by decide)
theorem sz_lt {n : Nat} (h : n < 100000) : n < sizeLine := Nat.lt_of_lt_of_le h (by decide)

section
variable {X : Cx} {g : Gi} {U : XK} {Phi : Nat → List D → M D} {W : Wd} {h : Hh} {H : Hp}
theorem tup_sq {ds : List D} {v : V} (hK : g.K = X.K) (r : Rp g W H (.tup ds) v) : ∃ a vs, v = .ref a ∧ SqT X.K H a vs ∧ Rps g W H ds vs := by
  cases r with
  | tup f t q =>
    obtain ⟨o, e, _⟩ := t
    exact ⟨_, _, rfl, .inl (.inr ⟨o, e⟩), q⟩
  | tupK t q =>
    obtain ⟨o, its, n, h1, h2, h3, h4, h5, h6⟩ := t
    exact ⟨_, _, rfl, .inr ⟨o, its, n, hK ▸ h1, h2, h4, h5, h6⟩, q⟩
theorem lst_sq {ds : List D} {v : V} (r : Rp g W H (.lst ds) v) : ∃ a vs, v = .ref a ∧ SqL X.K H a vs ∧ Rps g W H ds vs := by
  cases r with
  | lst f t q => exact ⟨_, _, rfl, SqL.of t, q⟩
theorem rps_ints : ∀ ns : List Int, Rps g W H (ns.map .int) (ns.map V.int)
  | [] => .nil
  | n :: ns => .cons (.int n) (rps_ints ns)
theorem ref_lst (R : HR g W h H) {n : Nat} {v : V} {l : List D} (r : Rp g W H (.ref n) v) (e : h[n]? = some (.lst l)) : ∃ a vs, v = .ref a ∧ W.ph[n]? = some a ∧ H a = some (.lst vs) ∧ Rps g W H l vs := by
  cases r with
  | ref q =>
    obtain ⟨vs, z1, z2⟩ := R.cell n _ _ q e
    exact ⟨_, vs, rfl, q, z1, z2⟩
theorem top_lst (hK : g.K = X.K) (R : HR g W h H) {d : D} {v : V} {l : List D} (r : Rp g W H d v) (e : top h d = .lst l) : ∃ a vs, v = .ref a ∧ SqL X.K H a vs ∧ Rps g W H l vs := by
  cases d with
  | ref n =>
    simp only [top] at e
    split at e
    · rename_i m q
      cases e
      obtain ⟨a, vs, h1, _, h2, h3⟩ := ref_lst R r q
      exact ⟨a, vs, h1, SqL.of h2, h3⟩
    · cases e
  | lst m =>
    cases e
    exact lst_sq r
  | scr ns =>
    cases e
    cases r with
    | scr f t => exact ⟨_, _, rfl, .inl (.inr ⟨_, t⟩), rps_ints ns⟩
    | scrK t => exact ⟨_, _, rfl, .inr (hK ▸ t), rps_ints ns⟩
  | _ => cases e
theorem lstT_sq (R : HR g W h H) {d : D} {v : V} {l : List D} (r : Rp g W H d v) (e : lstT h d = some l) : ∃ a vs, v = .ref a ∧ H a = some (.lst vs) ∧ Rps g W H l vs := by
  cases d with
  | ref n =>
    simp only [lstT] at e
    split at e
    · rename_i m q
      cases e
      obtain ⟨a, vs, h1, _, h2, h3⟩ := ref_lst R r q
      exact ⟨a, vs, h1, h2, h3⟩
    · cases e
  | lst m =>
    cases e
    cases r with
    | lst f t q => exact ⟨_, _, rfl, t, q⟩
  | _ => cases e
theorem lstOf_sq (hK : g.K = X.K) (R : HR g W h H) {d : D} {v : V} {l : List D} (r : Rp g W H d v) (e : lstOf h d = some l) : ∃ a vs, v = .ref a ∧ SqL X.K H a vs ∧ Rps g W H l vs := by
  unfold lstOf at e
  split at e
  · rename_i m q
    cases e
    exact top_lst hK R r q
  · cases e
theorem seq_sq (hK : g.K = X.K) (R : HR g W h H) {d : D} {v : V} {l : List D} (r : Rp g W H d v) (e : seqOf h d = some l) : ∃ a vs, v = .ref a ∧ (SqL X.K H a vs ∨ SqT X.K H a vs) ∧ Rps g W H l vs := by
  unfold seqOf at e
  split at e
  · rename_i m q
    cases e
    cases d with
    | ref n =>
      simp only [top] at q
      split at q <;> cases q
    | tup m =>
      cases q
      obtain ⟨a, vs, h1, h2, h3⟩ := tup_sq hK r
      exact ⟨a, vs, h1, .inr h2, h3⟩
    | _ => cases q
  · rename_i m q
    cases e
    obtain ⟨a, vs, h1, h2, h3⟩ := top_lst (X := X) hK R r q
    exact ⟨a, vs, h1, .inl h2, h3⟩
  · cases e

/-! ### names, constants -/
theorem se_var {i : Nat} {x : Str} {pos : Pos} (hN : X.N[i]? = some x) (hv : Vis X.env.scope x) (hd : (x == ("__debug__" : Str)) = false) (hcd : (x == ("__classdict__" : Str)) = false) : SE X g U (.Name x pos) ((E.var i).ev Phi) :=
  PE.to (pe_var hN hv hd hcd) fun σ H Q ⟨W, r, h, R, Er, p⟩ => by
    rw [E.ev] at p
    rcases e : r[i]? with _ | (_ | d)
    · rw [e] at p; exact p.elim
    · rw [e] at p; exact p.elim
    · rw [e] at p
      obtain ⟨v, e1, e2⟩ := Er.at_ i d e
      exact ⟨v, e1, p W v H (Ex.refl W H) R e2⟩
theorem se_c {e : Expr} {d : D} {v : V} (h : PE X e (tC v)) (r : ∀ W H, Rp g W H d v) : SE X g U e ((E.cst d).ev Phi) :=
  PE.to h fun σ H Q ⟨W, q, hh, R, Er, p⟩ => p W v H (Ex.refl W H) R (r W H)

/-! ### argument lists -/
theorem sa_nil : SA X g U [] (E.evs Phi []) := PA.to pa_nil fun σ H Q ⟨W, r, h, R, Er, p⟩ => p W [] H (Ex.refl W H) R .nil
theorem sa_cons {e : Expr} {es : List Expr} {a : E} {as : List E} (h1 : SE X g U e (a.ev Phi)) (h2 : SA X g U es (E.evs Phi as)) (hs : starEach (e :: es) X.env = (false, eval e X.env) :: starEach es X.env) : SA X g U (e :: es) (E.evs Phi (a :: as)) :=
  PA.to (pa_cons h1 h2 hs) fun σ H Q ⟨W, r, h, R, Er, p⟩ => by
    rw [E.evs] at p
    refine ⟨W, r, h, R, Er, Pst.bnd p fun d h1 W1 v H1 e1 x1 R1 r1 p1 => ?_⟩
    refine ⟨W1, r, h1, R1, Er.mono x1, Pst.bnd p1 fun ds h2 W2 vs H2 e2 x2 R2 r2 p2 => ?_⟩
    exact p2 W2 (v :: vs) H2 (Ex.refl W2 H2) R2 (.cons (r1.mono x2) r2)

/-! ### strict operations -/
def Prim1 (g : Gi) (U : XK) (r : V → Hp → VK → Prop) (p : List D → M D) : Prop := ∀ d x W h H Q, HR g W h H → Rp g W H d x → Pst g U (Rp g) W H (p [d] h) Q → r x H Q
def Prim2 (g : Gi) (U : XK) (r : R2) (p : List D → M D) : Prop := ∀ d e x y W h H Q, HR g W h H → Rp g W H d x → Rp g W H e y → Pst g U (Rp g) W H (p [d, e] h) Q → r x y H Q
def PrimL (g : Gi) (U : XK) (r : List V → Hp → VK → Prop) (p : List D → M D) : Prop := ∀ ds vs W h H Q, HR g W h H → Rps g W H ds vs → Pst g U (Rp g) W H (p ds h) Q → r vs H Q
theorem ev_one (o : Op) (a : E) (r : Env) : (E.op o [a]).ev Phi r = bnd (a.ev Phi r) fun x => prim Phi o [x] := by
  simp only [E.ev, E.evs, bnd_assoc, ret_bnd]
theorem ev_two (o : Op) (a b : E) (r : Env) : (E.op o [a, b]).ev Phi r = bnd (a.ev Phi r) fun x => bnd (b.ev Phi r) fun y => prim Phi o [x, y] := by
  simp only [E.ev, E.evs, bnd_assoc, ret_bnd]
theorem se_op1 {e e1 : Expr} {o : Op} {a : E} {r : V → Hp → VK → Prop} (mk : ∀ {ta : TE}, PE X e1 ta → PE X e (tUn r ta)) (h1 : SE X g U e1 (a.ev Phi)) (hp : Prim1 g U r (prim Phi o)) : SE X g U e ((E.op o [a]).ev Phi) :=
  PE.to (mk h1) fun σ H Q ⟨W, r, h, R, Er, p⟩ => by
    rw [ev_one] at p
    exact ⟨W, r, h, R, Er, Pst.bnd p fun d h1 W1 v H1 e1 x1 R1 r1 p1 => hp d v W1 h1 H1 Q R1 r1 p1⟩
theorem se_op2 {e e1 e2 : Expr} {o : Op} {a b : E} {r : R2} (mk : ∀ {ta tb : TE}, PE X e1 ta → PE X e2 tb → PE X e (tOp r ta tb)) (h1 : SE X g U e1 (a.ev Phi)) (h2 : SE X g U e2 (b.ev Phi)) (hp : Prim2 g U r (prim Phi o)) :
    SE X g U e ((E.op o [a, b]).ev Phi) :=
  PE.to (mk h1 h2) fun σ H Q ⟨W, r, h, R, Er, p⟩ => by
    rw [ev_two] at p
    refine ⟨W, r, h, R, Er, Pst.bnd p fun d h1 W1 v H1 e1 x1 R1 r1 p1 => ?_⟩
    refine ⟨W1, r, h1, R1, Er.mono x1, Pst.bnd p1 fun d2 h2 W2 v2 H2 e2 x2 R2 r2 p2 => ?_⟩
    exact hp d d2 v v2 W2 h2 H2 Q R2 (r1.mono x2) r2 p2
theorem se_opL {e : Expr} {es : List Expr} {o : Op} {as : List E} {r : List V → Hp → VK → Prop} (mk : ∀ {t : TA}, PA X es t → PE X e (tCB r t)) (h1 : SA X g U es (E.evs Phi as)) (hp : PrimL g U r (prim Phi o)) : SE X g U e ((E.op o as).ev Phi) :=
  PE.to (mk h1) fun σ H Q ⟨W, r, h, R, Er, p⟩ => by
    rw [E.ev] at p
    exact ⟨W, r, h, R, Er, Pst.bnd p fun ds h1 W1 vs H1 e1 x1 R1 r1 p1 => hp ds vs W1 h1 H1 Q R1 r1 p1⟩

/-! ### displays -/
/-- a new tuple, its object known -/
def tTupF (t : TA) : TE := fun σ H Q => t σ H fun xs H1 => xs.length ≤ sizeLine ∧ ∀ p o, H1 p = none → o.cls = .type "tuple" → o.dict = none → Q (.ref p) (upd H1 p (.frz o (.tup xs)))
theorem pe_tupF {es : List Expr} {t : TA} {x1 : Nat} {pos : Pos} (ha : PA X es t) : PE X (.Tuple es x1 pos) (tTupF t) := by
  refine ⟨fun pins s σ H Q I hq => ?_⟩
  refine PySem.wpAny_Tuple_spliced (thn (ha.run pos pins s σ H _ I hq) fun us s1 ⟨xs, H1, I1, r, z, q⟩ => ⟨by rw [← r.length]; exact z, ?_⟩)
  have hf : H1 s1.heap.objs.size = none := I1.hok.fresh (Nat.le_refl _)
  refine ⟨.ref s1.heap.objs.size, upd H1 s1.heap.objs.size (.frz { cls := .type "tuple", data := .seq us.toArray } (.tup xs)), I1.laid (t' := s1.toks) (fun b u e => Heap.get?_push_of_some _ e) (Nat.le_refl _) ?_, rfl, q _ _ hf rfl rfl⟩
  exact ⟨Heap.get?_push_size _ rfl, z, us, r, ⟨_, Heap.get?_push_size _ rfl, rfl, _, rfl⟩⟩
theorem rp_new (R : HR g W h H) {p : Addr} {o : Obj} {ds : List D} {vs : List V} (hp : H p = none) (h1 : o.cls = .type "tuple") (h2 : o.dict = none) (r : Rps g W H ds vs) :
    Rp g ⟨W.ph, fun a => W.fz a ∨ a = p⟩ (upd H p (.frz o (.tup vs))) (.tup ds) (.ref p) :=
  .tup (.inr rfl) ⟨o, upd_same, h1, h2⟩ (r.mono (ex_new R hp))
theorem pst_tup (R : HR g W h H) {p : Addr} {o : Obj} {ds : List D} {vs : List V} {Q : VK} (hp : H p = none) (h1 : o.cls = .type "tuple") (h2 : o.dict = none) (r : Rps g W H ds vs) (q : Pst g U (Rp g) W H (.ok (.tup ds) h) Q) :
    Q (.ref p) (upd H p (.frz o (.tup vs))) := q _ _ _ (ex_new R hp) (hr_new R hp) (rp_new R hp h1 h2 r)
theorem pst_lst (R : HR g W h H) {p : Addr} {m : Bool} {ds : List D} {vs : List V} {Q : VK} (hp : H p = none) (r : Rps g W H ds vs) (q : Pst g U (Rp g) W H (mkL m ds h) Q) :
    ds.length ≤ 100000 ∧ Q (.ref p) (upd H p (.lst vs)) := by
  unfold mkL at q
  split at q
  · rename_i hl
    refine ⟨hl, ?_⟩
    split at q
    · refine q ⟨W.ph ++ [p], W.fz⟩ _ _ (ex_cell R hp) (hr_cell R hp ⟨vs, upd_same, r.mono (ex_cell R hp)⟩) (.ref ?_)
      rw [← R.len]
      simp
    · exact q _ _ _ (ex_new R hp) (hr_new R hp) (.lst (.inr rfl) upd_same (r.mono (ex_new R hp)))
  · exact q.elim
theorem se_tup {es : List Expr} {as : List E} {x1 : Nat} {pos : Pos} (ha : SA X g U es (E.evs Phi as)) : SE X g U (.Tuple es x1 pos) ((E.op .tup as).ev Phi) :=
  PE.to (pe_tupF ha) fun σ H Q ⟨W, r, h, R, Er, p⟩ => by
    rw [E.ev] at p
    refine ⟨W, r, h, R, Er, Pst.bnd p fun ds h1 W1 vs H1 e1 x1 R1 r1 p1 => ?_⟩
    replace p1 : Pst g U (Rp g) W1 H1 (mkT ds h1) Q := p1
    unfold mkT at p1
    split at p1
    · rename_i hl
      exact ⟨sz_line (by rw [← r1.length]; exact hl), fun p o hp c1 c2 => pst_tup R1 hp c1 c2 r1 p1⟩
    · exact p1.elim
theorem se_lst {es : List Expr} {as : List E} {m : Bool} {pos : Pos} (ha : SA X g U es (E.evs Phi as)) : SE X g U (.List es pos) ((E.op (.lst m) as).ev Phi) :=
  PE.to (pe_lst ha) fun σ H Q ⟨W, r, h, R, Er, p⟩ => by
    rw [E.ev] at p
    refine ⟨W, r, h, R, Er, Pst.bnd p fun ds h1 W1 vs H1 e1 x1 R1 r1 p1 => ?_⟩
    replace p1 : Pst g U (Rp g) W1 H1 (mkL m ds h1) Q := p1
    have hl : ds.length ≤ 100000 := by
      unfold mkL at p1
      split at p1
      · assumption
      · exact p1.elim
    exact ⟨sz_line (by rw [← r1.length]; exact hl), fun p hp => (pst_lst R1 hp r1 p1).2⟩
end
end TS

set_option Elab.async false
set_option linter.all false
set_option maxRecDepth 100000
set_option maxHeartbeats 4000000
/-! TS4: operators. -/
namespace TS
open PySem L2
section
variable {X : Cx} {g : Gi} {U : XK} {Phi : Nat → List D → M D} {W : Wd} {h : Hh} {H : Hp}
/-- t + u, the new one's object known -/
def rCatF (K : PySem.W.Frag) : R2 := fun x y H Q => ∃ a b xs ys, x = .ref a ∧ y = .ref b ∧ SqT K H a xs ∧ SqT K H b ys ∧ xs.length + ys.length ≤ sizeLine ∧
  (xs = [] → Q (.ref b) H) ∧ (xs ≠ [] → ys = [] → Q (.ref a) H) ∧ (xs ≠ [] → ys ≠ [] → ∀ p o, H p = none → o.cls = .type "tuple" → o.dict = none → Q (.ref p) (upd H p (.frz o (.tup (xs ++ ys)))))
theorem op_catF : OpR X (binaryOp .Add) (rCatF X.K) := by
  intro pins s σ H x y v u Q I rx ry h
  obtain ⟨a, b, xs, ys, rfl, rfl, ha, hb, hz, q0, q1, q2⟩ := h
  cases rx
  cases ry
  obtain ⟨its, r1, p1, _⟩ := I.tuple ha
  obtain ⟨its2, r2, p2, _⟩ := I.tuple hb
  by_cases hx : xs = []
  · subst hx
    cases r1
    exact cat_tup0 p1 p2 ⟨.ref b, H, I, rfl, q0 rfl⟩
  · refine HT.cat_tup p1 p2 (fun z => hx (r1.nil_iff.mp z)) (fun z => ⟨.ref a, H, I, rfl, q1 hx (r2.nil_iff.mp z)⟩) (fun z => ?_) (by rw [← r1.length, ← r2.length]; exact hz)
    refine ⟨.ref s.heap.objs.size, _, I.laid (t' := s.toks) (o := .frz { cls := .type "tuple", data := .seq (its ++ its2).toArray } (.tup (xs ++ ys))) (fun b ob q => Heap.get?_push_of_some _ q) (Nat.le_refl _) ?_, rfl, q2 hx (fun w => z (r2.nil_iff.mpr w)) _ _ (I.hok.fresh (Nat.le_refl _)) rfl rfl⟩
    exact ⟨Heap.get?_push_size _ rfl, by rw [List.length_append]; exact hz, _, r1.append r2, PyProof.Rows.IsTup.new _ _⟩
def rAddI : R2 := rI0 fun i j => .int (i + j)
def rAddS : R2 := fun x y H Q => ∃ i j, x = .str i ∧ y = .str j ∧ i.length + j.length ≤ sizeLine ∧ Q (.str (i ++ j)) H
def rAddA (K : PySem.W.Frag) : R2 := fun x y H Q => rAddI x y H Q ∨ rAddS x y H Q ∨ rCatF K x y H Q ∨ rCat x y H Q
theorem op_addA : OpR X (binaryOp .Add) (rAddA X.K) := op_add.or (op_add_str.or (op_catF.or op_cat))
theorem pr_add (hK : g.K = X.K) (m : Bool) : Prim2 g U (rAddA X.K) (prim Phi (.add m)) := by
  intro d e x y W h H Q R r1 r2 p
  replace p : Pst g U (Rp g) W H (addD m d e h) Q := p
  unfold addD at p
  split at p
  · cases r1; cases r2
    exact .inl ⟨_, _, rfl, rfl, p W _ H (Ex.refl W H) R (.int _)⟩
  · cases r1; cases r2
    split at p
    · rename_i hl
      exact .inr (.inl ⟨_, _, rfl, rfl, sz_line hl, p W _ H (Ex.refl W H) R (.str _)⟩)
    · exact p.elim
  · rename_i l k
    unfold mkT at p
    split at p
    · rename_i hl
      obtain ⟨a, vs, rfl, s1, q1⟩ := tup_sq hK r1
      obtain ⟨b, us, rfl, s2, q2⟩ := tup_sq hK r2
      have l1 := q1.length
      have l2 := q2.length
      rw [List.length_append] at hl
      refine .inr (.inr (.inl ⟨a, b, vs, us, rfl, rfl, s1, s2, sz_line (by omega), fun e0 => ?_, fun _ e0 => ?_, fun _ _ p0 o hp c1 c2 => ?_⟩))
      · subst e0
        cases q1
        exact p W _ H (Ex.refl W H) R r2
      · subst e0
        cases q2
        rw [List.append_nil] at p
        exact p W _ H (Ex.refl W H) R r1
      · exact pst_tup R hp c1 c2 (q1.app q2) p
    · exact p.elim
  · split at p
    · rename_i l k e1 e2
      obtain ⟨a, vs, rfl, s1, q1⟩ := lstT_sq R r1 e1
      obtain ⟨b, us, rfl, s2, q2⟩ := lstT_sq R r2 e2
      have hl : (l ++ k).length ≤ 100000 := by
        unfold mkL at p
        split at p
        · assumption
        · exact p.elim
      have l1 := q1.length
      have l2 := q2.length
      rw [List.length_append] at hl
      exact .inr (.inr (.inr ⟨a, b, vs, us, rfl, rfl, s1, s2, sz_line (by omega), fun p0 hp => (pst_lst R hp (q1.app q2) p).2⟩))
    · exact p.elim
theorem se_add {e1 e2 : Expr} {a b : E} {m : Bool} {pos : Pos} (hK : g.K = X.K) (h1 : SE X g U e1 (a.ev Phi)) (h2 : SE X g U e2 (b.ev Phi)) : SE X g U (.BinOp e1 .Add e2 pos) ((E.op (.add m) [a, b]).ev Phi) :=
  se_op2 (fun p q => pe_op op_addA p q) h1 h2 (pr_add hK m)

/-! ### ints -/
theorem pr_int2 {r : R2} {f : Int → Int → M D} {o : Op} (ho : prim Phi o = a2 (int2 f)) (hr : ∀ i j W h H Q, HR g W h H → Pst g U (Rp g) W H (f i j h) Q → r (.int i) (.int j) H Q) : Prim2 g U r (prim Phi o) := by
  intro d e x y W h H Q R r1 r2 p
  rw [ho] at p
  replace p : Pst g U (Rp g) W H (int2 f d e h) Q := p
  unfold int2 at p
  cases d with
  | int i =>
    cases e with
    | int j =>
      cases r1; cases r2
      exact hr i j W h H Q R p
    | _ => exact p.elim
  | _ => exact p.elim
theorem se_sub {e1 e2 : Expr} {a b : E} {pos : Pos} (h1 : SE X g U e1 (a.ev Phi)) (h2 : SE X g U e2 (b.ev Phi)) : SE X g U (.BinOp e1 .Sub e2 pos) ((E.op .sub [a, b]).ev Phi) :=
  se_op2 (fun p q => pe_op op_sub p q) h1 h2 (pr_int2 rfl fun i j W h H Q R p => ⟨i, j, rfl, rfl, p W _ H (Ex.refl W H) R (.int _)⟩)
theorem se_mod {e1 e2 : Expr} {a b : E} {pos : Pos} (h1 : SE X g U e1 (a.ev Phi)) (h2 : SE X g U e2 (b.ev Phi)) : SE X g U (.BinOp e1 .Mod e2 pos) ((E.op .mod [a, b]).ev Phi) :=
  se_op2 (fun p q => pe_op op_mod p q) h1 h2 (pr_int2 rfl fun i j W h H Q R p => by
    unfold pMod guardM at p
    split at p
    · rename_i hj
      exact ⟨i, j, rfl, rfl, of_decide_eq_true hj, p W _ H (Ex.refl W H) R (.int _)⟩
    · exact p.elim)
theorem se_pow {e1 e2 : Expr} {a b : E} {pos : Pos} (h1 : SE X g U e1 (a.ev Phi)) (h2 : SE X g U e2 (b.ev Phi)) : SE X g U (.BinOp e1 .Pow e2 pos) ((E.op .pow [a, b]).ev Phi) :=
  se_op2 (fun p q => pe_op op_pow p q) h1 h2 (pr_int2 rfl fun i j W h H Q R p => by
    unfold pPow guardM at p
    split at p
    · rename_i hj
      simp only [Bool.and_eq_true, decide_eq_true_eq] at hj
      exact ⟨i, j, rfl, rfl, ⟨hj.1.1, hj.1.2, hj.2⟩, p W _ H (Ex.refl W H) R (.int _)⟩
    · exact p.elim)
theorem se_neg {e1 : Expr} {a : E} {pos : Pos} (h1 : SE X g U e1 (a.ev Phi)) : SE X g U (.UnaryOp .USub e1 pos) ((E.op .neg [a]).ev Phi) :=
  se_op1 (fun p => pe_un un_neg p) h1 (by
    intro d x W h H Q R r p
    replace p : Pst g U (Rp g) W H (pNeg d h) Q := p
    cases d with
    | int i =>
      cases r
      exact ⟨i, rfl, p W _ H (Ex.refl W H) R (.int _)⟩
    | _ => exact p.elim)
theorem se_cmpI {e1 e2 : Expr} {a b : E} {op : CmpOp} {o : Op} {f : Int → Int → Bool} {pos : Pos} (ho : prim Phi o = a2 (int2 fun i j => ret (.bl (f i j)))) (hop : OpR X (compareOp op) (rI0 fun i j => .bl (f i j))) (hm : behindInMarks op e2 = false)
    (h1 : SE X g U e1 (a.ev Phi)) (h2 : SE X g U e2 (b.ev Phi)) : SE X g U (.Compare e1 [op] [e2] pos) ((E.op o [a, b]).ev Phi) :=
  se_op2 (fun p q => pe_cmpR hop p q hm) h1 h2 (pr_int2 ho fun i j W h H Q R p => ⟨i, j, rfl, rfl, p W _ H (Ex.refl W H) R (.bl _)⟩)
theorem se_lt {e1 e2 : Expr} {a b : E} {pos : Pos} (h1 : SE X g U e1 (a.ev Phi)) (h2 : SE X g U e2 (b.ev Phi)) : SE X g U (.Compare e1 [.Lt] [e2] pos) ((E.op .lt [a, b]).ev Phi) := se_cmpI (f := fun i j => decide (i < j)) rfl op_lt (nomark _) h1 h2
theorem se_le {e1 e2 : Expr} {a b : E} {pos : Pos} (h1 : SE X g U e1 (a.ev Phi)) (h2 : SE X g U e2 (b.ev Phi)) : SE X g U (.Compare e1 [.LtE] [e2] pos) ((E.op .le [a, b]).ev Phi) := se_cmpI (f := fun i j => decide (i ≤ j)) rfl op_le (nomark _) h1 h2
theorem se_gt {e1 e2 : Expr} {a b : E} {pos : Pos} (h1 : SE X g U e1 (a.ev Phi)) (h2 : SE X g U e2 (b.ev Phi)) : SE X g U (.Compare e1 [.Gt] [e2] pos) ((E.op .gt [a, b]).ev Phi) := se_cmpI (f := fun i j => decide (j < i)) rfl op_gt (nomark _) h1 h2
theorem se_ge {e1 e2 : Expr} {a b : E} {pos : Pos} (h1 : SE X g U e1 (a.ev Phi)) (h2 : SE X g U e2 (b.ev Phi)) : SE X g U (.Compare e1 [.GtE] [e2] pos) ((E.op .ge [a, b]).ev Phi) := se_cmpI (f := fun i j => decide (j ≤ i)) rfl op_ge (nomark _) h1 h2
theorem se_isN {e1 : Expr} {a : E} {j : Nat} {pos p' : Pos} (h1 : SE X g U e1 (a.ev Phi)) : SE X g U (.Compare e1 [.Is] [.Constant .none j p'] pos) ((E.op .isN [a]).ev Phi) :=
  se_op1 (r := fun x H Q => Q (.bl (decide (x = .non))) H) (fun p => pe_cmp (pc_isN p)) h1 (by
    intro d x W h H Q R r p
    have e : decide (d = .non) = decide (x = .non) := by
      by_cases q : d = .non
      · rw [decide_eq_true q, decide_eq_true (r.non_iff.mp q)]
      · rw [decide_eq_false q, decide_eq_false fun z => q (r.non_iff.mpr z)]
    rw [← e]
    exact p W _ H (Ex.refl W H) R (.bl _))
theorem se_isnN {e1 : Expr} {a : E} {j : Nat} {pos p' : Pos} (h1 : SE X g U e1 (a.ev Phi)) : SE X g U (.Compare e1 [.IsNot] [.Constant .none j p'] pos) ((E.op .isnN [a]).ev Phi) :=
  se_op1 (r := fun x H Q => Q (.bl (!decide (x = .non))) H) (fun p => pe_cmp (pc_notN p)) h1 (by
    intro d x W h H Q R r p
    have e : decide (d = .non) = decide (x = .non) := by
      by_cases q : d = .non
      · rw [decide_eq_true q, decide_eq_true (r.non_iff.mp q)]
      · rw [decide_eq_false q, decide_eq_false fun z => q (r.non_iff.mpr z)]
    rw [← e]
    exact p W _ H (Ex.refl W H) R (.bl _))

/-! ### products -/
def rRepF (K : PySem.W.Frag) : R2 := fun x y H Q => ∃ l k xs, x = .ref l ∧ y = .int k ∧ SqT K H l xs ∧ xs ≠ [] ∧ 2 ≤ k ∧ k ≤ 1000 ∧ xs.length ≤ 1000 ∧ ∀ p o, H p = none → o.cls = .type "tuple" → o.dict = none → Q (.ref p) (upd H p (.frz o (.tup (List.replicate k.toNat xs).flatten)))
end
end TS

set_option Elab.async false
set_option linter.all false
set_option maxRecDepth 100000
set_option maxHeartbeats 4000000
/-! TS5: == over plain data; in, index, count. -/
namespace TS
open PySem L2 PySem.SeqAt
mutual
inductive View (s : Shared) : D → Value → Prop
  | non : View s .non .none
  | bl (b : Bool) : View s (.bl b) (.bool b)
  | int (i : Int) (t : Tok) : View s (.int i) (.int i t)
  | str (x : Str) (t : Tok) : View s (.str x) (.str x t)
  | lst {l : Addr} {items : Array Value} {ds : List D} : s.heap.IsList l items → Views s ds items.toList → View s (.lst ds) (.ref l)
  | tup {l : Addr} {items : Array Value} {ds : List D} : s.heap.IsTuple l items → Views s ds items.toList → View s (.tup ds) (.ref l)
inductive Views (s : Shared) : List D → List Value → Prop
  | nil : Views s [] []
  | cons {d : D} {v : Value} {ds : List D} {vs : List Value} : View s d v → Views s ds vs → Views s (d :: ds) (v :: vs)
end
theorem isList_inj {h : Heap} {l : Addr} {a b : Array Value} (x : h.IsList l a) (y : h.IsList l b) : a = b := by
  obtain ⟨o, h1, _, n, h2⟩ := x
  obtain ⟨o', h1', _, n', h2'⟩ := y
  rw [h1] at h1'; cases h1'
  rw [h2] at h2'; injection h2'
theorem isTuple_inj {h : Heap} {l : Addr} {a b : Array Value} (x : h.IsTuple l a) (y : h.IsTuple l b) : a = b := by
  obtain ⟨o, h1, _, n, h2⟩ := x
  obtain ⟨o', h1', _, n', h2'⟩ := y
  rw [h1] at h1'; cases h1'
  rw [h2] at h2'; injection h2'
theorem list_not_tuple {h : Heap} {l : Addr} {a b : Array Value} (x : h.IsList l a) (y : h.IsTuple l b) : False := by
  obtain ⟨o, h1, c, _⟩ := x
  obtain ⟨o', h1', c', _⟩ := y
  rw [h1] at h1'; cases h1'
  rw [c] at c'
  injection c' with z
  exact absurd z (by decide)
mutual
theorem View.unique {s : Shared} : ∀ {d e : D} {v : Value}, View s d v → View s e v → d = e
  | _, _, _, .non, y => by cases y; rfl
  | _, _, _, .bl b, y => by cases y; rfl
  | _, _, _, .int i t, y => by cases y; rfl
  | _, _, _, .str x t, y => by cases y; rfl
  | _, _, _, .lst hl r, y => by
    cases y with
    | lst hl' r' => cases isList_inj hl hl'; rw [Views.unique r r']
    | tup hl' r' => exact (list_not_tuple hl hl').elim
  | _, _, _, .tup hl r, y => by
    cases y with
    | lst hl' r' => exact (list_not_tuple hl' hl).elim
    | tup hl' r' => cases isTuple_inj hl hl'; rw [Views.unique r r']
theorem Views.unique {s : Shared} : ∀ {d e : List D} {v : List Value}, Views s d v → Views s e v → d = e
  | _, _, _, .nil, y => by cases y; rfl
  | _, _, _, .cons a b, y => by
    cases y with
    | cons a' b' => rw [View.unique a a', Views.unique b b']
end
theorem Views.length {s : Shared} : ∀ {d : List D} {v : List Value}, Views s d v → d.length = v.length
  | _, _, .nil => rfl
  | _, _, .cons _ t => by simp [Views.length t]
theorem Views.get {s : Shared} : ∀ {ds : List D} {vs : List Value} {i : Nat} {v : Value}, Views s ds vs → vs[i]? = some v → ∃ d, ds[i]? = some d ∧ View s d v
  | _, _, _, _, .nil, e => by simp at e
  | _, _, 0, _, .cons r _, e => by simp at e; subst e; exact ⟨_, rfl, r⟩
  | _, _, i + 1, d, .cons _ t, e => by
    obtain ⟨u, h1, h2⟩ := Views.get (i := i) (v := d) t (by simpa using e)
    exact ⟨u, by simpa using h1, h2⟩
mutual
def dep : D → Nat
  | .tup l => deps l + 1
  | .lst l => deps l + 1
  | _ => 0
def deps : List D → Nat
  | [] => 0
  | d :: ds => max (dep d) (deps ds)
end
theorem deps_le {n : Nat} : ∀ {l : List D}, (∀ d ∈ l, dep d ≤ n) → deps l ≤ n
  | [], _ => by simp [deps]
  | d :: ds, h => by
    rw [deps]
    exact Nat.max_le.mpr ⟨h d List.mem_cons_self, deps_le fun x hx => h x (List.mem_cons_of_mem _ hx)⟩
theorem pu_dep : ∀ (n : Nat) (d : D), pu n d = true → dep d ≤ n
  | n, .non, _ => by simp [dep]
  | n, .bl _, _ => by simp [dep]
  | n, .int _, _ => by simp [dep]
  | n, .str _, _ => by simp [dep]
  | 0, .tup l, h => by simp [pu] at h
  | 0, .lst l, h => by simp [pu] at h
  | n, .ref _, h => by simp [dep]
  | n, .gl _, h => by simp [dep]
  | n, .scr _, h => by simp [dep]
  | n + 1, .tup l, h => by
    simp only [pu, List.all_eq_true] at h
    rw [dep]
    have := deps_le (n := n) (l := l) fun d hd => pu_dep n d (h d hd)
    omega
  | n + 1, .lst l, h => by
    simp only [pu, List.all_eq_true] at h
    rw [dep]
    have := deps_le (n := n) (l := l) fun d hd => pu_dep n d (h d hd)
    omega
mutual
theorem eqD_refl : ∀ (d : D) (n : Nat), pu n d = true → eqD d d = true
  | .non, _, _ => by simp [eqD]
  | .bl _, _, _ => by simp [eqD]
  | .int _, _, _ => by simp [eqD]
  | .str _, _, _ => by simp [eqD]
  | .tup l, 0, h => by simp [pu] at h
  | .lst l, 0, h => by simp [pu] at h
  | .ref _, n, h => by cases n <;> simp [pu] at h
  | .gl _, n, h => by cases n <;> simp [pu] at h
  | .scr _, n, h => by cases n <;> simp [pu] at h
  | .tup l, n + 1, h => by
    simp only [pu] at h
    rw [eqD]; exact eqDs_refl l n h
  | .lst l, n + 1, h => by
    simp only [pu] at h
    rw [eqD]; exact eqDs_refl l n h
theorem eqDs_refl : ∀ (l : List D) (n : Nat), l.all (pu n) = true → eqDs l l = true
  | [], _, _ => by simp [eqDs]
  | d :: ds, n, h => by
    rw [List.all_cons, Bool.and_eq_true] at h
    rw [eqDs, eqD_refl d n h.1, eqDs_refl ds n h.2]; rfl
end
abbrev pairD (xs ys : List D) (j : Nat) : Bool := eqD (xs.getD j .non) (ys.getD j .non)
theorem eqDs_eq : ∀ xs ys : List D, ((List.range (min xs.length ys.length)).all (pairD xs ys) && xs.length == ys.length) = eqDs xs ys
  | [], [] => by simp [eqDs]
  | [], _ :: _ => by simp [eqDs]
  | _ :: _, [] => by simp [eqDs]
  | x :: xs, y :: ys => by
    have ih := eqDs_eq xs ys
    have e1 : min (x :: xs).length (y :: ys).length = min xs.length ys.length + 1 := by simp only [List.length_cons]; omega
    have e2 : ((x :: xs).length == (y :: ys).length) = (xs.length == ys.length) := by simp
    have e3 : (List.range (min xs.length ys.length + 1)).all (pairD (x :: xs) (y :: ys)) = (eqD x y && (List.range (min xs.length ys.length)).all (pairD xs ys)) := by
      rw [List.range_succ_eq_map, List.all_cons, List.all_map]
      rfl
    rw [e1, e2, e3, eqDs, ← ih, Bool.and_assoc]
theorem eqDs_same {xs ys : List D} (h : xs.length = ys.length) : (List.range xs.length).all (pairD xs ys) = eqDs xs ys := by
  have := eqDs_eq xs ys
  rw [← h, Nat.min_self] at this
  simpa using this
theorem eqDs_other {xs ys : List D} (h : xs.length ≠ ys.length) : eqDs xs ys = false := by
  rw [← eqDs_eq xs ys]
  simp [h]
theorem room1 {A : Around} {n : Nat} (h : A.units + n < cLine) : A.units < cLine := by omega
theorem room2 {A : Around} {n : Nat} (h : A.units + (n + 1) < cLine) : A.in1.units + n < cLine := by
  show A.units + 1 + n < cLine
  omega
mutual
theorem eqAt_view : ∀ (da db : D) (A : Around) (s : Shared) (a b : Value), View s da a → View s db b → (∃ n, pu n da = true) → A.units + dep da < cLine → EqAt A s a b (eqD da db)
  | .non, _, A, s, _, _, ra, rb, _, hu => by
    cases ra
    cases rb with
    | non => exact EqAt.same _
    | bl y => exact EqAt.none_bool y
    | int y u => exact EqAt.none_int y u
    | str y u => exact EqAt.none_str y u
    | lst k1 k4 => exact EqAt.none_list k1 (room1 hu)
    | tup k1 k4 => exact EqAt.none_tuple k1 (room1 hu)
  | .bl x, _, A, s, _, _, ra, rb, _, hu => by
    cases ra
    cases rb with
    | non => exact EqAt.bool_none x
    | bl y => exact EqAt.bool_bool x y
    | int y u => exact EqAt.bool_int x y u
    | str y u => exact EqAt.bool_str x y u
    | lst k1 k4 => exact EqAt.bool_list x k1 (room1 hu)
    | tup k1 k4 => exact EqAt.bool_tuple x k1 (room1 hu)
  | .int x, _, A, s, _, _, ra, rb, _, hu => by
    cases ra with
    | int _ t =>
      cases rb with
      | non => exact EqAt.int_none x t
      | bl y => exact EqAt.int_bool x t y
      | int y u => exact EqAt.int_int x t y u
      | str y u => exact EqAt.int_str x t y u
      | lst k1 k4 => exact EqAt.int_list x t k1 (room1 hu)
      | tup k1 k4 => exact EqAt.int_tuple x t k1 (room1 hu)
  | .str x, _, A, s, _, _, ra, rb, _, hu => by
    cases ra with
    | str _ t =>
      cases rb with
      | non => exact EqAt.str_none x t
      | bl y => exact EqAt.str_bool x t y
      | int y u => exact EqAt.str_int x t y u
      | str y u => exact EqAt.str_str x t y u
      | lst k1 k4 => exact EqAt.str_list x t k1 (room1 hu)
      | tup k1 k4 => exact EqAt.str_tuple x t k1 (room1 hu)
  | .lst xs, db, A, s, _, _, ra, rb, hp, hu => by
    cases ra with
    | @lst l vs _ hl h4 =>
      cases rb with
      | non => exact EqAt.list_none hl (room1 hu)
      | bl y => exact EqAt.list_bool y hl (room1 hu)
      | int y u => exact EqAt.list_int y u hl (room1 hu)
      | str y u => exact EqAt.list_str y u hl (room1 hu)
      | tup k1 k4 => exact EqAt.list_tuple hl k1 (room1 hu)
      | @lst l' vs' ys hl' k4 =>
        have n1 : vs.size = xs.length := by simpa using h4.length.symm
        have n2 : vs'.size = ys.length := by simpa using k4.length.symm
        rw [eqD]
        rw [dep] at hu
        by_cases hll : l = l'
        · subst hll
          have e := View.unique (.lst hl h4) (.lst hl' k4)
          injection e with e
          subst e
          obtain ⟨n, hp⟩ := hp
          have z := eqD_refl _ n hp
          rw [eqD] at z
          rw [z]
          exact EqAt.same _
        · by_cases hsz : vs.size = vs'.size
          · rw [← eqDs_same (by omega : xs.length = ys.length), ← n1]
            refine EqAt.of_refs hll (RcAt.lists hl hl' hsz (room1 hu) fun j j1 j2 => ?_)
            have := eqAt_views xs ys A.in1 s vs.toList vs'.toList h4 k4 (by
              obtain ⟨n, hp⟩ := hp
              cases n with
              | zero => simp [pu] at hp
              | succ n => exact ⟨n, by simpa [pu] using hp⟩) (room2 hu) j (by simpa using j1) (by simpa using j2)
            simpa using this
          · rw [eqDs_other (by omega : xs.length ≠ ys.length)]
            exact EqAt.of_refs hll (RcAt.lists_lengths hl hl' (by simpa using hsz) (room1 hu))
  | .tup xs, db, A, s, _, _, ra, rb, hp, hu => by
    cases ra with
    | @tup l vs _ hl h4 =>
      cases rb with
      | non => exact EqAt.tuple_none hl (room1 hu)
      | bl y => exact EqAt.tuple_bool y hl (room1 hu)
      | int y u => exact EqAt.tuple_int y u hl (room1 hu)
      | str y u => exact EqAt.tuple_str y u hl (room1 hu)
      | lst k1 k4 => exact EqAt.tuple_list hl k1 (room1 hu)
      | @tup l' vs' ys hl' k4 =>
        have n1 : vs.size = xs.length := by simpa using h4.length.symm
        have n2 : vs'.size = ys.length := by simpa using k4.length.symm
        rw [eqD]
        rw [dep] at hu
        by_cases hll : l = l'
        · subst hll
          have e := View.unique (.tup hl h4) (.tup hl' k4)
          injection e with e
          subst e
          obtain ⟨n, hp⟩ := hp
          have z := eqD_refl _ n hp
          rw [eqD] at z
          rw [z]
          exact EqAt.same _
        · rw [← eqDs_eq xs ys, ← n1, ← n2]
          refine EqAt.of_refs hll (RcAt.tuples hl hl' (room1 hu) fun j j1 j2 => ?_)
          have := eqAt_views xs ys A.in1 s vs.toList vs'.toList h4 k4 (by
              obtain ⟨n, hp⟩ := hp
              cases n with
              | zero => simp [pu] at hp
              | succ n => exact ⟨n, by simpa [pu] using hp⟩) (room2 hu) j (by simpa using j1) (by simpa using j2)
          simpa using this
  | .ref _, _, _, _, _, _, ra, _, _, _ => nomatch ra
  | .gl _, _, _, _, _, _, ra, _, _, _ => nomatch ra
  | .scr _, _, _, _, _, _, ra, _, _, _ => nomatch ra
theorem eqAt_views : ∀ (xs ys : List D) (A : Around) (s : Shared) (vs ws : List Value), Views s xs vs → Views s ys ws → (∃ n, xs.all (pu n) = true) → A.units + deps xs < cLine →
    ∀ j (h1 : j < vs.length) (h2 : j < ws.length), EqAt A s vs[j] ws[j] (pairD xs ys j)
  | [], _, _, _, _, _, ra, _, _, _, j, h1, _ => by cases ra; exact absurd h1 (Nat.not_lt_zero _)
  | _ :: _, [], _, _, _, _, _, rb, _, _, j, _, h2 => by cases rb; exact absurd h2 (Nat.not_lt_zero _)
  | x :: xs, y :: ys, A, s, _, _, ra, rb, hp, hu, j, h1, h2 => by
    obtain ⟨n, hp⟩ := hp
    rw [List.all_cons, Bool.and_eq_true] at hp
    rw [deps] at hu
    cases ra with
    | cons r rs =>
      cases rb with
      | cons r' rs' =>
        cases j with
        | zero => exact eqAt_view x y A s _ _ r r' ⟨n, hp.1⟩ (by have := Nat.le_max_left (dep x) (deps xs); omega)
        | succ j => exact eqAt_views xs ys A s _ _ rs rs' ⟨n, hp.2⟩ (by have := Nat.le_max_right (dep x) (deps xs); omega) j (Nat.lt_of_succ_lt_succ h1) (Nat.lt_of_succ_lt_succ h2)
end
theorem rcAt_view {da db : D} {A : Around} {s : Shared} {a b : Value} (ra : View s da a) (rb : View s db b) (hp : ∃ n, pu n da = true) (hu : A.units + dep da < cLine) : RcAt A s a b (eqD da db) := by
  cases ra with
  | non =>
    cases rb with
    | non => exact RcAt.none_none
    | bl y => exact RcAt.none_bool y
    | int y u => exact RcAt.none_int y u
    | str y u => exact RcAt.none_str y u
    | lst k1 k4 => exact RcAt.none_list k1 (room1 hu)
    | tup k1 k4 => exact RcAt.none_tuple k1 (room1 hu)
  | bl x =>
    cases rb with
    | non => exact RcAt.bool_none x
    | bl y => exact RcAt.bool_bool x y
    | int y u => exact RcAt.bool_int x y u
    | str y u => exact RcAt.bool_str x y u
    | lst k1 k4 => exact RcAt.bool_list x k1 (room1 hu)
    | tup k1 k4 => exact RcAt.bool_tuple x k1 (room1 hu)
  | int x t =>
    cases rb with
    | non => exact RcAt.int_none x t
    | bl y => exact RcAt.int_bool x t y
    | int y u => exact RcAt.int_int x t y u
    | str y u => exact RcAt.int_str x t y u
    | lst k1 k4 => exact RcAt.int_list x t k1 (room1 hu)
    | tup k1 k4 => exact RcAt.int_tuple x t k1 (room1 hu)
  | str x t =>
    cases rb with
    | non => exact RcAt.str_none x t
    | bl y => exact RcAt.str_bool x t y
    | int y u => exact RcAt.str_int x t y u
    | str y u => exact RcAt.str_str x t y u
    | lst k1 k4 => exact RcAt.str_list x t k1 (room1 hu)
    | tup k1 k4 => exact RcAt.str_tuple x t k1 (room1 hu)
  | @lst l vs xs hl h4 =>
    cases rb with
    | non => exact RcAt.list_none hl (room1 hu)
    | bl y => exact RcAt.list_bool y hl (room1 hu)
    | int y u => exact RcAt.list_int y u hl (room1 hu)
    | str y u => exact RcAt.list_str y u hl (room1 hu)
    | @lst l' vs' ys hl' k4 =>
      have n1 : vs.size = xs.length := by simpa using h4.length.symm
      have n2 : vs'.size = ys.length := by simpa using k4.length.symm
      rw [dep] at hu
      have he : ∀ j (j1 : j < vs.size) (j2 : j < vs'.size), EqAt A.in1 s vs[j] vs'[j] (pairD xs ys j) := fun j j1 j2 => by
        have := eqAt_views xs ys A.in1 s vs.toList vs'.toList h4 k4 (by
          obtain ⟨n, hp⟩ := hp
          cases n with
          | zero => simp [pu] at hp
          | succ n => exact ⟨n, by simpa [pu] using hp⟩) (room2 hu) j (by simpa using j1) (by simpa using j2)
        simpa using this
      rw [eqD]
      by_cases hsz : vs.size = vs'.size
      · rw [← eqDs_same (by omega : xs.length = ys.length), ← n1]
        exact RcAt.lists hl hl' hsz (room1 hu) he
      · rw [eqDs_other (by omega : xs.length ≠ ys.length)]
        exact RcAt.lists_lengths hl hl' (by simpa using hsz) (room1 hu)
    | tup k1 k4 => exact RcAt.list_tuple hl k1 (room1 hu)
  | @tup l vs xs hl h4 =>
    cases rb with
    | non => exact RcAt.tuple_none hl (room1 hu)
    | bl y => exact RcAt.tuple_bool y hl (room1 hu)
    | int y u => exact RcAt.tuple_int y u hl (room1 hu)
    | str y u => exact RcAt.tuple_str y u hl (room1 hu)
    | lst k1 k4 => exact RcAt.tuple_list hl k1 (room1 hu)
    | @tup l' vs' ys hl' k4 =>
      have n1 : vs.size = xs.length := by simpa using h4.length.symm
      have n2 : vs'.size = ys.length := by simpa using k4.length.symm
      rw [dep] at hu
      have he : ∀ j (j1 : j < vs.size) (j2 : j < vs'.size), EqAt A.in1 s vs[j] vs'[j] (pairD xs ys j) := fun j j1 j2 => by
        have := eqAt_views xs ys A.in1 s vs.toList vs'.toList h4 k4 (by
          obtain ⟨n, hp⟩ := hp
          cases n with
          | zero => simp [pu] at hp
          | succ n => exact ⟨n, by simpa [pu] using hp⟩) (room2 hu) j (by simpa using j1) (by simpa using j2)
        simpa using this
      rw [eqD]
      rw [← eqDs_eq xs ys, ← n1, ← n2]
      exact RcAt.tuples hl hl' (room1 hu) he
theorem rcNeAt_view {da db : D} {A : Around} {s : Shared} {a b : Value} (ra : View s da a) (rb : View s db b) (hp : ∃ n, pu n da = true) (hu : A.units + dep da < cLine) : RcNeAt A s a b (!eqD da db) := by
  cases ra with
  | non =>
    cases rb with
    | non => exact RcNeAt.none_none
    | bl y => exact RcNeAt.none_bool y
    | int y u => exact RcNeAt.none_int y u
    | str y u => exact RcNeAt.none_str y u
    | lst k1 k4 => exact RcNeAt.none_list k1 (room1 hu)
    | tup k1 k4 => exact RcNeAt.none_tuple k1 (room1 hu)
  | bl x =>
    cases rb with
    | non => exact RcNeAt.bool_none x
    | bl y => exact RcNeAt.bool_bool x y
    | int y u => exact RcNeAt.bool_int x y u
    | str y u => exact RcNeAt.bool_str x y u
    | lst k1 k4 => exact RcNeAt.bool_list x k1 (room1 hu)
    | tup k1 k4 => exact RcNeAt.bool_tuple x k1 (room1 hu)
  | int x t =>
    cases rb with
    | non => exact RcNeAt.int_none x t
    | bl y => exact RcNeAt.int_bool x t y
    | int y u => exact RcNeAt.int_int x t y u
    | str y u => exact RcNeAt.int_str x t y u
    | lst k1 k4 => exact RcNeAt.int_list x t k1 (room1 hu)
    | tup k1 k4 => exact RcNeAt.int_tuple x t k1 (room1 hu)
  | str x t =>
    cases rb with
    | non => exact RcNeAt.str_none x t
    | bl y => exact RcNeAt.str_bool x t y
    | int y u => exact RcNeAt.str_int x t y u
    | str y u => exact RcNeAt.str_str x t y u
    | lst k1 k4 => exact RcNeAt.str_list x t k1 (room1 hu)
    | tup k1 k4 => exact RcNeAt.str_tuple x t k1 (room1 hu)
  | @lst l vs xs hl h4 =>
    cases rb with
    | non => exact RcNeAt.list_none hl (room1 hu)
    | bl y => exact RcNeAt.list_bool y hl (room1 hu)
    | int y u => exact RcNeAt.list_int y u hl (room1 hu)
    | str y u => exact RcNeAt.list_str y u hl (room1 hu)
    | @lst l' vs' ys hl' k4 =>
      have n1 : vs.size = xs.length := by simpa using h4.length.symm
      have n2 : vs'.size = ys.length := by simpa using k4.length.symm
      rw [dep] at hu
      have he : ∀ j (j1 : j < vs.size) (j2 : j < vs'.size), EqAt A.in1 s vs[j] vs'[j] (pairD xs ys j) := fun j j1 j2 => by
        have := eqAt_views xs ys A.in1 s vs.toList vs'.toList h4 k4 (by
          obtain ⟨n, hp⟩ := hp
          cases n with
          | zero => simp [pu] at hp
          | succ n => exact ⟨n, by simpa [pu] using hp⟩) (room2 hu) j (by simpa using j1) (by simpa using j2)
        simpa using this
      rw [eqD]
      by_cases hsz : vs.size = vs'.size
      · rw [← eqDs_same (by omega : xs.length = ys.length), ← n1]
        exact RcNeAt.lists hl hl' hsz (room1 hu) he
      · rw [eqDs_other (by omega : xs.length ≠ ys.length)]
        exact RcNeAt.lists_lengths hl hl' (by simpa using hsz) (room1 hu)
    | tup k1 k4 => exact RcNeAt.list_tuple hl k1 (room1 hu)
  | @tup l vs xs hl h4 =>
    cases rb with
    | non => exact RcNeAt.tuple_none hl (room1 hu)
    | bl y => exact RcNeAt.tuple_bool y hl (room1 hu)
    | int y u => exact RcNeAt.tuple_int y u hl (room1 hu)
    | str y u => exact RcNeAt.tuple_str y u hl (room1 hu)
    | lst k1 k4 => exact RcNeAt.tuple_list hl k1 (room1 hu)
    | @tup l' vs' ys hl' k4 =>
      have n1 : vs.size = xs.length := by simpa using h4.length.symm
      have n2 : vs'.size = ys.length := by simpa using k4.length.symm
      rw [dep] at hu
      have he : ∀ j (j1 : j < vs.size) (j2 : j < vs'.size), EqAt A.in1 s vs[j] vs'[j] (pairD xs ys j) := fun j j1 j2 => by
        have := eqAt_views xs ys A.in1 s vs.toList vs'.toList h4 k4 (by
          obtain ⟨n, hp⟩ := hp
          cases n with
          | zero => simp [pu] at hp
          | succ n => exact ⟨n, by simpa [pu] using hp⟩) (room2 hu) j (by simpa using j1) (by simpa using j2)
        simpa using this
      rw [eqD]
      rw [← eqDs_eq xs ys, ← n1, ← n2]
      exact RcNeAt.tuples hl hl' (room1 hu) he
section
variable {X : Cx} {g : Gi} {U : XK} {Phi : Nat → List D → M D} {W : Wd} {h : Hh} {H : Hp} {pins : List (Addr × Obj)} {σ : L2.St} {s : Shared}
theorem isTuple_of {h : Heap} {a : Addr} {its : Array Value} (x : PyProof.Rows.IsTup h a its) : h.IsTuple a its := by
  obtain ⟨o, h1, h2, n, h3⟩ := x
  exact ⟨o, h1, h2, n, h3⟩
mutual
theorem view_of (I : Inv X pins σ H s) (hK : g.K = X.K) : ∀ {d : D} {v : V}, Rp g W H d v → ∀ n, pu n d = true → ∀ v', RelV v v' → View s d v'
  | _, _, .non, n, _, v', r => by cases r; exact .non
  | _, _, .bl b, n, _, v', r => by cases r; exact .bl b
  | _, _, .int i, n, _, v', r => by obtain ⟨t, rfl⟩ := r; exact .int i t
  | _, _, .str x, n, _, v', r => by obtain ⟨t, rfl⟩ := r; exact .str x t
  | _, _, .tup (a := a) (vs := vs) f t q, n, p, v', r => by
    cases r
    cases n with
    | zero => simp [pu] at p
    | succ n =>
      obtain ⟨o, e, _⟩ := t
      obtain ⟨its, rv, ht, _⟩ := I.tuple (xs := vs) (a := a) (.inl (.inr ⟨o, e⟩))
      exact .tup (isTuple_of ht) (views_of I hK q n (by simpa [pu] using p) its rv)
  | _, _, .tupK (a := a) (vs := vs) t q, n, p, v', r => by
    cases r
    cases n with
    | zero => simp [pu] at p
    | succ n =>
      obtain ⟨o, its0, m, h1, h2, h3, h4, h5, h6⟩ := t
      obtain ⟨its, rv, ht, _⟩ := I.tuple (xs := vs) (a := a) (.inr ⟨o, its0, m, hK ▸ h1, h2, h4, h5, h6⟩)
      exact .tup (isTuple_of ht) (views_of I hK q n (by simpa [pu] using p) its rv)
  | _, _, .lst (a := a) (vs := vs) f t q, n, p, v', r => by
    cases r
    cases n with
    | zero => simp [pu] at p
    | succ n =>
      obtain ⟨its, rv, ht, _⟩ := I.list (xs := vs) (a := a) (SqL.of t)
      exact .lst ht.isList (views_of I hK q n (by simpa [pu] using p) its rv)
  | _, _, .ref _, n, p, v', r => by cases n <;> simp [pu] at p
  | _, _, .gl _, n, p, v', r => by cases n <;> simp [pu] at p
  | _, _, .scr _ _, n, p, v', r => by cases n <;> simp [pu] at p
  | _, _, .scrK _, n, p, v', r => by cases n <;> simp [pu] at p
theorem views_of (I : Inv X pins σ H s) (hK : g.K = X.K) : ∀ {ds : List D} {vs : List V}, Rps g W H ds vs → ∀ n, ds.all (pu n) = true → ∀ us, Vals vs us → Views s ds us
  | _, _, .nil, n, _, us, r => by cases r; exact .nil
  | _, _, .cons a b, n, p, us, r => by
    rw [List.all_cons, Bool.and_eq_true] at p
    cases r with
    | cons r1 r2 => exact .cons (view_of I hK a n p.1 _ r1) (views_of I hK b n p.2 _ r2)
end
theorem view_top (I : Inv X pins σ H s) (hK : g.K = X.K) (R : HR g W h H) {d : D} {v : V} (r : Rp g W H d v) (n : Nat) (p : pu n (top h d) = true) (v' : Value) (rv : RelV v v') : View s (top h d) v' := by
  cases d with
  | ref m =>
    simp only [top] at p ⊢
    split at p
    · rename_i l e
      obtain ⟨a, vs, rfl, _, h2, h3⟩ := ref_lst R r e
      cases rv
      cases n with
      | zero => simp [pu] at p
      | succ n =>
        obtain ⟨its, rv, ht, _⟩ := I.list (xs := vs) (a := a) (SqL.of h2)
        exact .lst ht.isList (views_of I hK h3 n (by simpa [pu] using p) its rv)
    · cases n <;> simp [pu] at p
  | scr ns =>
    simp only [top] at p ⊢
    cases r with
    | @scr a o _ f t =>
      cases rv
      cases n with
      | zero => simp [pu] at p
      | succ n =>
        obtain ⟨its, rv, ht, _⟩ := I.list (xs := ns.map V.int) (a := a) (.inl (.inr ⟨o, t⟩))
        exact .lst ht.isList (views_of (g := g) (W := W) I hK (rps_ints ns) n (by simpa [pu] using p) its rv)
    | @scrK a _ t =>
      cases rv
      cases n with
      | zero => simp [pu] at p
      | succ n =>
        obtain ⟨its, rv, ht, _⟩ := I.list (xs := ns.map V.int) (a := a) (.inr (by rw [← hK]; exact t))
        exact .lst ht.isList (views_of (g := g) (W := W) I hK (rps_ints ns) n (by simpa [pu] using p) its rv)
  | non => exact view_of I hK r n p v' rv
  | bl b => exact view_of I hK r n p v' rv
  | int b => exact view_of I hK r n p v' rv
  | str b => exact view_of I hK r n p v' rv
  | tup b => exact view_of I hK r n p v' rv
  | lst b => exact view_of I hK r n p v' rv
  | gl b => exact view_of I hK r n p v' rv
/-- a comparison by plain data: the heap h is the reading's own -/
def rEqH (g : Gi) (neg : Bool) : R2 := fun x y H Q => ∃ (W : Wd) (h : Hh) (d e : D), HR g W h H ∧ Rp g W H d x ∧ Rp g W H e y ∧ (pu 9 (top h d) && pu 9 (top h e)) = true ∧ Q (.bl (neg != eqD (top h d) (top h e))) H
theorem op_eqH (hK : g.K = X.K) (hu : X.A.units + 64 < cLine) : OpR X (compareOp .Eq) (rEqH g false) := by
  intro pins s σ H x y v u Q I rx ry hh
  obtain ⟨W, h, d, e, R, r1, r2, p, q⟩ := hh
  rw [Bool.and_eq_true] at p
  have v1 := view_top I hK R r1 9 p.1 v rx
  have v2 := view_top I hK R r2 9 p.2 u ry
  have k := pu_dep 9 _ p.1
  refine rcAt_view (A := X.A) v1 v2 ⟨9, p.1⟩ (by omega) X.prog X.w X.xe _ ⟨.bl _, H, I, rfl, ?_⟩
  simpa using q
theorem op_neH (hK : g.K = X.K) (hu : X.A.units + 64 < cLine) : OpR X (compareOp .NotEq) (rEqH g true) := by
  intro pins s σ H x y v u Q I rx ry hh
  obtain ⟨W, h, d, e, R, r1, r2, p, q⟩ := hh
  rw [Bool.and_eq_true] at p
  have v1 := view_top I hK R r1 9 p.1 v rx
  have v2 := view_top I hK R r2 9 p.2 u ry
  have k := pu_dep 9 _ p.1
  refine rcNeAt_view (A := X.A) v1 v2 ⟨9, p.1⟩ (by omega) X.prog X.w X.xe _ ⟨.bl _, H, I, rfl, ?_⟩
  simpa using q
theorem pr_eq (neg : Bool) {o : Op} (ho : prim Phi o = a2 (eqH neg)) : Prim2 g U (rEqH g neg) (prim Phi o) := by
  intro d e x y W h H Q R r1 r2 p
  rw [ho] at p
  replace p : Pst g U (Rp g) W H (eqH neg d e h) Q := p
  unfold eqH at p
  split at p
  · rename_i hp
    exact ⟨W, h, d, e, R, r1, r2, hp, p W _ H (Ex.refl W H) R (.bl _)⟩
  · exact p.elim
theorem se_eq {e1 e2 : Expr} {a b : E} {pos : Pos} (hK : g.K = X.K) (hu : X.A.units + 64 < cLine) (h1 : SE X g U e1 (a.ev Phi)) (h2 : SE X g U e2 (b.ev Phi)) : SE X g U (.Compare e1 [.Eq] [e2] pos) ((E.op .eq [a, b]).ev Phi) :=
  se_op2 (fun p q => pe_cmpR (op_eqH hK hu) p q (nomark _)) h1 h2 (pr_eq false rfl)
theorem se_ne {e1 e2 : Expr} {a b : E} {pos : Pos} (hK : g.K = X.K) (hu : X.A.units + 64 < cLine) (h1 : SE X g U e1 (a.ev Phi)) (h2 : SE X g U e2 (b.ev Phi)) : SE X g U (.Compare e1 [.NotEq] [e2] pos) ((E.op .ne [a, b]).ev Phi) :=
  se_op2 (fun p q => pe_cmpR (op_neH hK hu) p q (nomark _)) h1 h2 (pr_eq true rfl)
end
end TS

set_option Elab.async false
set_option linter.all false
set_option maxRecDepth 100000
set_option maxHeartbeats 4000000
/-! TS6: in; methods: index, count, append, .. -/
namespace TS
open PySem L2 PySem.SeqAt
section
variable {X : Cx} {g : Gi} {U : XK} {Phi : Nat → List D → M D} {W : Wd} {h : Hh} {H : Hp} {pins : List (Addr × Obj)} {σ : L2.St} {s : Shared}
open Classical in
/-- the answer of == with x, by the value alone -/
noncomputable def eOf (s : Shared) (x : D) (u : Value) : Bool := if h : ∃ d, View s d u then eqD h.choose x else false
theorem eOf_eq {x d : D} {u : Value} (v : View s d u) : eOf s x u = eqD d x := by
  have h : ∃ d, View s d u := ⟨d, v⟩
  unfold eOf
  rw [dif_pos h, View.unique h.choose_spec v]
theorem eOf_at {x : D} {xv : Value} {ds : List D} {us : List Value} {A : Around} (vs : Views s ds us) (vx : View s x xv) (hp : ds.all (pu 9) = true) (hu : A.units + 9 < cLine) : ∀ u ∈ us, EqAt A s u xv (eOf s x u) := fun u hu' => by
  obtain ⟨i, hi, rfl⟩ := List.getElem_of_mem hu'
  obtain ⟨d, e, v⟩ := vs.get (List.getElem?_eq_getElem hi)
  rw [eOf_eq v]
  have pd := List.all_eq_true.mp hp d (List.mem_of_getElem? e)
  have := pu_dep 9 d pd
  exact eqAt_view d x A s _ _ v vx ⟨9, pd⟩ (by omega)
theorem any_eOf {x : D} : ∀ {ds : List D} {us : List Value}, Views s ds us → us.any (eOf s x) = ds.any fun z => eqD z x
  | _, _, .nil => rfl
  | _, _, .cons v t => by rw [List.any_cons, List.any_cons, eOf_eq v, any_eOf t]
theorem countP_eOf {x : D} : ∀ {ds : List D} {us : List Value}, Views s ds us → us.countP (eOf s x) = ds.countP fun z => eqD z x
  | _, _, .nil => rfl
  | _, _, .cons v t => by rw [List.countP_cons, List.countP_cons, eOf_eq v, countP_eOf t]
/-! ### in -/
def rInH (g : Gi) (neg : Bool) : R2 := fun x y H Q => ∃ (W : Wd) (h : Hh) (d c : D) (l : List D), HR g W h H ∧ Rp g W H d x ∧ Rp g W H c y ∧ seqOf h c = some l ∧ (pu 9 (top h d) && l.all (pu 9)) = true ∧ Q (.bl (neg != l.any fun z => eqD z (top h d))) H
theorem op_inH (hK : g.K = X.K) (hu : X.A.units + 64 < cLine) : OpR X (compareOp .In) (rInH g false) := by
  intro pins s σ H x y v u Q I rx ry hh
  obtain ⟨W, h, d, c, l, R, r1, r2, e, p, q⟩ := hh
  rw [Bool.and_eq_true] at p
  have v1 := view_top I hK R r1 9 p.1 v rx
  obtain ⟨a, vs, rfl, hs, rl⟩ := seq_sq hK R r2 e
  cases ry
  rcases hs with hs | hs
  · obtain ⟨its, rv, pl, _⟩ := I.list hs
    have vw := views_of I hK rl 9 p.2 its rv
    refine in_listAt (eOf s (top h d)) pl.isList (fun y hy => eOf_at vw v1 p.2 (by show X.A.units + 1 + 9 < _; omega) y (by simpa using hy)) ⟨.bl _, H, I, rfl, ?_⟩
    rw [List.any_toArray, any_eOf vw]
    simpa using q
  · obtain ⟨its, rv, pl, _⟩ := I.tuple hs
    have vw := views_of I hK rl 9 p.2 its rv
    refine in_tupleAt (eOf s (top h d)) (isTuple_of pl) (fun y hy => eOf_at vw v1 p.2 (by show X.A.units + 1 + 9 < _; omega) y (by simpa using hy)) ⟨.bl _, H, I, rfl, ?_⟩
    rw [List.any_toArray, any_eOf vw]
    simpa using q
theorem op_ninH (hK : g.K = X.K) (hu : X.A.units + 64 < cLine) : OpR X (compareOp .NotIn) (rInH g true) := by
  intro pins s σ H x y v u Q I rx ry hh
  obtain ⟨W, h, d, c, l, R, r1, r2, e, p, q⟩ := hh
  rw [Bool.and_eq_true] at p
  have v1 := view_top I hK R r1 9 p.1 v rx
  obtain ⟨a, vs, rfl, hs, rl⟩ := seq_sq hK R r2 e
  cases ry
  rcases hs with hs | hs
  · obtain ⟨its, rv, pl, _⟩ := I.list hs
    have vw := views_of I hK rl 9 p.2 its rv
    refine notIn_listAt (eOf s (top h d)) pl.isList (fun y hy => eOf_at vw v1 p.2 (by show X.A.units + 1 + 9 < _; omega) y (by simpa using hy)) ⟨.bl _, H, I, rfl, ?_⟩
    rw [List.any_toArray, any_eOf vw]
    simpa using q
  · obtain ⟨its, rv, pl, _⟩ := I.tuple hs
    have vw := views_of I hK rl 9 p.2 its rv
    refine notIn_tupleAt (eOf s (top h d)) (isTuple_of pl) (fun y hy => eOf_at vw v1 p.2 (by show X.A.units + 1 + 9 < _; omega) y (by simpa using hy)) ⟨.bl _, H, I, rfl, ?_⟩
    rw [List.any_toArray, any_eOf vw]
    simpa using q
def rSignB (neg : Bool) : R2 := fun x y H Q => ∃ (c : Nat) (z : Str), x = .str ⟨#[c]⟩ ∧ y = .str z ∧ Q (.bl (neg != decide (c ∈ z.cps.toList))) H
theorem op_inB : OpR X (compareOp .In) (rSignB false) := by
  intro pins s σ H x y v u Q I rx ry hh
  obtain ⟨c, z, h1, h2, q⟩ := hh
  exact op_in_sign pins s σ H x y v u Q I rx ry ⟨c, z, h1, h2, by simpa using q⟩
theorem op_ninB : OpR X (compareOp .NotIn) (rSignB true) := by
  intro pins s σ H x y v u Q I rx ry hh
  obtain ⟨c, z, h1, h2, q⟩ := hh
  exact op_notIn_sign pins s σ H x y v u Q I rx ry ⟨c, z, h1, h2, by simpa using q⟩
def rDInB (neg : Bool) : R2 := fun y x H Q => ∃ a o, x = .ref a ∧ DGet H a y o ∧ Q (.bl (neg != o.isSome)) H
theorem op_dinB (hu : X.A.units + 1 < cLine) : OpR X (compareOp .In) (rDInB false) := by
  intro pins s σ H x y v u Q I rx ry hh
  obtain ⟨a, o, rfl, gt, q⟩ := hh
  cases ry
  exact d_in hu I gt rx fun s' I' => ⟨.bl _, H, I', rfl, by simpa using q⟩
theorem op_dninB (hu : X.A.units + 1 < cLine) : OpR X (compareOp .NotIn) (rDInB true) := by
  intro pins s σ H x y v u Q I rx ry hh
  obtain ⟨a, o, rfl, gt, q⟩ := hh
  cases ry
  exact d_notIn hu I gt rx fun s' I' => ⟨.bl _, H, I', rfl, by simpa using q⟩
def rInA (g : Gi) (neg : Bool) : R2 := fun x y H Q => rInH g neg x y H Q ∨ rSignB neg x y H Q ∨ rDInB neg x y H Q
theorem keyV_some {d : D} (h : keyD d = true) : ∃ k, keyV d = some k := by
  cases d <;> simp [keyD] at h <;> exact ⟨_, rfl⟩
theorem keyV_rp {d : D} {v : V} {k : Key} (r : Rp g W H d v) (e : keyV d = some k) : v = kV k := by
  cases r <;> simp [keyV] at e <;> (subst e; rfl)
theorem keyV_inj {d e : D} {k : Key} (h1 : keyV d = some k) (h2 : keyV e = some k) : d = e := by
  cases d <;> simp [keyV] at h1 <;> cases e <;> simp [keyV] at h2 <;> subst h1 <;> simp at h2 <;> simp [h2]
/-- a cell's look-up and the dict's -/
theorem look_val : ∀ {kvs : List (D × D)} {kvs' : List (Key × V)} {d : D} {k : Key}, Paired (fun (p : D × D) (q : Key × V) => keyV p.1 = some q.1 ∧ Rp g W H p.2 q.2) kvs kvs' → keyV d = some k →
    (look kvs d = none ∧ valV kvs' k = none) ∨ ∃ x v, look kvs d = some x ∧ valV kvs' k = some v ∧ Rp g W H x v
  | _, _, d, k, .nil, _ => .inl ⟨rfl, rfl⟩
  | _, _, d, k, .cons (a := p) (b := q) r t, e => by
    by_cases hp : p.1 = d
    · right
      have hq : q.1 = k := by
        rw [hp, e] at r
        exact (Option.some.inj r.1).symm
      exact ⟨p.2, q.2, by simp [look, hp], valV_pos hq, r.2⟩
    · have hq : ¬ q.1 = k := fun z => hp (keyV_inj r.1 (by rw [e, z]))
      rcases look_val t e with ⟨h1, h2⟩ | ⟨x, v, h1, h2, h3⟩
      · left
        refine ⟨?_, by rw [valV_neg hq]; exact h2⟩
        unfold look at h1 ⊢
        rw [List.find?_cons, decide_eq_false hp]
        exact h1
      · right
        refine ⟨x, v, ?_, by rw [valV_neg hq]; exact h2, h3⟩
        unfold look at h1 ⊢
        rw [List.find?_cons, decide_eq_false hp]
        exact h1
theorem pr_in (neg : Bool) {o : Op} (ho : prim Phi o = a2 (inD neg)) : Prim2 g U (rInA g neg) (prim Phi o) := by
  intro d e x y W h H Q R r1 r2 p
  rw [ho] at p
  replace p : Pst g U (Rp g) W H (inD neg d e h) Q := p
  unfold inD at p
  split at p
  · rename_i s1 s2
    split at p
    · rename_i c hc
      cases r1; cases r2
      refine .inr (.inl ⟨c, s2, ?_, rfl, p W _ H (Ex.refl W H) R (.bl _)⟩)
      obtain ⟨arr⟩ := s1
      have : arr = #[c] := by
        apply Array.ext'
        exact hc
      rw [this]
    · exact p.elim
  · split at p
    · rename_i l hl
      split at p
      · rename_i hp
        exact .inl ⟨W, h, d, e, l, R, r1, r2, hl, hp, p W _ H (Ex.refl W H) R (.bl _)⟩
      · exact p.elim
    · split at p
      · rename_i _ n
        split at p
        · rename_i kvs hk
          split at p
          · rename_i hkey
            cases r2 with
            | ref hn =>
              obtain ⟨kvs', hH, hpr⟩ := R.cell _ _ _ hn hk
              obtain ⟨k, ek⟩ := keyV_some hkey
              have ev := keyV_rp r1 ek
              subst ev
              refine .inr (.inr ⟨_, valV kvs' k, rfl, DGet.k hH, ?_⟩)
              have q := p W _ H (Ex.refl W H) R (.bl _)
              rcases look_val hpr ek with ⟨h1, h2⟩ | ⟨x, v, h1, h2, h3⟩
              · rw [h2]; rw [h1] at q; exact q
              · rw [h2]; rw [h1] at q; exact q
          · exact p.elim
        · exact p.elim
      · exact p.elim
theorem nb_in {op : CmpOp} {e : Expr} (h : ∀ a b c, e ≠ .Set a b c) : behindInMarks op e = false := by
  cases e <;> first | rfl | exact absurd rfl (h _ _ _)
theorem se_in {e1 e2 : Expr} {a b : E} {pos : Pos} (hK : g.K = X.K) (hu : X.A.units + 64 < cLine) (hb : behindInMarks .In e2 = false) (h1 : SE X g U e1 (a.ev Phi)) (h2 : SE X g U e2 (b.ev Phi)) : SE X g U (.Compare e1 [.In] [e2] pos) ((E.op .inn [a, b]).ev Phi) :=
  se_op2 (fun p q => pe_cmpR ((op_inH hK hu).or (op_inB.or (op_dinB (by omega)))) p q hb) h1 h2 (pr_in false rfl)
theorem se_nin {e1 e2 : Expr} {a b : E} {pos : Pos} (hK : g.K = X.K) (hu : X.A.units + 64 < cLine) (hb : behindInMarks .NotIn e2 = false) (h1 : SE X g U e1 (a.ev Phi)) (h2 : SE X g U e2 (b.ev Phi)) : SE X g U (.Compare e1 [.NotIn] [e2] pos) ((E.op .nin [a, b]).ev Phi) :=
  se_op2 (fun p q => pe_cmpR ((op_ninH hK hu).or (op_ninB.or (op_dninB (by omega)))) p q hb) h1 h2 (pr_in true rfl)
end
end TS

set_option Elab.async false
set_option linter.all false
set_option maxRecDepth 100000
set_option maxHeartbeats 4000000
/-! TS7: methods of lists and tuples. -/
namespace TS
open PySem L2 PySem.SeqAt
section
variable {X : Cx} {g : Gi} {U : XK} {Phi : Nat → List D → M D} {W : Wd} {h : Hh} {H : Hp} {pins : List (Addr × Obj)} {σ : L2.St} {s : Shared}
/-- the owner of a method, seen ahead of the arguments; k: what is asked behind them -/
def Recv (X : Cx) (name : Str) (x : V) (H1 : Hp) (k : List V → Hp → VK → Prop) : Prop := ∃ (T id : String) (r : V → List V → Hp → VK → Prop), PlainAttrs T ∧ Slot T name id ∧ typeOf (.builtin id) = pure (.type "method_descriptor") ∧
  (∀ pins σ s v, Inv X pins σ H1 s → RelV x v → s.TypeIs v T ∧ ∀ a, v = .ref a → ∃ ob, s.heap.get? a = some ob ∧ ob.dict = none) ∧ MtR X id r ∧ ∀ xs H2 Q, k xs H2 Q → r x xs H2 Q
def tMd (X : Cx) (name : Str) (to : TE) (t : TA) : TE := fun σ H Q => to σ H fun x H1 => ∃ k, Recv X name x H1 k ∧ t σ H1 fun xs H2 => k xs H2 Q
def tMd0 (X : Cx) (name : Str) (to : TE) : TE := fun σ H Q => to σ H fun x H1 => ∃ k, Recv X name x H1 k ∧ k [] H1 Q
theorem pe_md {o e : Expr} {es : List Expr} {to : TE} {t : TA} {name : Str} {apos cpos : Pos} (ho : PE X o to) (ha : PA X (e :: es) t)
    (hbase : attributeBase o name X.env (eval o X.env) = eval o X.env)
    (hfew : ((backTo cpos (starEach (e :: es) X.env)).all (fun x => !x.1) && (backToKw cpos (keywordEach [] X.env)).all (fun x => x.1.isSome)
      && decide ((e :: es).length + ([] : List Keyword).length + (if ([] : List Keyword).isEmpty then 0 else 1) < 30)) = true)
    (hline : (apos.endLine == cpos.line) = true) (hs : starEach (e :: es) X.env = (false, eval e X.env) :: starEach es X.env) (hplain : (backTo cpos (starEach es X.env)).any (·.1) = false) :
    PE X (.Call (.Attribute o name apos) (e :: es) [] cpos) (tMd X name to t) := by
  refine ⟨fun pins s σ H Q I h => ?_⟩
  refine wpAny_Call_method_late hbase hfew hline rfl (thn (ho.run pins s σ H _ I h) fun v s1 ⟨x, H1, I1, r1, k, ⟨T, id, r, pa, slot, hty, ty, hm, hk⟩, q1⟩ => ?_)
  obtain ⟨h1, h2⟩ := ty pins σ s1 v I1 r1
  refine ⟨T, id, pa, slot, hty, h1, h2, ?_⟩
  have hA := ha.run cpos pins s1 σ H1 _ I1 q1
  rw [hs] at hA ⊢
  refine Calls.callWith_builtin (by show (false || (backTo cpos (starEach es X.env)).any (·.1)) = false; rw [hplain] <;> rfl) (Calls.evalArgs_plain ?_)
  exact thn hA fun us s2 ⟨vs, H2, I2, r2, q2⟩ => hm pins s2 σ H2 x vs v us Q I2 r1 r2 (hk _ _ _ q2)
theorem pe_md0 {o : Expr} {to : TE} {name : Str} {apos cpos : Pos} (ho : PE X o to) (hbase : attributeBase o name X.env (eval o X.env) = eval o X.env) (hline : (apos.endLine == cpos.line) = true) :
    PE X (.Call (.Attribute o name apos) [] [] cpos) (tMd0 X name to) := by
  refine ⟨fun pins s σ H Q I h => ?_⟩
  refine wpAny_Call_method0_late hbase hline (thn (ho.run pins s σ H _ I h) fun v s1 ⟨x, H1, I1, r1, k, ⟨T, id, r, pa, slot, hty, ty, hm, hk⟩, q1⟩ => ?_)
  obtain ⟨h1, h2⟩ := ty pins σ s1 v I1 r1
  exact ⟨T, id, pa, slot, hty, h1, h2, Calls.callWith_builtin rfl (PySem.evalArgs_none (hm pins s1 σ H1 x [] v [] Q I1 r1 .nil (hk _ _ _ q1)))⟩
/-- what an owner of this kind promises -/
def MtOk (X : Cx) (g : Gi) (U : XK) (Phi : Nat → List D → M D) (o : Op) (name : Str) : Prop := ∀ d x W h H, HR g W h H → Rp g W H d x → kindOk o d h = true →
  ∃ k, Recv X name x H k ∧ ∀ ds vs W2 h2 H2 Q, Ex W W2 H H2 → HR g W2 h2 H2 → Rps g W2 H2 ds vs → Pst g U (Rp g) W2 H2 (prim Phi o (d :: ds) h2) Q → k vs H2 Q
theorem se_mth {o e : Expr} {es : List Expr} {name : Str} {apos cpos : Pos} {op : Op} {a : E} {as : List E} (ho : SE X g U o (a.ev Phi)) (ha : SA X g U (e :: es) (E.evs Phi as)) (hm : MtOk X g U Phi op name)
    (hbase : attributeBase o name X.env (eval o X.env) = eval o X.env)
    (hfew : ((backTo cpos (starEach (e :: es) X.env)).all (fun x => !x.1) && (backToKw cpos (keywordEach [] X.env)).all (fun x => x.1.isSome)
      && decide ((e :: es).length + ([] : List Keyword).length + (if ([] : List Keyword).isEmpty then 0 else 1) < 30)) = true)
    (hline : (apos.endLine == cpos.line) = true) (hs : starEach (e :: es) X.env = (false, eval e X.env) :: starEach es X.env) (hplain : (backTo cpos (starEach es X.env)).any (·.1) = false) :
    SE X g U (.Call (.Attribute o name apos) (e :: es) [] cpos) ((E.mth op a as).ev Phi) :=
  PE.to (pe_md ho ha hbase hfew hline hs hplain) fun σ H Q ⟨W, r, h, R, Er, p⟩ => by
    rw [E.ev] at p
    refine ⟨W, r, h, R, Er, Pst.bnd p fun d h1 W1 x H1 e1 x1 R1 r1 p1 => ?_⟩
    split at p1
    · rename_i hk
      obtain ⟨k, rc, kk⟩ := hm d x W1 h1 H1 R1 r1 hk
      exact ⟨k, rc, W1, r, h1, R1, Er.mono x1, Pst.bnd p1 fun ds h2 W2 vs H2 e2 x2 R2 r2 p2 => kk ds vs W2 h2 H2 Q x2 R2 r2 p2⟩
    · exact p1.elim
theorem se_mth0 {o : Expr} {name : Str} {apos cpos : Pos} {op : Op} {a : E} (ho : SE X g U o (a.ev Phi)) (hm : MtOk X g U Phi op name)
    (hbase : attributeBase o name X.env (eval o X.env) = eval o X.env) (hline : (apos.endLine == cpos.line) = true) : SE X g U (.Call (.Attribute o name apos) [] [] cpos) ((E.mth op a []).ev Phi) :=
  PE.to (pe_md0 ho hbase hline) fun σ H Q ⟨W, r, h, R, Er, p⟩ => by
    rw [E.ev] at p
    refine ⟨W, r, h, R, Er, Pst.bnd p fun d h1 W1 x H1 e1 x1 R1 r1 p1 => ?_⟩
    split at p1
    · rename_i hk
      obtain ⟨k, rc, kk⟩ := hm d x W1 h1 H1 R1 r1 hk
      exact ⟨k, rc, kk [] [] W1 h1 H1 Q (Ex.refl W1 H1) R1 .nil p1⟩
    · exact p1.elim
/-! ### owners -/
theorem ty_list {x : V} {a : Addr} {vs : List V} (e : x = .ref a) (hq : SqL X.K H a vs) : ∀ pins σ s v, Inv X pins σ H s → RelV x v → s.TypeIs v "list" ∧ ∀ a, v = .ref a → ∃ ob, s.heap.get? a = some ob ∧ ob.dict = none := by
  intro pins σ s v I r
  subst e
  cases r
  obtain ⟨its, _, pl, _⟩ := I.list hq
  refine ⟨pl.isList.typeIs, fun a e => ?_⟩
  cases e
  obtain ⟨o, n, e, c, hd, _⟩ := pl
  exact ⟨o, e, hd⟩
theorem ty_str {z : Str} : ∀ pins σ s v, Inv X pins σ H s → RelV (.str z) v → s.TypeIs v "str" ∧ ∀ a, v = .ref a → ∃ ob, s.heap.get? a = some ob ∧ ob.dict = none := by
  intro pins σ s v I r
  obtain ⟨t, rfl⟩ := r
  exact ⟨typeIs_str s z t, fun _ e => nomatch e⟩
theorem ty_tup (hK : g.K = X.K) {ds : List D} {x : V} (r0 : Rp g W H (.tup ds) x) : ∀ pins σ s v, Inv X pins σ H s → RelV x v → s.TypeIs v "tuple" ∧ ∀ a, v = .ref a → ∃ ob, s.heap.get? a = some ob ∧ ob.dict = none := by
  intro pins σ s v I r
  cases r0 with
  | tup f t q =>
    obtain ⟨o, e, c, dn⟩ := t
    cases r
    have ho := (I.hok _ _ e).1
    refine ⟨⟨o, ho, c⟩, fun a e => ?_⟩
    cases e
    exact ⟨o, ho, dn⟩
  | tupK t q =>
    obtain ⟨o, its, n, h1, h2, h3, h4, h5, h6⟩ := t
    cases r
    have ho := I.kIn _ _ (hK ▸ h1)
    refine ⟨⟨o, ho, h2⟩, fun a e => ?_⟩
    cases e
    exact ⟨o, ho, h3⟩
/-- a list of plain data, an item sought in it -/
def rIdx (g : Gi) (tup : Bool) : V → List V → Hp → VK → Prop := fun x xs H Q => ∃ (W : Wd) (a : Addr) (vs : List V) (l : List D) (y : D) (yv : V) (j : Nat), x = .ref a ∧ (if tup = true then SqT g.K H a vs else SqL g.K H a vs) ∧ Rps g W H l vs ∧ xs = [yv] ∧ Rp g W H y yv ∧ (pu 9 y && l.all (pu 9)) = true ∧
  l.findIdx? (fun z => eqD z y) = some j ∧ Q (.int (j : Nat)) H
theorem idx_facts {l : List D} {y : D} {us : List Value} {j : Nat} (vw : Views s l us) (hj : l.findIdx? (fun z => eqD z y) = some j) : ∃ hj : j < us.toArray.size, eOf s y us.toArray[j] = true ∧ ∀ m (hm : m < us.toArray.size), m < j → eOf s y us.toArray[m] = false := by
  rw [List.findIdx?_eq_some_iff_getElem] at hj
  obtain ⟨h1, h2, h3⟩ := hj
  have hl := vw.length
  have at_ : ∀ m (hm : m < us.length), eOf s y us[m] = eqD (l[m]'(by omega)) y := fun m hm => by
    obtain ⟨d, e, v⟩ := vw.get (List.getElem?_eq_getElem hm)
    rw [eOf_eq v]
    have : l[m]'(by omega) = d := by
      have := List.getElem?_eq_some_iff.mp e
      exact this.2
    rw [this]
  refine ⟨by simp; omega, ?_, fun m hm hmj => ?_⟩
  · rw [List.getElem_toArray, at_ j (by omega)]; exact h2
  · rw [List.getElem_toArray, at_ m (by simpa using hm)]; exact Bool.eq_false_iff.mpr (h3 m hmj)
theorem mt_idxL (hK : g.K = X.K) (hu : X.A.units + 64 < cLine) : MtR X "list.index" (rIdx g false) := by
  intro pins s σ H x xs v us Q I rx rxs hh
  obtain ⟨W, a, vs, l, y, yv, j, rfl, hs, rl, rfl, ry, hp, hj, q⟩ := hh
  rw [if_neg Bool.false_ne_true, hK] at hs
  cases rx
  obtain ⟨u, rfl, ru⟩ := rxs.one
  rw [Bool.and_eq_true] at hp
  have v1 := view_of I hK ry 9 hp.1 u ru
  obtain ⟨its, rv, ⟨⟨cls, dd, data, sl⟩, n, ho, hc, hdn, hd⟩, hlen⟩ := I.list hs
  simp only at hc hd
  subst hc hd
  have vw := views_of I hK rl 9 hp.2 its rv
  obtain ⟨hjl, h2, h3⟩ := idx_facts vw hj
  have hvl := rv.length
  have hsl := sizeLine_eq
  refine call_meets PySem.F.slot_list_index ⟨_, ho, rfl⟩ PySem.F.entry_list_index (PySem.F.args_list_index_2 _ _)
    (SeqAt.list_indexAt a its.toArray n dd sl u (eOf s y) j hjl (by simp at hjl; omega) h2 h3) ⟨ho, fun u' hu' => eOf_at vw v1 hp.2 (by show X.A.units + 1 + 9 < _; omega) u' (by simpa using hu'), ?_⟩
  exact ⟨.int (j : Nat), H, I.tok _, ⟨_, rfl⟩, q⟩
theorem mt_idxT (hK : g.K = X.K) (hu : X.A.units + 64 < cLine) : MtR X "tuple.index" (rIdx g true) := by
  intro pins s σ H x xs v us Q I rx rxs hh
  obtain ⟨W, a, vs, l, y, yv, j, rfl, hs, rl, rfl, ry, hp, hj, q⟩ := hh
  rw [if_pos rfl, hK] at hs
  cases rx
  obtain ⟨u, rfl, ru⟩ := rxs.one
  rw [Bool.and_eq_true] at hp
  have v1 := view_of I hK ry 9 hp.1 u ru
  obtain ⟨its, rv, ⟨⟨cls, dd, data, sl⟩, ho, hc, n, hd⟩, hlen⟩ := I.tuple hs
  simp only at hc hd
  subst hc hd
  have vw := views_of I hK rl 9 hp.2 its rv
  obtain ⟨hjl, h2, h3⟩ := idx_facts vw hj
  refine call_meets PySem.F.slot_tuple_index ⟨_, ho, rfl⟩ PySem.F.entry_tuple_index (PySem.F.args_tuple_index_2 _ _)
    (TI.tuple_indexAt a its.toArray n dd sl u (eOf s y) j hjl h2 h3) ⟨ho, fun u' hu' => eOf_at vw v1 hp.2 (by show X.A.units + 1 + 9 < _; omega) u' (by simpa using hu'), ?_⟩
  exact ⟨.int (j : Nat), H, I.tok _, ⟨_, rfl⟩, q⟩
/-- a sequence is a tuple, or a list that stands in H -/
theorem seq_kind {d : D} (e : (seqOf h d).isSome = true) : (∃ l, d = .tup l) ∨ ∃ l, top h d = .lst l := by
  cases d with
  | tup l => exact .inl ⟨l, rfl⟩
  | lst l => exact .inr ⟨l, rfl⟩
  | scr l => exact .inr ⟨_, rfl⟩
  | ref n =>
    right
    unfold seqOf at e
    simp only [top] at e ⊢
    split at e
    · rename_i q
      split at q <;> cases q
    · rename_i l q
      split at q
      · rename_i m z
        exact ⟨m, rfl⟩
      · cases q
    · cases e
  | _ => simp [seqOf, top] at e
theorem seqOf_tup {l : List D} : seqOf h (.tup l) = some l := rfl
theorem mk_index (hK : g.K = X.K) (hu : X.A.units + 64 < cLine) : MtOk X g U Phi .index "index" := by
  intro d x W h H R r hk
  have fin : ∀ (tup : Bool), (∀ W2 h2 H2, Ex W W2 H H2 → HR g W2 h2 H2 → ∀ l, seqOf h2 d = some l → ∃ a vs, x = .ref a ∧ (if tup = true then SqT g.K H2 a vs else SqL g.K H2 a vs) ∧ Rps g W2 H2 l vs) →
      ∀ ds vs W2 h2 H2 Q, Ex W W2 H H2 → HR g W2 h2 H2 → Rps g W2 H2 ds vs → Pst g U (Rp g) W2 H2 (prim Phi .index (d :: ds) h2) Q → rIdx g tup x vs H2 Q := by
    intro tup hsq ds vs W2 h2 H2 Q x2 R2 rs p
    cases rs with
    | nil => exact p.elim
    | cons r1 rs =>
      cases rs with
      | cons _ _ => exact p.elim
      | nil =>
        rename_i y yv
        replace p : Pst g U (Rp g) W2 H2 (pIndex d y h2) Q := p
        unfold pIndex at p
        split at p
        · rename_i l hl
          split at p
          · rename_i hp
            split at p
            · rename_i j hj
              obtain ⟨a, vs, e, hs, rl⟩ := hsq W2 h2 H2 x2 R2 l hl
              exact ⟨W2, a, vs, l, y, yv, j, e, hs, rl, rfl, r1, hp, hj, p W2 _ H2 (Ex.refl _ _) R2 (.int _)⟩
            · exact p.elim
          · exact p.elim
        · exact p.elim
  rcases seq_kind hk with ⟨l, rfl⟩ | ⟨l, hl⟩
  · refine ⟨rIdx g true x, ⟨"tuple", "tuple.index", rIdx g true, PySem.F.plainAttrs_tuple, PySem.F.slot_tuple_index, PySem.F.type_tuple_index, ty_tup hK r, mt_idxT hK hu, fun _ _ _ k => k⟩, fin true fun W2 h2 H2 x2 R2 l' hl' => ?_⟩
    cases hl'
    obtain ⟨a, vs, e, hs, rl⟩ := tup_sq (X := X) hK (r.mono x2)
    exact ⟨a, vs, e, by rw [if_pos rfl, hK]; exact hs, rl⟩
  · obtain ⟨a, vs, e, hs, _⟩ := top_lst (X := X) hK R r hl
    refine ⟨rIdx g false x, ⟨"list", "list.index", rIdx g false, PySem.F.plainAttrs_list, PySem.F.slot_list_index, PySem.F.type_list_index, ty_list e hs, mt_idxL hK hu, fun _ _ _ k => k⟩, fin false fun W2 h2 H2 x2 R2 l' hl' => ?_⟩
    rcases seq_kind (h := h2) (d := d) (by rw [hl']; rfl) with ⟨m, rfl⟩ | ⟨m, hm⟩
    · cases hl
    · have : m = l' := by
        unfold seqOf at hl'
        rw [hm] at hl'
        exact Option.some.inj hl'
      subst this
      obtain ⟨a, vs, e, hs, rl⟩ := top_lst (X := X) hK R2 (r.mono x2) hm
      exact ⟨a, vs, e, by rw [if_neg Bool.false_ne_true, hK]; exact hs, rl⟩
/-! ### count -/
def rCnt (g : Gi) : V → List V → Hp → VK → Prop := fun x xs H Q => ∃ (W : Wd) (a : Addr) (vs : List V) (l : List D) (y : D) (yv : V), x = .ref a ∧ SqL g.K H a vs ∧ Rps g W H l vs ∧ xs = [yv] ∧ Rp g W H y yv ∧ (pu 9 y && l.all (pu 9)) = true ∧
  Q (.int (l.countP fun z => eqD z y : Nat)) H
theorem mt_cnt (hK : g.K = X.K) (hu : X.A.units + 64 < cLine) : MtR X "list.count" (rCnt g) := by
  intro pins s σ H x xs v us Q I rx rxs hh
  obtain ⟨W, a, vs, l, y, yv, rfl, hs, rl, rfl, ry, hp, q⟩ := hh
  rw [hK] at hs
  cases rx
  obtain ⟨u, rfl, ru⟩ := rxs.one
  rw [Bool.and_eq_true] at hp
  have v1 := view_of I hK ry 9 hp.1 u ru
  obtain ⟨its, rv, ⟨⟨cls, dd, data, sl⟩, n, ho, hc, hdn, hd⟩, hlen⟩ := I.list hs
  simp only at hc hd
  subst hc hd
  have vw := views_of I hK rl 9 hp.2 its rv
  refine call_meets PySem.F.slot_list_count ⟨_, ho, rfl⟩ PySem.F.entry_list_count (PySem.F.args_list_count_2 _ _)
    (SeqAt.list_countAt a its.toArray n dd sl u (eOf s y)) ⟨ho, fun u' hu' => eOf_at vw v1 hp.2 (by show X.A.units + 1 + 9 < _; omega) u' (by simpa using hu'), ?_⟩
  have ec : its.toArray.toList.countP (eOf s y) = l.countP fun z => eqD z y := countP_eOf vw
  refine ⟨.int (l.countP fun z => eqD z y : Nat), H, I.tok _, ⟨s.toks, ?_⟩, q⟩
  rw [ec]
theorem lstOf_top {d : D} {l : List D} (e : lstOf h d = some l) : top h d = .lst l := by
  unfold lstOf at e
  split at e
  · rename_i m q
    cases e
    exact q
  · cases e
theorem mk_count (hK : g.K = X.K) (hu : X.A.units + 64 < cLine) : MtOk X g U Phi .count "count" := by
  intro d x W h H R r hk
  replace hk : (lstOf h d).isSome = true := hk
  obtain ⟨l0, hl0⟩ := Option.isSome_iff_exists.mp hk
  obtain ⟨a, vs, e, hs, _⟩ := lstOf_sq (X := X) hK R r hl0
  refine ⟨rCnt g x, ⟨"list", "list.count", rCnt g, PySem.F.plainAttrs_list, PySem.F.slot_list_count, PySem.F.type_list_count, ty_list e hs, mt_cnt hK hu, fun _ _ _ k => k⟩, ?_⟩
  intro ds vs W2 h2 H2 Q x2 R2 rs p
  cases rs with
  | nil => exact p.elim
  | cons r1 rs =>
    cases rs with
    | cons _ _ => exact p.elim
    | nil =>
      rename_i y yv
      replace p : Pst g U (Rp g) W2 H2 (pCount d y h2) Q := p
      unfold pCount at p
      split at p
      · rename_i l hl
        split at p
        · rename_i hp
          obtain ⟨a, vs, e, hs, rl⟩ := lstOf_sq (X := X) hK R2 (r.mono x2) hl
          exact ⟨W2, a, vs, l, y, yv, e, hK ▸ hs, rl, rfl, r1, hp, p W2 _ H2 (Ex.refl _ _) R2 (.int _)⟩
        · exact p.elim
      · exact p.elim
/-! ### a list cell is changed -/
theorem isLst_at {d : D} (R : HR g W h H) {x : V} (r : Rp g W H d x) (e : isLst h d = true) : ∃ a vs, x = .ref a ∧ SqL X.K H a vs := by
  cases d with
  | ref n =>
    simp only [isLst] at e
    split at e
    · rename_i l q
      obtain ⟨a, vs, h1, _, h2, _⟩ := ref_lst R r q
      exact ⟨a, vs, h1, SqL.of h2⟩
    · cases e
  | _ => cases e
/-- a method that changes its list -/
theorem mk_onList {o : Op} {name : Str} {id : String} {rr : V → List V → Hp → VK → Prop} (sl : Slot "list" name id) (ty : typeOf (.builtin id) = pure (.type "method_descriptor")) (mt : MtR X id rr) (hko : ∀ d h, kindOk o d h = isLst h d)
    (fin : ∀ n a l vs ds us W h H Q, HR g W h H → W.ph[n]? = some a → h[n]? = some (.lst l) → H a = some (.lst vs) → Rps g W H l vs → Rps g W H ds us → Pst g U (Rp g) W H (prim Phi o (.ref n :: ds) h) Q → rr (.ref a) us H Q)
    (hno : ∀ d ds h, (∀ n l, d = .ref n → h[n]? ≠ some (.lst l)) → prim Phi o (d :: ds) h = .bad) : MtOk X g U Phi o name := by
  intro d x W h H R r hk
  rw [hko] at hk
  obtain ⟨a, vs, e, hs⟩ := isLst_at (X := X) R r hk
  refine ⟨rr x, ⟨"list", id, rr, PySem.F.plainAttrs_list, sl, ty, ty_list e hs, mt, fun _ _ _ k => k⟩, ?_⟩
  intro ds us W2 h2 H2 Q x2 R2 rs p
  cases d with
  | ref n =>
    cases q : h2[n]? with
    | none =>
      rw [hno (.ref n) ds h2 (fun m l e => by cases e; rw [q]; exact fun z => nomatch z)] at p
      exact p.elim
    | some c =>
      cases c with
      | lst l =>
        obtain ⟨a, vs, e, hn, hH, rl⟩ := ref_lst R2 (r.mono x2) q
        subst e
        exact fin n a l vs ds us W2 h2 H2 Q R2 hn q hH rl rs p
      | _ =>
        rw [hno (.ref n) ds h2 (fun m l e => by cases e; rw [q]; exact fun z => nomatch z)] at p
        exact p.elim
  | _ =>
    rw [hno _ ds h2 (fun m l e => by cases e)] at p
    exact p.elim
theorem onList_no {d : D} {f : Nat → List D → M D} {h : Hh} (hn : ∀ n l, d = .ref n → h[n]? ≠ some (.lst l)) : onList d f h = .bad := by
  cases d with
  | ref n =>
    cases q : h[n]? with
    | none => simp only [onList, q]
    | some c =>
      cases c with
      | lst l => exact absurd q (hn n l rfl)
      | _ => simp only [onList, q]
  | _ => rfl
theorem onList_yes {n : Nat} {l : List D} {f : Nat → List D → M D} {h : Hh} (e : h[n]? = some (.lst l)) : onList (.ref n) f h = f n l h := by
  simp only [onList, e]
theorem nd_lst {l : List D} : Cell.lst l ≠ .dead := fun z => nomatch z
theorem set_lst (R : HR g W h H) {n : Nat} {a : Addr} {l l' : List D} {vs' : List V} (hn : W.ph[n]? = some a) (e : h[n]? = some (.lst l)) (r : Rps g W H l' vs') : Ex W W H (upd H a (.lst vs')) ∧ HR g W (h.set n (.lst l')) (upd H a (.lst vs')) :=
  ⟨ex_set R hn e nd_lst, hr_set R hn e nd_lst ⟨vs', upd_same, r.mono (ex_set R hn e nd_lst)⟩⟩
theorem mk_append : MtOk X g U Phi .append "append" :=
  mk_onList PySem.F.slot_list_append PySem.F.type_list_append (rr := rAppend) mt_append (fun _ _ => rfl) (by
    intro n a l vs ds us W h H Q R hn e hH rl rs p
    cases rs with
    | nil => exact p.elim
    | cons r1 rs =>
      cases rs with
      | cons _ _ => exact p.elim
      | nil =>
        rename_i y yv
        replace p : Pst g U (Rp g) W H (pAppend (.ref n) y h) Q := p
        unfold pAppend at p
        rw [onList_yes e] at p
        unfold guardM at p
        split at p
        · rename_i hl
          obtain ⟨x1, R1⟩ := set_lst R hn e (rl.app (.cons r1 .nil))
          exact ⟨a, vs, yv, rfl, rfl, hH, sz_lt (by rw [← rl.length]; exact of_decide_eq_true hl), p W _ _ x1 R1 .non⟩
        · exact p.elim) (by
    intro d ds h hn
    cases ds with
    | nil => rfl
    | cons y ds =>
      cases ds with
      | cons _ _ => rfl
      | nil => exact onList_no hn)
theorem mk_extend : MtOk X g U Phi .extend "extend" :=
  mk_onList PySem.F.slot_list_extend PySem.F.type_list_extend (rr := rExtend) mt_extend (fun _ _ => rfl) (by
    intro n a l vs ds us W h H Q R hn e hH rl rs p
    cases rs with
    | nil => exact p.elim
    | cons r1 rs =>
      cases rs with
      | cons _ _ => exact p.elim
      | nil =>
        rename_i y yv
        replace p : Pst g U (Rp g) W H (pExtend (.ref n) y h) Q := p
        unfold pExtend at p
        rw [onList_yes e] at p
        split at p
        · rename_i r' hr'
          obtain ⟨b, us', rfl, hB, rb⟩ := lstT_sq R r1 hr'
          split at p
          · rename_i hl
            obtain ⟨x1, R1⟩ := set_lst R hn e (rl.app rb)
            exact ⟨a, b, vs, us', rfl, rfl, hH, hB, sz_line (by rw [← rl.length, ← rb.length]; exact hl), p W _ _ x1 R1 .non⟩
          · exact p.elim
        · exact p.elim) (by
    intro d ds h hn
    cases ds with
    | nil => rfl
    | cons y ds =>
      cases ds with
      | cons _ _ => rfl
      | nil => show pExtend d y h = _; unfold pExtend; exact onList_no hn)
theorem mk_pop0 : MtOk X g U Phi .pop0 "pop" :=
  mk_onList PySem.F.slot_list_pop PySem.F.type_list_pop (rr := rPop) mt_pop (fun _ _ => rfl) (by
    intro n a l vs ds us W h H Q R hn e hH rl rs p
    cases rs with
    | cons r1 rs => exact p.elim
    | nil =>
      replace p : Pst g U (Rp g) W H (pPop0 (.ref n) h) Q := p
      unfold pPop0 at p
      rw [onList_yes e] at p
      split at p
      · rename_i x hx
        rw [List.getLast?_eq_getElem?] at hx
        obtain ⟨v, hv, rv⟩ := rl.get hx
        have hd : Rps g W H l.dropLast vs.dropLast := by
          rw [List.dropLast_eq_take, List.dropLast_eq_take, rl.length]
          exact rl.take _
        obtain ⟨x1, R1⟩ := set_lst R hn e hd
        exact ⟨a, vs, v, rfl, rfl, hH, by rw [← rl.length]; exact hv, p W _ _ x1 R1 (rv.mono x1)⟩
      · exact p.elim) (by
    intro d ds h hn
    cases ds with
    | nil => show pPop0 d h = _; unfold pPop0; exact onList_no hn
    | cons y ds => rfl)
theorem mk_pop1 : MtOk X g U Phi .pop1 "pop" :=
  mk_onList PySem.F.slot_list_pop PySem.F.type_list_pop (rr := rPopAt) mt_popAt (fun _ _ => rfl) (by
    intro n a l vs ds us W h H Q R hn e hH rl rs p
    cases rs with
    | nil => exact p.elim
    | cons r1 rs =>
      cases rs with
      | cons _ _ => exact p.elim
      | nil =>
        rename_i y yv
        cases y with
        | int i =>
          cases r1
          replace p : Pst g U (Rp g) W H (pPop1 (.ref n) (.int i) h) Q := p
          unfold pPop1 at p
          dsimp only at p
          rw [onList_yes e] at p
          split at p
          · rename_i hi
            split at p
            · rename_i x hx
              obtain ⟨v, hv, rv⟩ := rl.get hx
              obtain ⟨x1, R1⟩ := set_lst R hn e (rl.erase i.toNat)
              have hil : i.toNat < l.length := (List.getElem?_eq_some_iff.mp hx).1
              have hk : seqIndex? i vs.length = some i.toNat := by
                have := (ixN_seq (n := vs.length) (i := i) (j := i.toNat) (by
                  unfold L2.ixN
                  rw [if_pos hi.1, if_pos (by rw [← rl.length]; omega)])).1
                exact this
              exact ⟨a, vs, i, i.toNat, v, rfl, rfl, hH, by omega, by omega, hk, hv, p W _ _ x1 R1 (rv.mono x1)⟩
            · exact p.elim
          · exact p.elim
        | _ => exact p.elim) (by
    intro d ds h hn
    cases ds with
    | nil => rfl
    | cons y ds =>
      cases ds with
      | cons _ _ => rfl
      | nil =>
        cases y with
        | int i => show pPop1 d (.int i) h = _; unfold pPop1; dsimp only; exact onList_no hn
        | _ => rfl)
theorem mk_insert : MtOk X g U Phi .insert "insert" :=
  mk_onList PySem.F.slot_list_insert PySem.F.type_list_insert mt_insert (fun _ _ => rfl) (by
    intro n a l vs ds us W h H Q R hn e hH rl rs p
    cases rs with
    | nil => exact p.elim
    | cons r1 rs =>
      cases rs with
      | nil => exact p.elim
      | cons r2 rs =>
        cases rs with
        | cons _ _ => exact p.elim
        | nil =>
          rename_i y yv z zv
          cases y with
          | int i =>
            cases r1
            replace p : Pst g U (Rp g) W H (pInsert (.ref n) (.int i) z h) Q := p
            unfold pInsert at p
            dsimp only at p
            rw [onList_yes e] at p
            split at p
            · rename_i hi
              obtain ⟨x1, R1⟩ := set_lst R hn e (((rl.take i.toNat).app (.cons r2 .nil)).app (rl.drop i.toNat))
              refine ⟨a, vs, i, zv, rfl, rfl, hH, sz_lt (by rw [← rl.length]; exact hi.2.2), hi.1, by omega, p W _ _ x1 ?_ .non⟩
              rw [List.append_assoc] at R1
              exact R1
            · exact p.elim
          | _ => exact p.elim) (by
    intro d ds h hn
    cases ds with
    | nil => rfl
    | cons y ds =>
      cases ds with
      | nil => rfl
      | cons z ds =>
        cases ds with
        | cons _ _ => rfl
        | nil =>
          cases y with
          | int i => show pInsert d (.int i) z h = _; unfold pInsert; dsimp only; exact onList_no hn
          | _ => rfl)
def rRemD (g : Gi) : V → List V → Hp → VK → Prop := fun x xs H Q => ∃ (W : Wd) (a : Addr) (vs : List V) (l : List D) (y : D) (yv : V) (j : Nat), x = .ref a ∧ H a = some (.lst vs) ∧ Rps g W H l vs ∧ xs = [yv] ∧ Rp g W H y yv ∧ (pu 9 y && l.all (pu 9)) = true ∧
  l.findIdx? (fun z => eqD z y) = some j ∧ Q .non (upd H a (.lst (vs.eraseIdx j)))
theorem mt_remD (hK : g.K = X.K) (hu : X.A.units + 64 < cLine) : MtR X "list.remove" (rRemD g) := by
  intro pins s σ H x xs v us Q I rx rxs hh
  obtain ⟨W, a, vs, l, y, yv, j, rfl, hH, rl, rfl, ry, hp, hj, q⟩ := hh
  cases rx
  obtain ⟨u, rfl, ru⟩ := rxs.one
  rw [Bool.and_eq_true] at hp
  have v1 := view_of I hK ry 9 hp.1 u ru
  obtain ⟨z, its, n, r, hl, e⟩ := I.lstM hH
  have vw := views_of I hK rl 9 hp.2 its r
  obtain ⟨hjl, h2, h3⟩ := idx_facts vw hj
  refine call_meets PySem.F.slot_list_remove ⟨_, e, rfl⟩ PySem.F.entry_list_remove (PySem.F.args_list_remove_2 _ _)
    (SeqAt.list_removeAt a its.toArray n none #[] u (eOf s y) j hjl h2 h3 (by rw [List.size_toArray]; omega)) ⟨e, fun u' hu' => eOf_at vw v1 hp.2 (by show X.A.units + 1 + 9 < _; omega) u' (by simpa using hu'), ?_⟩
  refine ⟨.non, _, I.lset (its' := its.eraseIdx j) (t' := s.toks) hH e ?_ (r.eraseIdx j) ?_, rfl, q⟩
  · show its.toArray.eraseIdxIfInBounds j = (its.eraseIdx j).toArray
    rw [List.eraseIdxIfInBounds_toArray]
  · have := len_erase vs j
    omega
theorem mk_remove (hK : g.K = X.K) (hu : X.A.units + 64 < cLine) : MtOk X g U Phi .remove "remove" :=
  mk_onList PySem.F.slot_list_remove PySem.F.type_list_remove (mt_remD hK hu) (fun _ _ => rfl) (by
    intro n a l vs ds us W h H Q R hn e hH rl rs p
    cases rs with
    | nil => exact p.elim
    | cons r1 rs =>
      cases rs with
      | cons _ _ => exact p.elim
      | nil =>
        rename_i y yv
        replace p : Pst g U (Rp g) W H (pRemove (.ref n) y h) Q := p
        unfold pRemove at p
        rw [onList_yes e] at p
        split at p
        · rename_i hp
          split at p
          · rename_i j hj
            obtain ⟨x1, R1⟩ := set_lst R hn e (rl.erase j)
            exact ⟨W, a, vs, l, y, yv, j, rfl, hH, rl, rfl, r1, hp, hj, p W _ _ x1 R1 .non⟩
          · exact p.elim
        · exact p.elim) (by
    intro d ds h hn
    cases ds with
    | nil => rfl
    | cons y ds =>
      cases ds with
      | cons _ _ => rfl
      | nil => show pRemove d y h = _; unfold pRemove; exact onList_no hn)
/-! ### strip -/
theorem stripped_L (goes : Nat → Bool) (l : List Nat) : ((l.drop (l.takeWhile goes).length).take (l.length - ((l.drop (l.takeWhile goes).length).reverse.takeWhile goes).length - (l.takeWhile goes).length)) = ((l.dropWhile goes).reverse.dropWhile goes).reverse := by
  have e1 : l.drop (l.takeWhile goes).length = l.dropWhile goes := by
    conv => lhs; arg 2; rw [← List.takeWhile_append_dropWhile (p := goes) (l := l)]
    rw [List.drop_left]
  rw [e1]
  generalize hm : l.dropWhile goes = m
  have hl : l.length = (l.takeWhile goes).length + m.length := by
    conv => lhs; rw [← List.takeWhile_append_dropWhile (p := goes) (l := l)]
    rw [List.length_append, hm]
  have e2 : l.length - (m.reverse.takeWhile goes).length - (l.takeWhile goes).length = m.length - (m.reverse.takeWhile goes).length := by omega
  rw [e2]
  have e3 : m.reverse = m.reverse.takeWhile goes ++ m.reverse.dropWhile goes := (List.takeWhile_append_dropWhile).symm
  have e4 : m = (m.reverse.dropWhile goes).reverse ++ (m.reverse.takeWhile goes).reverse := by
    conv => lhs; rw [← List.reverse_reverse m, e3, List.reverse_append]
  have e5 : m.length - (m.reverse.takeWhile goes).length = (m.reverse.dropWhile goes).reverse.length := by
    have := congrArg List.length e3
    rw [List.length_append, List.length_reverse] at this
    rw [List.length_reverse]
    omega
  rw [e5]
  conv => lhs; arg 2; rw [e4]
  rw [List.take_left]
theorem strip_eq (x y : Str) : Txt.stripChars x y = strL (stripL y.cps.toList x.cps.toList) := by
  have hg : ∀ c, y.cps.contains c = y.cps.toList.contains c := fun c => by simp
  have key : Builtin.Str.strSub x (stripLo y.cps.contains true x) (stripHi y.cps.contains true x (stripLo y.cps.contains true x)) = strL (stripL y.cps.toList x.cps.toList) := by
    unfold Builtin.Str.strSub strL stripL
    congr 1
    apply Array.ext'
    rw [Array.toList_extract]
    have := stripped_L y.cps.contains x.cps.toList
    simp only [stripLo, stripHi, if_true, List.extract_eq_take_drop]
    have hlen : x.length = x.cps.toList.length := by simp [Str.length]
    rw [hlen, this, show (y.cps.contains : Nat → Bool) = fun c => y.cps.toList.contains c from funext hg]
  unfold Txt.stripChars Txt.stripBy
  split
  · rename_i hs
    rw [← key]
    unfold stripSame at hs
    rw [Bool.and_eq_true, beq_iff_eq, beq_iff_eq] at hs
    rw [hs.2, hs.1]
    unfold Builtin.Str.strSub
    simp [Str.length]
  · exact key
theorem mk_strip : MtOk X g U Phi .strip "strip" := by
  intro d x W h H R r hk
  cases d with
  | str s0 =>
    cases r
    refine ⟨_, ⟨"str", "str.strip", _, PySem.F.plainAttrs_str, PySem.F.slot_str_strip, PySem.F.type_str_strip, ty_str, mt_stripChars, fun _ _ _ k => k⟩, ?_⟩
    intro ds us W2 h2 H2 Q x2 R2 rs p
    cases rs with
    | nil => exact p.elim
    | cons r1 rs =>
      cases rs with
      | cons _ _ => exact p.elim
      | nil =>
        rename_i y yv
        cases y with
        | str cs =>
          cases r1
          replace p : Pst g U (Rp g) W2 H2 (pStrip (.str s0) (.str cs) h2) Q := p
          unfold pStrip at p
          dsimp only at p
          unfold guardM at p
          split at p
          · rename_i hl
            refine ⟨s0, cs, rfl, rfl, sz_line (of_decide_eq_true hl), ?_⟩
            rw [strip_eq]
            exact p W2 _ H2 (Ex.refl _ _) R2 (.str _)
          · exact p.elim
        | _ => exact p.elim
  | _ => cases hk
end
end TS

set_option Elab.async false
set_option linter.all false
set_option maxRecDepth 100000
set_option maxHeartbeats 4000000
/-! TS8: subscripts, slices, built-in functions. -/
namespace TS
open PySem L2 PySem.SeqAt
section
variable {X : Cx} {g : Gi} {U : XK} {Phi : Nat → List D → M D} {W : Wd} {h : Hh} {H : Hp} {pins : List (Addr × Obj)} {σ : L2.St} {s : Shared}
theorem atI_map {vs : List V} {l : List D} (r : Rps g W H l vs) {i : Int} {d : D} (e : TS.atI l i = some d) : ∃ v, L2.atI vs i = some v ∧ Rp g W H d v := by
  unfold TS.atI at e
  unfold L2.atI
  rw [← r.length]
  cases q : TS.ixN l.length i with
  | none => rw [q] at e; cases e
  | some j =>
    rw [q] at e
    have q' : L2.ixN l.length i = some j := q
    rw [q']
    exact r.get e
def rDGetB : R2 := fun x y H Q => ∃ a v, x = .ref a ∧ DGet H a y (some v) ∧ Q v H
theorem ix_dict (hu : X.A.units + 1 < cLine) : IxR X rDGetB := by
  intro value slice pins s σ H x y v u Q I rx ry hh hs
  obtain ⟨a, z, rfl, gt, q⟩ := hh
  cases rx
  have hT := dict_typeIs I gt
  unfold PyProof.Rows.subscriptTail
  refine wpAny_bind ?_
  rw [getitemInPython_of_ne hT.not_modules]
  refine wpAny_bind (wpAny_specialOf hT PySem.F.slot_dict_getitem.lookup ?_)
  have fin : wpAny (model X.prog X.w) X.A (subscripted slice false (.ref a) u) (fun r s₃ => wpAny (model X.prog X.w) X.A (letTemporaryGo value (.ref a) r >>= fun _ => pure r) (EP X pins σ Q) X.xe s₃) X.xe s := by
    rw [hs]
    exact wpAny_operating (wpAny_mono (d_getItem hu I gt ry fun w' s3 I3 rw' => (⟨z, H, I3, rw', q⟩ : EP X pins σ Q w' s3)) (fun r s₃ h₃ => wpAny_bind (PySem.wpAny_letTemporaryGo (wpAny_pure h₃))) fun _ _ x => x)
  first
    | exact wpAny_pure (wpAny_bind fin)
    | exact wpAny_bind (wpAny_pure (wpAny_bind fin))
    | exact wpAny_bind fin
def rIxA (K : PySem.W.Frag) : R2 := fun x y H Q => rIx K x y H Q ∨ rDGetB x y H Q
theorem pr_ix (hK : g.K = X.K) : Prim2 g U (rIxA X.K) (prim Phi .ix) := by
  intro d e x y W h H Q R r1 r2 p
  replace p : Pst g U (Rp g) W H (ixD d e h) Q := p
  unfold ixD at p
  split at p
  · rename_i z k
    split at p
    · rename_i c hc
      split at p
      · rename_i hl
        cases r1; cases r2
        exact .inl (.inr (.inr ⟨z, k, c, rfl, rfl, sz_line hl, hc, p W _ H (Ex.refl W H) R (.str _)⟩))
      · exact p.elim
    · exact p.elim
  · split at p
    · rename_i l k hl _
      split at p
      · rename_i d1 hd
        cases r2
        obtain ⟨a, vs, rfl, hs, rl⟩ := seq_sq hK R r1 hl
        obtain ⟨v, hv, rv⟩ := atI_map rl hd
        rcases hs with hs | hs
        · exact .inl (.inl ⟨a, vs, k, v, rfl, rfl, hs, hv, p W _ H (Ex.refl W H) R rv⟩)
        · exact .inl (.inr (.inl ⟨a, vs, k, v, rfl, rfl, hs, hv, p W _ H (Ex.refl W H) R rv⟩))
      · exact p.elim
    · split at p
      · split at p
        · rename_i kvs hk
          split at p
          · rename_i hkey
            split at p
            · rename_i d1 hd
              cases r1 with
              | ref hn =>
                obtain ⟨kvs', hH, hpr⟩ := R.cell _ _ _ hn hk
                obtain ⟨k, ek⟩ := keyV_some hkey
                have ev := keyV_rp r2 ek
                subst ev
                rcases look_val hpr ek with ⟨h1, h2⟩ | ⟨x, v, h1, h2, h3⟩
                · rw [h1] at hd; cases hd
                · rw [h1] at hd
                  cases hd
                  refine .inr ⟨_, v, rfl, ?_, p W _ H (Ex.refl W H) R h3⟩
                  rw [← h2]
                  exact DGet.k hH
            · exact p.elim
          · exact p.elim
        · exact p.elim
      · exact p.elim
theorem se_ix {e1 e2 : Expr} {a b : E} {pos : Pos} (hK : g.K = X.K) (hu : X.A.units + 1 < cLine) (hs : PlainIx e2) (h1 : SE X g U e1 (a.ev Phi)) (h2 : SE X g U e2 (b.ev Phi)) : SE X g U (.Subscript e1 e2 pos) ((E.op .ix [a, b]).ev Phi) :=
  se_op2 (fun p q => pe_ix (ix_seq.or (ix_dict hu)) p q hs) h1 h2 (pr_ix hK)

/-! ### slices -/
def rSlF (K : PySem.W.Frag) : V → Option Int → Option Int → Hp → VK → Prop := fun x lo hi H Q => ∃ a xs, x = .ref a ∧ SqT K H a xs ∧
  (HT.sIx xs.length 0 lo = 0 ∧ HT.sIx xs.length xs.length hi = xs.length → Q (.ref a) H) ∧ (¬ (HT.sIx xs.length 0 lo = 0 ∧ HT.sIx xs.length xs.length hi = xs.length) → ∀ p o, H p = none → o.cls = .type "tuple" → o.dict = none → Q (.ref p) (upd H p (.frz o (.tup (cutV xs lo hi)))))
theorem sl_tupF : SlR X (rSlF X.K) := by
  intro pins s σ H x v vl vu lo hi sl Q I rx hs pl pu hh
  obtain ⟨a, xs, rfl, hx, q1, q2⟩ := hh
  cases rx
  obtain ⟨its, r, ht, hz⟩ := I.tuple hx
  have hlen : its.toArray.size = xs.length := by rw [List.size_toArray]; exact r.length.symm
  refine ⟨"tuple", _, PyProof.Rows.slot_tuple_getitem.lookup, ht.typeIs, ?_⟩
  by_cases hw : HT.sIx xs.length 0 lo = 0 ∧ HT.sIx xs.length xs.length hi = xs.length
  · exact getItem_tuple_whole ht hs pl pu (by rw [hlen]; exact hw) ⟨.ref a, H, I, rfl, q1 hw⟩
  · refine HT.getItem_tuple_cut ht hs pl pu (by rw [hlen]; exact hw) ?_ (by rw [hlen]; exact hz)
    rw [hlen]
    refine ⟨.ref s.heap.objs.size, _, I.laid (t' := s.toks) (o := .frz { cls := .type "tuple", data := .seq ((its.drop (HT.sIx xs.length 0 lo)).take (HT.sIx xs.length xs.length hi - HT.sIx xs.length 0 lo)).toArray } (.tup (cutV xs lo hi))) (fun b ob q => Heap.get?_push_of_some _ q) (Nat.le_refl _) ?_, rfl, q2 hw _ _ (I.hok.fresh (Nat.le_refl _)) rfl rfl⟩
    exact ⟨Heap.get?_push_size _ rfl, Nat.le_trans (cutV_length xs lo hi) hz, _, (r.drop (HT.sIx xs.length 0 lo)).take (HT.sIx xs.length xs.length hi - HT.sIx xs.length 0 lo), PyProof.Rows.IsTup.new _ _⟩
theorem sIx_eq (n d : Nat) (o : Option Int) : HT.sIx n d o = TS.sIx n d o := by cases o <;> rfl
theorem cut_rps {l : List D} {vs : List V} (r : Rps g W H l vs) (lo hi : Option Int) : Rps g W H (cut l lo hi) (cutV vs lo hi) := by
  unfold cut cutV
  rw [sIx_eq, sIx_eq, ← r.length]
  exact (r.drop _).take _
theorem cut_all {α : Type} {l : List α} {lo hi : Option Int} (h1 : TS.sIx l.length 0 lo = 0) (h2 : TS.sIx l.length l.length hi = l.length) : cut l lo hi = l := by
  unfold cut
  rw [h1, h2]
  simp
theorem cutS_eq (z : Str) (lo hi : Option Int) : cutS z lo hi = strL (cut z.cps.toList lo hi) := by
  unfold cutS strL cut
  rw [sIx_eq, sIx_eq]
  have : z.length = z.cps.toList.length := by simp [Str.length]
  rw [this]
def rSlAll (K : PySem.W.Frag) : V → Option Int → Option Int → Hp → VK → Prop := fun x lo hi H Q => rSlS x lo hi H Q ∨ rSlF K x lo hi H Q ∨ rSlL K x lo hi H Q
/-- the slice's parts: an expression or none -/
def partE : Bool → List E → List E := fun b l => if b = true then l else []
theorem pr_sl (hK : g.K = X.K) {d : D} {x : V} {l u : Option Int} {Q : VK} (R : HR g W h H) (r : Rp g W H d x) {lo hi : Bool} {ds : List D} (e1 : ∃ r1, partO lo ds = some (l, r1) ∧ partO hi r1 = some (u, []))
    (p : Pst g U (Rp g) W H (slD lo hi (d :: ds) h) Q) : rSlAll X.K x l u H Q := by
  obtain ⟨r1, e1, e2⟩ := e1
  unfold slD at p
  simp only [e1, e2] at p
  split at p
  · rename_i z
    split at p
    · rename_i hl
      cases r
      refine .inl ⟨z, rfl, sz_line hl, ?_⟩
      rw [cutS_eq]
      exact p W _ H (Ex.refl W H) R (.str _)
    · exact p.elim
  · rename_i xs
    obtain ⟨a, vs, rfl, hs, rl⟩ := tup_sq hK r
    refine .inr (.inl ⟨a, vs, rfl, hs, fun hw => ?_, fun _ p0 o hp c1 c2 => pst_tup R hp c1 c2 (cut_rps rl l u) p⟩)
    rw [sIx_eq, sIx_eq, ← rl.length] at hw
    rw [cut_all hw.1 hw.2] at p
    exact p W _ H (Ex.refl W H) R r
  · split at p
    · rename_i xs hx
      obtain ⟨a, vs, rfl, hs, rl⟩ := lstOf_sq (X := X) hK R r hx
      exact .inr (.inr ⟨a, vs, rfl, hs, fun p0 hp => p _ _ _ (ex_new R hp) (hr_new R hp) (.lst (.inr rfl) upd_same ((cut_rps rl l u).mono (ex_new R hp)))⟩)
    · exact p.elim
theorem sl_all : SlR X (rSlAll X.K) := sl_str.or (sl_tupF.or sl_list)
theorem se_sl00 {e1 : Expr} {a : E} {p2 pos : Pos} (hK : g.K = X.K) (h1 : SE X g U e1 (a.ev Phi)) : SE X g U (.Subscript e1 (.Slice none none none p2) pos) ((E.op (.sl false false) [a]).ev Phi) :=
  PE.to (pe_slice sl_all h1 po_none po_none) fun σ H Q ⟨W, r, h, R, Er, p⟩ => by
    rw [ev_one] at p
    exact ⟨W, r, h, R, Er, Pst.bnd p fun d h1 W1 v H1 e1 x1 R1 r1 p1 => pr_sl (U := U) (lo := false) (hi := false) (ds := []) hK R1 r1 ⟨[], rfl, rfl⟩ p1⟩
theorem partO_int {d : D} {ds r1 : List D} {l : Option Int} (e : partO true (d :: ds) = some (l, r1)) : ∃ i, d = .int i ∧ l = some i ∧ r1 = ds := by
  cases d with
  | int i => cases e; exact ⟨i, rfl, rfl, rfl⟩
  | _ => cases e
theorem slD_int {lo hi : Bool} {a b : D} {ds : List D} (hl : lo = true ∨ (lo = false ∧ hi = true)) (hb : ∀ i, b ≠ .int i) : slD lo hi (a :: b :: ds) h = .bad := by
  rcases hl with rfl | ⟨rfl, rfl⟩
  · cases b with
    | int i => exact absurd rfl (hb i)
    | _ => rfl
  · cases b with
    | int i => exact absurd rfl (hb i)
    | _ => rfl
theorem se_sl10 {e1 e2 : Expr} {a b : E} {p2 pos : Pos} (hK : g.K = X.K) (h1 : SE X g U e1 (a.ev Phi)) (h2 : SE X g U e2 (b.ev Phi)) : SE X g U (.Subscript e1 (.Slice (some e2) none none p2) pos) ((E.op (.sl true false) [a, b]).ev Phi) :=
  PE.to (pe_slice sl_all h1 (po_some h2) po_none) fun σ H Q ⟨W, r, h, R, Er, p⟩ => by
    rw [ev_two] at p
    refine ⟨W, r, h, R, Er, Pst.bnd p fun d h1 W1 v H1 e1 x1 R1 r1 p1 => ?_⟩
    refine ⟨W1, r, h1, R1, Er.mono x1, Pst.bnd p1 fun d2 h2 W2 v2 H2 e2 x2 R2 r2 p2 => ?_⟩
    replace p2 : Pst g U (Rp g) W2 H2 (slD true false [d, d2] h2) Q := p2
    by_cases hi : ∃ i, d2 = .int i
    · obtain ⟨i, rfl⟩ := hi
      cases r2
      exact ⟨i, rfl, pr_sl hK R2 (r1.mono x2) ⟨[], rfl, rfl⟩ p2⟩
    · rw [slD_int (.inl rfl) fun i e => hi ⟨i, e⟩] at p2
      exact p2.elim
theorem se_sl01 {e1 e2 : Expr} {a b : E} {p2 pos : Pos} (hK : g.K = X.K) (h1 : SE X g U e1 (a.ev Phi)) (h2 : SE X g U e2 (b.ev Phi)) : SE X g U (.Subscript e1 (.Slice none (some e2) none p2) pos) ((E.op (.sl false true) [a, b]).ev Phi) :=
  PE.to (pe_slice sl_all h1 po_none (po_some h2)) fun σ H Q ⟨W, r, h, R, Er, p⟩ => by
    rw [ev_two] at p
    refine ⟨W, r, h, R, Er, Pst.bnd p fun d h1 W1 v H1 e1 x1 R1 r1 p1 => ?_⟩
    refine ⟨W1, r, h1, R1, Er.mono x1, Pst.bnd p1 fun d2 h2 W2 v2 H2 e2 x2 R2 r2 p2 => ?_⟩
    replace p2 : Pst g U (Rp g) W2 H2 (slD false true [d, d2] h2) Q := p2
    by_cases hi : ∃ i, d2 = .int i
    · obtain ⟨i, rfl⟩ := hi
      cases r2
      exact ⟨i, rfl, pr_sl hK R2 (r1.mono x2) ⟨[.int i], rfl, rfl⟩ p2⟩
    · rw [slD_int (.inr ⟨rfl, rfl⟩) fun i e => hi ⟨i, e⟩] at p2
      exact p2.elim
theorem ev_three (o : Op) (a b c : E) (r : Env) : (E.op o [a, b, c]).ev Phi r = bnd (a.ev Phi r) fun x => bnd (b.ev Phi r) fun y => bnd (c.ev Phi r) fun z => prim Phi o [x, y, z] := by
  simp only [E.ev, E.evs, bnd_assoc, ret_bnd]
theorem se_sl11 {e1 e2 e3 : Expr} {a b c : E} {p2 pos : Pos} (hK : g.K = X.K) (h1 : SE X g U e1 (a.ev Phi)) (h2 : SE X g U e2 (b.ev Phi)) (h3 : SE X g U e3 (c.ev Phi)) : SE X g U (.Subscript e1 (.Slice (some e2) (some e3) none p2) pos) ((E.sl2 a b c).ev Phi) :=
  PE.to (pe_slice sl_all h1 (po_some h2) (po_some h3)) fun σ H Q ⟨W, r, h, R, Er, p⟩ => by
    rw [E.ev] at p
    refine ⟨W, r, h, R, Er, Pst.bnd p fun d h1 W1 v H1 e1 x1 R1 r1 p1 => ?_⟩
    refine ⟨W1, r, h1, R1, Er.mono x1, Pst.bnd p1 fun d2 h2 W2 v2 H2 e2 x2 R2 r2 p2 => ?_⟩
    cases d2 with
    | int i =>
      cases r2
      refine ⟨i, rfl, W2, r, h2, R2, Er.mono (x1.trans x2), Pst.bnd p2 fun d3 h3 W3 v3 H3 e3 x3 R3 r3 p3 => ?_⟩
      cases d3 with
      | int j =>
        cases r3
        exact ⟨j, rfl, pr_sl hK R3 (r1.mono (x2.trans x3)) ⟨[.int j], rfl, rfl⟩ p3⟩
      | _ => exact p3.elim
    | _ => exact p2.elim
end
end TS

set_option Elab.async false
set_option linter.all false
set_option maxRecDepth 100000
set_option maxHeartbeats 4000000
/-! TS9: calls of built-in functions. -/
namespace TS
open PySem L2 PySem.SeqAt
section
variable {X : Cx} {g : Gi} {U : XK} {Phi : Nat → List D → M D} {W : Wd} {h : Hh} {H : Hp} {pins : List (Addr × Obj)} {σ : L2.St} {s : Shared}
/-- one argument -/
theorem pr_a1 {r : List V → Hp → VK → Prop} {f : D → M D} {o : Op} (ho : prim Phi o = a1 f) (hr : ∀ d x W h H Q, HR g W h H → Rp g W H d x → Pst g U (Rp g) W H (f d h) Q → r [x] H Q) : PrimL g U r (prim Phi o) := by
  intro ds vs W h H Q R rs p
  rw [ho] at p
  cases rs with
  | nil => exact p.elim
  | cons r1 rs =>
    cases rs with
    | cons _ _ => exact p.elim
    | nil => exact hr _ _ W h H Q R r1 p
/-- f(e, ..) of a built-in function, of a built-in type -/
theorem se_callB {x : Str} {id : String} {e : Expr} {es : List Expr} {as : List E} {o : Op} {r : List V → Hp → VK → Prop} {p pos : Pos} (hc : CallR X (.builtin id) r) (hg : Gl X x) (hm : X.mg x = none) (hv : bootBuiltins x = some (.builtin id)) (ha : SA X g U (e :: es) (E.evs Phi as)) (hp : PrimL g U r (prim Phi o))
    (hn : x ≠ "__name__") (hdb : (x == ("__debug__" : Str)) = false) (he : starEach (e :: es) X.env = (false, eval e X.env) :: starEach es X.env) (hpl : (backTo pos (starEach es X.env)).any (·.1) = false) : SE X g U (.Call (.Name x p) (e :: es) [] pos) ((E.op o as).ev Phi) :=
  se_opL (fun q => pe_callB hc hg hm hv q hn hdb he hpl) ha hp
theorem se_callTy {x : Str} {T : String} {e : Expr} {es : List Expr} {as : List E} {o : Op} {r : List V → Hp → VK → Prop} {p pos : Pos} (hc : CallR X (.type T) r) (hg : Gl X x) (hm : X.mg x = none) (hv : bootBuiltins x = some (.type T)) (ha : SA X g U (e :: es) (E.evs Phi as)) (hp : PrimL g U r (prim Phi o))
    (hn : x ≠ "__name__") (hdb : (x == ("__debug__" : Str)) = false) (he : starEach (e :: es) X.env = (false, eval e X.env) :: starEach es X.env) (hpl : (backTo pos (starEach es X.env)).any (·.1) = false) : SE X g U (.Call (.Name x p) (e :: es) [] pos) ((E.op o as).ev Phi) :=
  se_opL (fun q => pe_callTy hc hg hm hv q hn hdb he hpl) ha hp
def rLenA (K : PySem.W.Frag) : List V → Hp → VK → Prop := fun xs H Q => ∃ x n, xs = [x] ∧ LenV K x H n ∧ Q (.int n) H
theorem pr_len (hK : g.K = X.K) : PrimL g U (rLenA X.K) (prim Phi .len) := pr_a1 rfl fun d x W h H Q R r p => by
  unfold lenD at p
  split at p
  · rename_i z
    split at p
    · rename_i hl
      cases r
      exact ⟨_, z.length, rfl, ⟨sz_line hl, rfl⟩, p W _ H (Ex.refl W H) R (.int _)⟩
    · exact p.elim
  · split at p
    · rename_i l hl
      obtain ⟨a, vs, rfl, hs, rl⟩ := seq_sq hK R r hl
      refine ⟨_, vs.length, rfl, ?_, ?_⟩
      · rcases hs with hs | hs
        · exact .inl ⟨vs, hs, rfl⟩
        · exact .inr ⟨vs, hs, rfl⟩
      · rw [← rl.length]
        exact p W _ H (Ex.refl W H) R (.int _)
    · exact p.elim
theorem bls_rps : ∀ {l : List D} {vs : List V} {bs : List Bool}, blsOf l = some bs → Rps g W H l vs → vs = bs.map V.bl
  | [], _, _, e, .nil => by cases e; rfl
  | d :: l, _, bs, e, .cons r t => by
    cases d with
    | bl b =>
      simp only [blsOf, Option.map_eq_some_iff] at e
      obtain ⟨cs, e1, rfl⟩ := e
      cases r
      rw [bls_rps e1 t]; rfl
    | _ => cases e
theorem strs_rps : ∀ {l : List D} {vs : List V} {bs : List Str}, strsOf l = some bs → Rps g W H l vs → vs = bs.map V.str
  | [], _, _, e, .nil => by cases e; rfl
  | d :: l, _, bs, e, .cons r t => by
    cases d with
    | str b =>
      simp only [strsOf, Option.map_eq_some_iff] at e
      obtain ⟨cs, e1, rfl⟩ := e
      cases r
      rw [strs_rps e1 t]; rfl
    | _ => cases e
theorem ints_rps : ∀ {l : List D} {vs : List V} {bs : List Int}, intsOf l = some bs → Rps g W H l vs → vs = bs.map V.int
  | [], _, _, e, .nil => by cases e; rfl
  | d :: l, _, bs, e, .cons r t => by
    cases d with
    | int b =>
      simp only [intsOf, Option.map_eq_some_iff] at e
      obtain ⟨cs, e1, rfl⟩ := e
      cases r
      rw [ints_rps e1 t]; rfl
    | _ => cases e
theorem pr_all (hK : g.K = X.K) : PrimL g U (rAll X.K) (prim Phi .all) := pr_a1 rfl fun d x W h H Q R r p => by
  unfold pAll at p
  split at p
  · rename_i bs hb
    obtain ⟨l, hl, hbs⟩ := Option.bind_eq_some_iff.mp hb
    obtain ⟨a, vs, rfl, hs, rl⟩ := lstOf_sq (X := X) hK R r hl
    rw [bls_rps hbs rl] at hs
    exact ⟨a, bs, rfl, hs, p W _ H (Ex.refl W H) R (.bl _)⟩
  · exact p.elim
theorem pr_any (hK : g.K = X.K) : PrimL g U (rAny X.K) (prim Phi .any) := pr_a1 rfl fun d x W h H Q R r p => by
  unfold pAny at p
  split at p
  · rename_i bs hb
    obtain ⟨l, hl, hbs⟩ := Option.bind_eq_some_iff.mp hb
    obtain ⟨a, vs, rfl, hs, rl⟩ := lstOf_sq (X := X) hK R r hl
    rw [bls_rps hbs rl] at hs
    exact ⟨a, bs, rfl, hs, p W _ H (Ex.refl W H) R (.bl _)⟩
  · exact p.elim
/-- tuple(..), the new one's object known -/
def rTupF (K : PySem.W.Frag) : List V → Hp → VK → Prop := fun xs H Q => ∃ p ys, xs = [.ref p] ∧ ((SqL K H p ys ∧ ∀ l o, H l = none → o.cls = .type "tuple" → o.dict = none → Q (.ref l) (upd H l (.frz o (.tup ys)))) ∨ (SqT K H p ys ∧ Q (.ref p) H))
theorem call_tupF : CallR X (.type "tuple") (rTupF X.K) := by
  intro pins s σ H xs us Q I r hh
  obtain ⟨p, ys, rfl, hh⟩ := hh
  obtain ⟨u, rfl, rx⟩ := vals1 r
  cases rx
  rcases hh with ⟨hq, q⟩ | ⟨hq, q⟩
  · obtain ⟨its, r', pl, hz⟩ := I.list hq
    have hlen := r'.length
    refine PySem.call_tuple_list pl.isList (fun h' kp => ?_) (by simp only [List.size_toArray] <;> omega)
    have I1 : Inv X pins σ H { s with heap := h' } := I.kept (t' := s.toks) kp
    have I2 : Inv X pins σ (upd H h'.objs.size (.frz { cls := .type "tuple", data := .seq its.toArray } (.tup ys))) { s with heap := h'.push { cls := .type "tuple", data := .seq its.toArray } } :=
      I1.laid (t' := s.toks) (fun b o e => Heap.get?_push_of_some _ e) (Nat.le_refl _) (show ObjOk X.prog X.w _ _ _ (.frz _ (.tup ys)) from ⟨Heap.get?_push_size _ rfl, hz, its, r', PyProof.Rows.IsTup.new _ _⟩)
    exact ⟨.ref h'.objs.size, _, I2, rfl, q _ _ (I1.hok.fresh (Nat.le_refl _)) rfl rfl⟩
  · obtain ⟨its, r', pl, hz⟩ := I.tuple hq
    exact PySem.call_tuple_same pl ⟨.ref p, H, I, rfl, q⟩
theorem pr_tuple (hK : g.K = X.K) : PrimL g U (rTupF X.K) (prim Phi .tuple) := pr_a1 rfl fun d x W h H Q R r p => by
  unfold pTuple at p
  split at p
  · rename_i l hl
    rcases seq_kind (h := h) (d := d) (by rw [hl]; rfl) with ⟨m, rfl⟩ | ⟨m, hm⟩
    · cases hl
      obtain ⟨a, vs, rfl, hs, rl⟩ := tup_sq (X := X) hK r
      exact ⟨a, vs, rfl, .inr ⟨hs, p W _ H (Ex.refl W H) R r⟩⟩
    · have e : m = l := by
        unfold seqOf at hl
        rw [hm] at hl
        exact Option.some.inj hl
      subst e
      obtain ⟨a, vs, rfl, hs, rl⟩ := top_lst (X := X) hK R r hm
      exact ⟨a, vs, rfl, .inl ⟨hs, fun p0 o hp c1 c2 => pst_tup R hp c1 c2 rl p⟩⟩
  · exact p.elim
def rListA (K : PySem.W.Frag) : List V → Hp → VK → Prop := fun xs H Q => ∃ p ys, xs = [.ref p] ∧ (SqL K H p ys ∨ SqT K H p ys) ∧ ∀ l, H l = none → Q (.ref l) (upd H l (.lst ys))
theorem pr_list (hK : g.K = X.K) (m : Bool) : PrimL g U (rListA X.K) (prim Phi (.list m)) := pr_a1 rfl fun d x W h H Q R r p => by
  unfold pList at p
  split at p
  · rename_i l hl
    obtain ⟨a, vs, rfl, hs, rl⟩ := seq_sq hK R r hl
    exact ⟨a, vs, rfl, hs, fun p0 hp => (pst_lst R hp rl p).2⟩
  · exact p.elim
def rIntA : List V → Hp → VK → Prop := fun xs H Q => (∃ i, xs = [.int i] ∧ Q (.int i) H) ∨ ∃ k, xs = [.bl k] ∧ Q (.int (if k then 1 else 0)) H
theorem pr_int : PrimL g U rIntA (prim Phi .toInt) := pr_a1 rfl fun d x W h H Q R r p => by
  unfold pInt at p
  cases d with
  | int i => cases r; exact .inl ⟨i, rfl, p W _ H (Ex.refl W H) R (.int _)⟩
  | bl b => cases r; exact .inr ⟨b, rfl, p W _ H (Ex.refl W H) R (.int _)⟩
  | _ => exact p.elim
/-! ### isinstance -/
def tyName : Ty → String
  | .tInt => "int"
  | .tStr => "str"
  | .tBool => "bool"
  | .tTup => "tuple"
  | .tLst => "list"
theorem tyx_of (hK : g.K = X.K) (R : HR g W h H) {d : D} {x : V} {t : Ty} {b : Bool} (r : Rp g W H d x) (e : isTy t d h = some b) : ∃ n : String, TyX X.K H x (.type n) ∧ kitB n (tyName t) = some b := by
  cases d with
  | non => cases r; exact ⟨_, .base .non, by cases t <;> cases e <;> decide +kernel⟩
  | bl y => cases r; exact ⟨_, .base (.bl y), by cases t <;> cases e <;> decide +kernel⟩
  | int y => cases r; exact ⟨_, .base (.int y), by cases t <;> cases e <;> decide +kernel⟩
  | str y => cases r; exact ⟨_, .base (.str y), by cases t <;> cases e <;> decide +kernel⟩
  | tup l =>
    cases r with
    | tup f q z =>
      obtain ⟨o, q, _⟩ := q
      exact ⟨_, .fTuple q, by cases t <;> cases e <;> decide +kernel⟩
    | tupK q z =>
      obtain ⟨o, its, n, h1, h2, _⟩ := q
      exact ⟨_, .kTuple (hK ▸ h1) h2, by cases t <;> cases e <;> decide +kernel⟩
  | lst l =>
    cases r with
    | lst f q z => exact ⟨_, .base (.lst q), by cases t <;> cases e <;> decide +kernel⟩
  | scr l =>
    cases r with
    | scr f q => exact ⟨_, .base (.frz q), by cases t <;> cases e <;> decide +kernel⟩
    | scrK q =>
      obtain ⟨o, its, n, h1, h2, _⟩ := q
      exact ⟨_, .kList (hK ▸ h1) h2, by cases t <;> cases e <;> decide +kernel⟩
  | gl n => cases e
  | ref n =>
    simp only [isTy] at e
    split at e
    · rename_i l q
      obtain ⟨a, vs, rfl, _, hH, _⟩ := ref_lst R r q
      exact ⟨_, .base (.lst hH), by cases t <;> cases e <;> decide +kernel⟩
    · cases e
theorem se_isi {e1 : Expr} {a : E} {t : Ty} {y : Str} {p p2 pos : Pos} (hK : g.K = X.K) (h1 : SE X g U e1 (a.ev Phi)) (hg : Gl X "isinstance") (hm : X.mg "isinstance" = none) (hg2 : Gl X y) (hm2 : X.mg y = none) (hv2 : bootBuiltins y = some (.type (tyName t)))
    (hn2 : y ≠ "__name__") (hd2 : (y == ("__debug__" : Str)) = false)
    (he : ∀ es, starEach (e1 :: es) X.env = (false, eval e1 X.env) :: starEach es X.env) : SE X g U (.Call (.Name "isinstance" p) [e1, .Name y p2] [] pos) ((E.op (.isi t) [a]).ev Phi) :=
  PE.to (pe_callB call_isi hg hm (by decide +kernel) (pa_cons h1 (pa_cons (pe_bltn (v := .ty (tyName t)) hg2 hm2 hv2 rfl hn2 hd2) pa_nil) (he _)) (by decide) (by decide) (he _)) fun σ H Q ⟨W, r, h, R, Er, p⟩ => by
    rw [ev_one] at p
    refine ⟨W, r, h, R, Er, Pst.bnd p fun d h1 W1 v H1 e1 x1 R1 r1 p1 => ?_⟩
    replace p1 : Pst g U (Rp g) W1 H1 (pIsi t d h1) Q := p1
    unfold pIsi at p1
    split at p1
    · rename_i b hb
      obtain ⟨n, ty, kb⟩ := tyx_of hK R1 r1 hb
      exact ⟨v, _, _, _, b, rfl, .ty _, ty, kit_ty kb, p1 W1 _ H1 (Ex.refl _ _) R1 (.bl _)⟩
    · exact p1.elim
/-! ### sorted of texts -/
def rSrtS (K : PySem.W.Frag) : List V → Hp → VK → Prop := fun vs H Q => ∃ (a : Addr) (xs : List Str), vs = [V.ref a] ∧ (SqL K H a (xs.map V.str) ∨ SqT K H a (xs.map V.str)) ∧ xs.length < 64 ∧ ∀ (p : Addr), H p = none → Q (.ref p) (upd H p (.lst ((srtS xs).map V.str)))
end
end TS

set_option Elab.async false
set_option linter.all false
set_option maxRecDepth 100000
set_option maxHeartbeats 4000000
/-! TS10: tests, and, or, not, if-expressions, chains. -/
namespace TS
open PySem L2 PySem.SeqAt
section
variable {X : Cx} {g : Gi} {U : XK} {Phi : Nat → List D → M D} {W : Wd} {h : Hh} {H : Hp}
theorem tT_tE {f : Env → M D} {σ : L2.St} {H : Hp} {Q : Bool → Hp → Prop} (w : tT g U f σ H Q) : tE g U f σ H fun x H' => ∃ k, x = .bl k ∧ Q k H' := by
  obtain ⟨W, r, h, R, Er, p, hb⟩ := w
  refine ⟨W, r, h, R, Er, ?_⟩
  cases e : f r h with
  | ok d h' =>
    rw [e] at p
    obtain ⟨b, rfl⟩ := hb d h' e
    intro W' v H' x y z
    cases z
    exact ⟨b, rfl, p W' b H' x y rfl⟩
  | exc x h' => rw [e] at p; exact p
  | bad => rw [e] at p; exact p
theorem st_of {e : Expr} {t : TE} {f : Env → M D} (hh : PT X e (fun σ H Q => t σ H fun x H' => ∃ k, x = .bl k ∧ Q k H')) (k : ∀ σ H Q, tE g U f σ H Q → t σ H Q) : ST X g U e f := PT.to hh fun σ H Q w => k _ _ _ (tT_tE w)
theorem st_val {e : Expr} {f : Env → M D} (hh : SE X g U e f) (he : ∀ whole, isTrue e X.env whole = (do let v ← whole; standAt e.pos; holding [v] (truthy v))) : ST X g U e f := st_of (pt_val hh he) fun _ _ _ w => w
theorem rd_op1 {o : Op} {a : E} {r : V → Hp → VK → Prop} (hp : Prim1 g U r (prim Phi o)) : ∀ σ H Q, tE g U ((E.op o [a]).ev Phi) σ H Q → tUn r (tE g U (a.ev Phi)) σ H Q := fun σ H Q ⟨W, rr, h, R, Er, p⟩ => by
  rw [ev_one] at p
  exact ⟨W, rr, h, R, Er, Pst.bnd p fun d h1 W1 v H1 e1 x1 R1 r1 p1 => hp d v W1 h1 H1 Q R1 r1 p1⟩
theorem rd_op2 {o : Op} {a b : E} {r : R2} (hp : Prim2 g U r (prim Phi o)) : ∀ σ H Q, tE g U ((E.op o [a, b]).ev Phi) σ H Q → tOp r (tE g U (a.ev Phi)) (tE g U (b.ev Phi)) σ H Q := fun σ H Q ⟨W, rr, h, R, Er, p⟩ => by
  rw [ev_two] at p
  refine ⟨W, rr, h, R, Er, Pst.bnd p fun d h1 W1 v H1 e1 x1 R1 r1 p1 => ?_⟩
  refine ⟨W1, rr, h1, R1, Er.mono x1, Pst.bnd p1 fun d2 h2 W2 v2 H2 e2 x2 R2 r2 p2 => ?_⟩
  exact hp d d2 v v2 W2 h2 H2 Q R2 (r1.mono x2) r2 p2
theorem st_cmp {e1 e2 : Expr} {op : CmpOp} {o : Op} {a b : E} {r : R2} {pos : Pos} (ho : OpR X (compareOp op) r) (hm : behindInMarks op e2 = false) (h1 : SE X g U e1 (a.ev Phi)) (h2 : SE X g U e2 (b.ev Phi)) (hp : Prim2 g U r (prim Phi o)) :
    ST X g U (.Compare e1 [op] [e2] pos) ((E.op o [a, b]).ev Phi) := st_of (pt_cmpR ho h1 h2 hm) (rd_op2 hp)
theorem pr_lt : Prim2 g U (rI0 fun i j => .bl (decide (i < j))) (prim Phi .lt) := pr_int2 rfl fun i j W h H Q R p => ⟨i, j, rfl, rfl, p W _ H (Ex.refl W H) R (.bl _)⟩
theorem pr_le : Prim2 g U (rI0 fun i j => .bl (decide (i ≤ j))) (prim Phi .le) := pr_int2 rfl fun i j W h H Q R p => ⟨i, j, rfl, rfl, p W _ H (Ex.refl W H) R (.bl _)⟩
theorem pr_gt : Prim2 g U (rI0 fun i j => .bl (decide (j < i))) (prim Phi .gt) := pr_int2 rfl fun i j W h H Q R p => ⟨i, j, rfl, rfl, p W _ H (Ex.refl W H) R (.bl _)⟩
theorem pr_ge : Prim2 g U (rI0 fun i j => .bl (decide (j ≤ i))) (prim Phi .ge) := pr_int2 rfl fun i j W h H Q R p => ⟨i, j, rfl, rfl, p W _ H (Ex.refl W H) R (.bl _)⟩
/-- one comparison as a value, as a test -/
structure CmpOk (X : Cx) (g : Gi) (U : XK) (Phi : Nat → List D → M D) (op : CmpOp) (o : Op) (r : R2) : Prop where
  ho : OpR X (compareOp op) r
  hp : Prim2 g U r (prim Phi o)
theorem CmpOk.se {e1 e2 : Expr} {op : CmpOp} {o : Op} {a b : E} {r : R2} {pos : Pos} (c : CmpOk X g U Phi op o r) (hm : behindInMarks op e2 = false) (h1 : SE X g U e1 (a.ev Phi)) (h2 : SE X g U e2 (b.ev Phi)) : SE X g U (.Compare e1 [op] [e2] pos) ((E.op o [a, b]).ev Phi) :=
  se_op2 (fun p q => pe_cmpR c.ho p q hm) h1 h2 c.hp
theorem CmpOk.st {e1 e2 : Expr} {op : CmpOp} {o : Op} {a b : E} {r : R2} {pos : Pos} (c : CmpOk X g U Phi op o r) (hm : behindInMarks op e2 = false) (h1 : SE X g U e1 (a.ev Phi)) (h2 : SE X g U e2 (b.ev Phi)) : ST X g U (.Compare e1 [op] [e2] pos) ((E.op o [a, b]).ev Phi) :=
  st_cmp c.ho hm h1 h2 c.hp
def cmpOp : CmpOp → Option Op
  | .Eq => some .eq
  | .NotEq => some .ne
  | .Lt => some .lt
  | .LtE => some .le
  | .Gt => some .gt
  | .GtE => some .ge
  | .In => some .inn
  | .NotIn => some .nin
  | _ => none
theorem cmp_ok (hK : g.K = X.K) (hu : X.A.units + 64 < cLine) {op : CmpOp} {o : Op} (e : cmpOp op = some o) : ∃ r, CmpOk X g U Phi op o r := by
  cases op with
  | Eq => cases e; exact ⟨_, op_eqH hK hu, pr_eq false rfl⟩
  | NotEq => cases e; exact ⟨_, op_neH hK hu, pr_eq true rfl⟩
  | Lt => cases e; exact ⟨_, op_lt, pr_lt⟩
  | LtE => cases e; exact ⟨_, op_le, pr_le⟩
  | Gt => cases e; exact ⟨_, op_gt, pr_gt⟩
  | GtE => cases e; exact ⟨_, op_ge, pr_ge⟩
  | In => cases e; exact ⟨_, (op_inH hK hu).or (op_inB.or (op_dinB (by omega))), pr_in false rfl⟩
  | NotIn => cases e; exact ⟨_, (op_ninH hK hu).or (op_ninB.or (op_dninB (by omega))), pr_in true rfl⟩
  | Is => cases e
  | IsNot => cases e
theorem pr_isN : Prim1 g U (fun x H Q => Q (.bl (decide (x = .non))) H) (prim Phi .isN) := by
  intro d x W h H Q R r p
  have e : decide (d = .non) = decide (x = .non) := by
    by_cases q : d = .non
    · rw [decide_eq_true q, decide_eq_true (r.non_iff.mp q)]
    · rw [decide_eq_false q, decide_eq_false fun z => q (r.non_iff.mpr z)]
  rw [← e]
  exact p W _ H (Ex.refl W H) R (.bl _)
theorem pr_isnN : Prim1 g U (fun x H Q => Q (.bl (!decide (x = .non))) H) (prim Phi .isnN) := by
  intro d x W h H Q R r p
  have e : decide (d = .non) = decide (x = .non) := by
    by_cases q : d = .non
    · rw [decide_eq_true q, decide_eq_true (r.non_iff.mp q)]
    · rw [decide_eq_false q, decide_eq_false fun z => q (r.non_iff.mpr z)]
  rw [← e]
  exact p W _ H (Ex.refl W H) R (.bl _)
theorem st_isN {e1 : Expr} {a : E} {j : Nat} {pos p' : Pos} (h1 : SE X g U e1 (a.ev Phi)) : ST X g U (.Compare e1 [.Is] [.Constant .none j p'] pos) ((E.op .isN [a]).ev Phi) := st_of (pt_cmp (pc_isN h1)) (rd_op1 pr_isN)
theorem st_isnN {e1 : Expr} {a : E} {j : Nat} {pos p' : Pos} (h1 : SE X g U e1 (a.ev Phi)) : ST X g U (.Compare e1 [.IsNot] [.Constant .none j p'] pos) ((E.op .isnN [a]).ev Phi) := st_of (pt_cmp (pc_notN h1)) (rd_op1 pr_isnN)
/-! ### not, and, or in tests -/
/-- a test's meaning, one answer behind another -/
theorem tT_bnd {f : Env → M D} {k : D → M D} {σ : L2.St} {H : Hp} {Q : Bool → Hp → Prop} {Q1 : Bool → Hp → Prop} (w : tT g U (fun r => bnd (f r) k) σ H Q) (hk : ∀ d, (∀ b, d ≠ .bl b) → k d = mbad)
    (nx : ∀ b r h1 W1 H1, HR g W1 h1 H1 → ER g W1 H1 r σ → Pst g U RelB W1 H1 (k (.bl b) h1) Q → (∀ d h', k (.bl b) h1 = .ok d h' → ∃ b, d = .bl b) → Q1 b H1) : tT g U f σ H Q1 := by
  obtain ⟨W, r, h, R, Er, p, hb⟩ := w
  refine ⟨W, r, h, R, Er, ?_, ?_⟩
  · refine Pst.bnd (Rel := RelB) p fun d h1 W1 b H1 e1 x1 R1 e2 p1 => ?_
    cases e2
    refine nx b r h1 W1 H1 R1 (Er.mono x1) p1 fun d h' e => hb d h' ?_
    simp only [TS.bnd, e1, e]
  · intro d h' e
    by_cases hd : ∃ b, d = .bl b
    · exact hd
    · exfalso
      replace p : Pst g U RelB W H (bnd (f r) k h) Q := p
      unfold TS.bnd at p
      rw [e] at p
      simp only [hk d fun b q => hd ⟨b, q⟩] at p
      exact p
theorem st_not {e1 : Expr} {a : E} {pos : Pos} (h1 : ST X g U e1 (a.ev Phi)) : ST X g U (.UnaryOp .Not e1 pos) ((E.op .not [a]).ev Phi) :=
  PT.to (pt_not h1) fun σ H Q w => by
    have e : (E.op .not [a]).ev Phi = fun r => bnd (a.ev Phi r) pNot := by funext r; rw [ev_one]; rfl
    rw [e] at w
    refine tT_bnd w (fun d hd => ?_) fun b r h1 W1 H1 R1 Er p1 hb => p1 W1 _ H1 (Ex.refl _ _) R1 rfl
    cases d with
    | bl b => exact absurd rfl (hd b)
    | _ => rfl
def kAnd (f : M D) (x : D) : M D := match x with
  | .bl true => f
  | .bl false => ret (.bl false)
  | _ => mbad
theorem kAnd_no (f : M D) (d : D) (hd : ∀ b, d ≠ .bl b) : kAnd f d = mbad := by
  cases d with
  | bl b => exact absurd rfl (hd b)
  | _ => rfl
def SW (X : Cx) (g : Gi) (U : XK) (e : Expr) (f : Env → M D) : Prop := PW X e (tT g U f)
theorem PW.to {X : Cx} {e : Expr} {t t' : TT} (h : PW X e t) (k : ∀ σ H Q, t' σ H Q → t σ H Q) : PW X e t' := ⟨fun whole pins s σ H Q I w => h.run whole pins s σ H Q I (k σ H Q w)⟩
/-- tT over a meaning that depends on the names -/
theorem tT_and {f f2 : Env → M D} {k : M D → D → M D} {σ : L2.St} {H : Hp} {Q : Bool → Hp → Prop} {Q1 : Bool → Hp → Prop} (w : tT g U (fun r => bnd (f r) (k (f2 r))) σ H Q) (hk : ∀ m d, (∀ b, d ≠ .bl b) → k m d = mbad)
    (nx : ∀ b r h1 W1 H1, HR g W1 h1 H1 → ER g W1 H1 r σ → Pst g U RelB W1 H1 (k (f2 r) (.bl b) h1) Q → (∀ d h', k (f2 r) (.bl b) h1 = .ok d h' → ∃ b, d = .bl b) → Q1 b H1) : tT g U f σ H Q1 := by
  obtain ⟨W, r, h, R, Er, p, hb⟩ := w
  refine ⟨W, r, h, R, Er, ?_, ?_⟩
  · refine Pst.bnd (Rel := RelB) p fun d h1 W1 b H1 e1 x1 R1 e2 p1 => ?_
    cases e2
    refine nx b r h1 W1 H1 R1 (Er.mono x1) p1 fun d h' e => hb d h' ?_
    simp only [TS.bnd, e1, e]
  · intro d h' e
    by_cases hd : ∃ b, d = .bl b
    · exact hd
    · exfalso
      replace p : Pst g U RelB W H (bnd (f r) (k (f2 r)) h) Q := p
      unfold TS.bnd at p
      rw [e] at p
      simp only [hk (f2 r) d fun b q => hd ⟨b, q⟩] at p
      exact p
theorem ev_andB (a b : E) : (E.andB a b).ev Phi = fun r => bnd (a.ev Phi r) (kAnd (b.ev Phi r)) := by
  funext r
  rw [E.ev]
  congr 1
def kOr (f : M D) (x : D) : M D := match x with
  | .bl true => ret (.bl true)
  | .bl false => f
  | _ => mbad
theorem kOr_no (f : M D) (d : D) (hd : ∀ b, d ≠ .bl b) : kOr f d = mbad := by
  cases d with
  | bl b => exact absurd rfl (hd b)
  | _ => rfl
theorem ev_orB (a b : E) : (E.orB a b).ev Phi = fun r => bnd (a.ev Phi r) (kOr (b.ev Phi r)) := by
  funext r
  rw [E.ev]
  congr 1
theorem sw_and1 {e1 : Expr} {f : Env → M D} {pos : Pos} (h1 : ST X g U e1 f) : SW X g U (.BoolOp .And [e1] pos) f := pw_and1 h1
theorem sw_or1 {e1 : Expr} {f : Env → M D} {pos : Pos} (h1 : ST X g U e1 f) : SW X g U (.BoolOp .Or [e1] pos) f := pw_or1 h1
theorem sw_and {e1 e2 : Expr} {es : List Expr} {a b : E} {pos : Pos} (h1 : ST X g U e1 (a.ev Phi)) (h2 : SW X g U (.BoolOp .And (e2 :: es) pos) (b.ev Phi)) : SW X g U (.BoolOp .And (e1 :: e2 :: es) pos) ((E.andB a b).ev Phi) :=
  PW.to (pw_and h1 h2) fun σ H Q w => by
    rw [ev_andB] at w
    refine tT_and w kAnd_no fun c r h1 W1 H1 R1 Er p1 hb => ?_
    cases c with
    | true =>
      rw [if_pos rfl]
      exact ⟨W1, r, h1, R1, Er, p1, hb⟩
    | false =>
      rw [if_neg Bool.false_ne_true]
      exact p1 W1 _ H1 (Ex.refl _ _) R1 rfl
theorem sw_or {e1 e2 : Expr} {es : List Expr} {a b : E} {pos : Pos} (h1 : ST X g U e1 (a.ev Phi)) (h2 : SW X g U (.BoolOp .Or (e2 :: es) pos) (b.ev Phi)) : SW X g U (.BoolOp .Or (e1 :: e2 :: es) pos) ((E.orB a b).ev Phi) :=
  PW.to (pw_or h1 h2) fun σ H Q w => by
    rw [ev_orB] at w
    refine tT_and w kOr_no fun c r h1 W1 H1 R1 Er p1 hb => ?_
    cases c with
    | true =>
      rw [if_pos rfl]
      exact p1 W1 _ H1 (Ex.refl _ _) R1 rfl
    | false =>
      rw [if_neg Bool.false_ne_true]
      exact ⟨W1, r, h1, R1, Er, p1, hb⟩
/-! ### and, or, not as values -/
theorem truth_V (hK : g.K = X.K) (R : HR g W h H) {d : D} {v : V} {k : Bool} (r : Rp g W H d v) (e : truth h d = some k) : TruV X.K v H k := by
  cases d with
  | non => cases r; cases e; rfl
  | bl b => cases r; cases e; rfl
  | int i => cases r; cases e; rfl
  | str z =>
    cases r
    simp only [truth] at e
    split at e
    case isFalse => cases e
    rename_i hs
    cases e
    refine ⟨sz_line hs, ?_⟩
    have : ((z.length : Int) != 0) = (z.length != 0) := by
      cases q : z.length with
      | zero => rfl
      | succ n => simp; omega
    rw [this]
  | gl n => cases e
  | _ =>
    simp only [truth, Option.map_eq_some_iff] at e
    obtain ⟨l, hl, rfl⟩ := e
    obtain ⟨a, vs, rfl, hq, rl⟩ := seq_sq hK R r hl
    have el : (!l.isEmpty) = !vs.isEmpty := by cases rl <;> rfl
    rcases hq with hq | hq
    · exact .inl ⟨vs, hq, el⟩
    · exact .inr (.inl ⟨vs, hq, el⟩)
theorem st_ifT {e1 e2 e3 : Expr} {c a b : E} {pos : Pos} (h1 : ST X g U e1 (c.ev Phi)) (h2 : SE X g U e2 (a.ev Phi)) (h3 : SE X g U e3 (b.ev Phi)) : SE X g U (.IfExp e1 e2 e3 pos) ((E.ife c a b).ev Phi) :=
  PE.to (pe_ifExp h1 h2 h3) fun σ H Q ⟨W, r, h, R, Er, p⟩ => by
    rw [E.ev] at p
    refine ⟨W, r, h, R, Er, Pst.bnd (Rel := RelB) p fun d h1 W1 x H1 e1 x1 R1 e2 p1 => ?_, fun d h' e => ?_⟩
    · cases e2
      cases x with
      | true =>
        rw [if_pos rfl]
        exact ⟨W1, r, h1, R1, Er.mono x1, p1⟩
      | false =>
        rw [if_neg Bool.false_ne_true]
        exact ⟨W1, r, h1, R1, Er.mono x1, p1⟩
    · unfold TS.bnd at p
      rw [e] at p
      cases d with
      | bl b => exact ⟨b, rfl⟩
      | _ => exact p.elim
theorem se_and {e1 e2 : Expr} {es : List Expr} {a b : E} {pos : Pos} (hK : g.K = X.K) (h1 : SE X g U e1 (a.ev Phi)) (h2 : SE X g U (.BoolOp .And (e2 :: es) pos) (b.ev Phi)) : SE X g U (.BoolOp .And (e1 :: e2 :: es) pos) ((E.and a b).ev Phi) :=
  PE.to (pe_andT h1 h2) fun σ H Q ⟨W, r, h, R, Er, p⟩ => by
    rw [E.ev] at p
    refine ⟨W, r, h, R, Er, Pst.bnd p fun d h1 W1 x H1 e1 x1 R1 r1 p1 => ?_⟩
    split at p1
    · rename_i ht
      exact ⟨true, truth_V hK R1 r1 ht, by rw [if_pos rfl]; exact ⟨W1, r, h1, R1, Er.mono x1, p1⟩⟩
    · rename_i ht
      exact ⟨false, truth_V hK R1 r1 ht, by rw [if_neg Bool.false_ne_true]; exact p1 W1 _ H1 (Ex.refl _ _) R1 r1⟩
    · exact p1.elim
theorem se_or {e1 e2 : Expr} {es : List Expr} {a b : E} {pos : Pos} (hK : g.K = X.K) (h1 : SE X g U e1 (a.ev Phi)) (h2 : SE X g U (.BoolOp .Or (e2 :: es) pos) (b.ev Phi)) : SE X g U (.BoolOp .Or (e1 :: e2 :: es) pos) ((E.or a b).ev Phi) :=
  PE.to (pe_orT h1 h2) fun σ H Q ⟨W, r, h, R, Er, p⟩ => by
    rw [E.ev] at p
    refine ⟨W, r, h, R, Er, Pst.bnd p fun d h1 W1 x H1 e1 x1 R1 r1 p1 => ?_⟩
    split at p1
    · rename_i ht
      exact ⟨true, truth_V hK R1 r1 ht, by rw [if_pos rfl]; exact p1 W1 _ H1 (Ex.refl _ _) R1 r1⟩
    · rename_i ht
      exact ⟨false, truth_V hK R1 r1 ht, by rw [if_neg Bool.false_ne_true]; exact ⟨W1, r, h1, R1, Er.mono x1, p1⟩⟩
    · exact p1.elim
theorem se_one {op : BoolOp} {e1 : Expr} {f : Env → M D} {pos : Pos} (h1 : SE X g U e1 f) : SE X g U (.BoolOp op [e1] pos) f := pe_one h1
theorem se_not {e1 : Expr} {a : E} {pos : Pos} (h1 : SE X g U e1 (a.ev Phi)) : SE X g U (.UnaryOp .Not e1 pos) ((E.op .not [a]).ev Phi) :=
  PE.to (pe_not h1) fun σ H Q ⟨W, r, h, R, Er, p⟩ => by
    rw [ev_one] at p
    refine ⟨W, r, h, R, Er, Pst.bnd p fun d h1 W1 x H1 e1 x1 R1 r1 p1 => ?_⟩
    replace p1 : Pst g U (Rp g) W1 H1 (pNot d h1) Q := p1
    cases d with
    | bl b => cases r1; exact ⟨b, rfl, p1 W1 _ H1 (Ex.refl _ _) R1 (.bl _)⟩
    | _ => exact p1.elim
/-! ### a <= b <= c -/
theorem rd_chain {a b c : E} : ∀ σ H Q, tE g U ((E.chain a b c).ev Phi) σ H Q → tChain (rI0 fun i j => .bl (decide (i ≤ j))) (rI0 fun i j => .bl (decide (i ≤ j))) (tE g U (a.ev Phi)) (tE g U (b.ev Phi)) (tE g U (c.ev Phi)) σ H Q := fun σ H Q ⟨W, r, h, R, Er, p⟩ => by
  rw [E.ev] at p
  refine ⟨W, r, h, R, Er, Pst.bnd p fun d h1 W1 x H1 e1 x1 R1 r1 p1 => ?_⟩
  refine ⟨W1, r, h1, R1, Er.mono x1, Pst.bnd p1 fun d2 h2 W2 y H2 e2 x2 R2 r2 p2 => ?_⟩
  cases d with
  | int i =>
    cases d2 with
    | int j =>
      cases r1; cases r2
      refine ⟨i, j, rfl, rfl, decide (i ≤ j), rfl, ?_⟩
      dsimp only at p2
      by_cases hij : i ≤ j
      · rw [if_pos hij] at p2
        rw [decide_eq_true hij, if_pos rfl]
        refine ⟨W2, r, h2, R2, Er.mono (x1.trans x2), Pst.bnd p2 fun d3 h3 W3 z H3 e3 x3 R3 r3 p3 => ?_⟩
        cases d3 with
        | int k => cases r3; exact ⟨j, k, rfl, rfl, p3 W3 _ H3 (Ex.refl _ _) R3 (.bl _)⟩
        | _ => exact p3.elim
      · rw [if_neg hij] at p2
        rw [decide_eq_false hij, if_neg Bool.false_ne_true]
        exact p2 W2 _ H2 (Ex.refl _ _) R2 (.bl _)
    | _ => exact p2.elim
  | _ => exact p2.elim
theorem se_chain {e1 e2 e3 : Expr} {a b c : E} {pos : Pos} (h1 : SE X g U e1 (a.ev Phi)) (h2 : SE X g U e2 (b.ev Phi)) (h3 : SE X g U e3 (c.ev Phi)) : SE X g U (.Compare e1 [.LtE, .LtE] [e2, e3] pos) ((E.chain a b c).ev Phi) :=
  PE.to (pe_chain op_le op_le h1 h2 h3 (show lastMarks [.LtE, .LtE] [e2, e3] = false from nomark e3)) rd_chain
theorem st_chain {e1 e2 e3 : Expr} {a b c : E} {pos : Pos} (h1 : SE X g U e1 (a.ev Phi)) (h2 : SE X g U e2 (b.ev Phi)) (h3 : SE X g U e3 (c.ev Phi)) : ST X g U (.Compare e1 [.LtE, .LtE] [e2, e3] pos) ((E.chain a b c).ev Phi) :=
  st_of (pt_chain op_le op_le h1 h2 h3 (show lastMarks [.LtE, .LtE] [e2, e3] = false from nomark e3)) rd_chain
end
end TS

set_option Elab.async false
set_option linter.all false
set_option maxRecDepth 100000
set_option maxHeartbeats 4000000
/-! TS11: what is walked: lists, tuples, texts, ranges, enumerate, zip. -/
namespace TS
open PySem L2 PySem.SeqAt
/-! ### lists, tuples, texts by the value that comes -/
def iSeq (K : PySem.W.Frag) (te : TE) : TI := fun σ H R => te σ H fun v H1 => (∃ a xs, v = .ref a ∧ SqL K H1 a xs ∧ R (Itl K a) H1) ∨ (∃ a xs, v = .ref a ∧ SqT K H1 a xs ∧ R (Itt K a) H1) ∨ ∃ x, v = .str x ∧ R (Its x) H1
theorem pi_seq {X : Cx} {tg e : Expr} {te : TE} (he : PE X e te) : PI X tg e (iSeq X.K te) := by
  refine ⟨fun pins s σ H R I h => ?_⟩
  refine thn (he.run pins s σ H _ I h) fun v s1 ⟨y, H1, I1, r1, q1⟩ => ?_
  rcases q1 with ⟨a, xs, ex, hq, q⟩ | ⟨a, xs, ex, hq, q⟩ | ⟨x, ex, q⟩
  · subst ex
    cases r1
    obtain ⟨its, rv, p, hz⟩ := I1.list hq
    exact wpAny_pyIter_list p.isList (pi_one (tk := s1.toks) I1 _ (turn_list a _) ⟨_, Heap.get?_push_size _ rfl, rfl, rfl⟩ q)
  · subst ex
    cases r1
    obtain ⟨its, rv, p, hz⟩ := I1.tuple hq
    exact wpAny_pyIter_tuple (show s1.heap.IsTuple a its.toArray from p) (pi_one (tk := s1.toks) I1 _ (turn_tuple a _) ⟨_, Heap.get?_push_size _ rfl, rfl, rfl⟩ q)
  · subst ex
    obtain ⟨t, rfl⟩ := r1
    cases ha : x.cps.all (· < 128)
    · exact wpAny_pyIter_wide ha (pi_one (tk := s1.toks) I1 _ (turn_str _ x t "str_iterator" (.inr rfl)) ⟨_, Heap.get?_push_size _ rfl, rfl, rfl⟩ q)
    · exact wpAny_pyIter_ascii ha (pi_one (tk := s1.toks) I1 _ (turn_str _ x t "str_ascii_iterator" (.inl rfl)) ⟨_, Heap.get?_push_size _ rfl, rfl, rfl⟩ q)

/-! ### enumerate of a tuple -/
def IteT (K : PySem.W.Frag) (a : Addr) : It :=
  ⟨fun i H => ∃ (xs : List V) (x : V), SqT K H a xs ∧ xs[i]? = some x, fun i H v H' => ∃ T x, v = .ref T ∧ H T = none ∧ H' = upd H T (.tup [.int (i : Nat), x]) ∧ ∀ xs, SqT K H a xs → xs[i]? = some x, fun i H => ∃ xs : List V, SqT K H a xs ∧ xs.length = i⟩
theorem turn_enumT {P : Program} {w : World} {K : PySem.W.Frag} {elts : List Expr} {kk : Nat} {tpos : Pos} (a e it : Addr) :
    Turn P w K (.Tuple elts kk tpos) (IteT K a) [e, it] e (fun i h => (∃ old, IsEnum h e it ((i : Nat) : Int) old) ∧ h.IsTupleIter it a i ∧ e ≠ it ∧ a ≠ it ∧ a ≠ e) where
  mem := by simp
  obj := fun i h st b hb => by
    obtain ⟨⟨old, he⟩, ⟨o, ho, hc, hd⟩, _⟩ := st
    have e' : b = e ∨ b = it := by simpa using hb
    rcases e' with z | z
    · rw [z]; exact ⟨_, he, fun v q => nomatch q⟩
    · rw [z]; exact ⟨o, ho, fun v q => by rw [hd] at q; cases q⟩
  keep := fun i h h' st k => let ⟨⟨old, he⟩, hi, hne⟩ := st; ⟨⟨old, k e (by simp) _ he⟩, hi.at fun o q => k it (by simp) o q, hne⟩
  item := by
    intro X hP hw hK hc i pins s σ H E I hf st hg
    subst hP hw hK
    obtain ⟨⟨old, he⟩, hit, hne, ha1, ha2⟩ := st
    obtain ⟨xs, x, hq, hx⟩ := hg
    obtain ⟨its, rv, p, hz⟩ := I.tuple hq
    obtain ⟨u, hu, ru⟩ := rv.get hx
    have hel : e < s.heap.objs.size := Heap.lt_size he
    have hil : it < s.heap.objs.size := by obtain ⟨_, q, _⟩ := hit; exact Heap.lt_size q
    have hiz : i < its.toArray.size := by
      have := (List.getElem?_eq_some_iff.mp hu).1
      simpa using this
    refine wpAny_pyNext_enum_itemC (Draws.tuple (A := X.A.in1) (show X.A.in1.handled = none from I.ok.hd hc) it a ha1 its.toArray) he ⟨hit, p⟩ hiz hne (by simp only [List.mem_cons, List.not_mem_nil, or_false, not_or]; exact ⟨hne, Ne.symm ha2⟩) fun u' h' tk hP ho hs' hT hsz hk => ?_
    have eu : u' = u := by
      have e1 : its[i]? = some u' := by simpa using hP
      rw [hu] at e1
      exact (Option.some.inj e1).symm
    subst eu
    refine ⟨_, rfl, wpAny_letOwnedTupleGo_enum (s := { s with heap := h', toks := tk + 1 }) ho fun h'' he' sb => ?_⟩
    have hT2 : h''.get? s.heap.objs.size = some { cls := .type "tuple", data := .seq #[.int i tk, u'] } := (sb.2 _ (Nat.ne_of_gt hel)).trans hT
    have new : ObjOk X.prog X.w (upd H s.heap.objs.size (.tup [.int (i : Nat), x])) h'' s.heap.objs.size (.tup [.int (i : Nat), x]) :=
      ⟨by show 2 ≤ sizeLine; decide, [.int i tk, u'], .cons ⟨_, rfl⟩ (.cons ru .nil), ⟨_, hT2, rfl, _, rfl⟩⟩
    have I1 : Inv X pins σ (upd H s.heap.objs.size (.tup [.int (i : Nat), x])) { s with heap := h'', toks := tk + 1 } :=
      I.turnedNew (ch := [e, it]) (fun b ob hb q => (sb.2 b (fun z => hb (by simp [z]))).trans (hk b ob (fun z => hb (by simp [z])) (fun z => hb (by simp [z])) q)) hf (Nat.le_refl _) new
    refine ⟨.ref s.heap.objs.size, _, I1, rfl, ⟨_, x, rfl, I.hok.fresh (Nat.le_refl _), rfl, fun ys hy => by rw [I.tuple_inj hy hq]; exact hx⟩, ⟨⟨u', ?_⟩, hs'.1.at fun o q => (sb.2 it (Ne.symm hne)).trans q, hne, ha1, ha2⟩, fun b hb => ?_⟩
    · have e1 : ((i + 1 : Nat) : Int) = (i : Int) + 1 := by omega
      rw [e1]; exact he'
    · have hb' : b < s.heap.objs.size := by
        have e' : b = e ∨ b = it := by simpa using hb
        rcases e' with z | z
        · rw [z]; exact hel
        · rw [z]; exact hil
      rw [upd_ne (Nat.ne_of_lt hb')]
      exact (hf b hb).1
  done := by
    intro X hP hw hK hc i pins s σ H E I hf st hg
    subst hP hw hK
    obtain ⟨⟨old, he⟩, hit, hne, ha1, ha2⟩ := st
    obtain ⟨xs, hq, hx⟩ := hg
    obtain ⟨its, rv, p, hz⟩ := I.tuple hq
    obtain ⟨f0, f1, f2, f3, f4, f5⟩ := hf it (by simp)
    have hl := rv.length
    have ei : i = its.toArray.size := by simp; omega
    rw [ei] at hit
    exact wpAny_pyNext_enum_endD (Draws.tuple (A := X.A.in1) (show X.A.in1.handled = none from I.ok.hd hc) it a ha1 its.toArray) he ⟨hit, p⟩ fun h' eb => ⟨rfl, I.turned (t' := s.toks) (fun b o hb q => eb b o hb q) f0 f1 f3 f4 f5⟩
  self := fun A i s Q E st h => let ⟨⟨_, he⟩, _⟩ := st; wpAny_pyIter_enum he h

set_option maxHeartbeats 1000000 in
theorem meets_enumerate_newB1 {v : Value} {o : Obj} {H : Heap → Prop} (B : Begins v o H) :
    Meets (Builtin.«enumerate.__new__» ⟨[.type "enumerate", v], []⟩) (fun _ R s => H s.heap ∧
      R (.ok (.ret (.ref (s.heap.push o).objs.size))) { s with heap := (s.heap.push o).push { cls := .type "enumerate", data := .fields #[.none, .bool false, .ref s.heap.objs.size, rawInt 0, .none, .none] } }) :=
  .of_wp fun prog w A R s h => by
    obtain ⟨hp, g, d, tk, os⟩ := s; obtain ⟨h1, h⟩ := h
    have hsub := sub_enumerate
    have q1 : ∀ {A' : Around} {E : Value → Shared → Prop} {Q : Value → Shared → Prop}, Q (.ref hp.objs.size) ⟨hp.push o, g, d, tk, os⟩ → wpAny (model prog w) A' (pyIter v) Q E ⟨hp, g, d, tk, os⟩ :=
      fun q => B.iter prog w _ _ ⟨hp, g, d, tk, os⟩ _ h1 q
    wp_walk using q1
    refine wpAny_stack_any fun st => wpAny_pure ?_
    split
    · rename_i c _ _ _ _ _
      cases (c == Value.type "enumerate")
      · wp_walk using q1
        exact ⟨_, rfl, h⟩
      · wp_walk using q1
        exact ⟨_, rfl, h⟩
    · wp_walk using q1
      exact ⟨_, rfl, h⟩
theorem enum_begins1 {prog : Program} {w : World} {A : Around} {E : Value → Shared → Prop} {s : Shared} {v : Value} {o : Obj} {H : Heap → Prop} {Q : Value → Shared → Prop} (B : Begins v o H) (h1 : H s.heap)
    (h : ∀ h', IsEnum h' (s.heap.objs.size + 1) s.heap.objs.size 0 .none → h'.get? s.heap.objs.size = some o → h'.objs.size = s.heap.objs.size + 2 →
      (∀ b o, s.heap.get? b = some o → h'.get? b = some o) → Q (.ref (s.heap.objs.size + 1)) { s with heap := h' }) :
    wpAny (model prog w) A (call (.type "enumerate") [v]) Q E s := by
  refine callType_new F.called_enumerate (by decide) (F.typeCall_enumerate_1 _) (F.newCall_enumerate_1 _) (fun obj => F.args_object_init_2 obj _) F.entry_enumerate_new
    (meets_enumerate_newB1 B) ⟨h1, ?_⟩
  have hz : (s.heap.push o).objs.size = s.heap.objs.size + 1 := Heap.size_push ..
  show _ ∧ _
  rw [hz]
  have he : IsEnum ((s.heap.push o).push { cls := .type "enumerate", data := .fields #[.none, .bool false, .ref s.heap.objs.size, rawInt 0, .none, .none] }) (s.heap.objs.size + 1) s.heap.objs.size 0 .none := by
    have := Heap.get?_push_size (s.heap.push o) (o := { cls := .type "enumerate", data := .fields #[.none, .bool false, .ref s.heap.objs.size, rawInt 0, .none, .none] }) rfl
    rw [hz] at this; exact this
  refine ⟨⟨_, he, rfl⟩, h _ he (Heap.get?_push_of_some _ (Heap.get?_push_size _ B.free)) (by rw [Heap.size_push, hz]) fun b o x => Heap.get?_push_of_some _ (Heap.get?_push_of_some _ x)⟩

def iEnumA (K : PySem.W.Frag) (ta : TA) : TI := fun σ H R => ta σ H fun vs H1 => ∃ a xs, vs = [.ref a] ∧ ((SqL K H1 a xs ∧ R (Ite K a) H1) ∨ (SqT K H1 a xs ∧ R (IteT K a) H1))
theorem pi_enumA {X : Cx} {e : Expr} {ta : TA} {p pos tpos : Pos} {elts : List Expr} {kk : Nat} (hg : Gl X "enumerate") (hm : X.mg "enumerate" = none) (ha : PA X [e] ta) (hs : starEach [e] X.env = [(false, eval e X.env)]) :
    PI X (.Tuple elts kk tpos) (.Call (.Name "enumerate" p) [e] [] pos) (iEnumA X.K ta) := by
  refine ⟨fun pins s σ H R I h => ?_⟩
  refine PyProof.Rows.Call_ (ld_blt I hg hm PyProof.Rows.boot_enumerate (PyProof.Rows.callWith_type1 (thn (ha.run pos pins s σ H _ I h) fun us s1 ⟨vs, H1, I1, r1, q1⟩ => ?_) hs rfl))
  obtain ⟨a, xs, ex, q1⟩ := q1
  subst ex
  cases r1 with
  | cons r rr =>
    cases rr
    cases r
    have fr : ∀ b ∈ [s1.heap.objs.size + 1, s1.heap.objs.size], FpOk X pins H1 b := fun b hb => by
      have e' : b = s1.heap.objs.size + 1 ∨ b = s1.heap.objs.size := by simpa using hb
      have hle : s1.heap.objs.size ≤ b := by
        rcases e' with z | z
        · rw [z]; exact Nat.le_add_right _ _
        · rw [z]; exact Nat.le_refl _
      exact I1.fpOk hle (I1.hok.fresh hle)
    rcases q1 with ⟨hq, q⟩ | ⟨hq, q⟩
    · obtain ⟨its, rv, p', hz⟩ := I1.list hq
      refine call_enumerate_list p'.isList fun h' he hit hsz hk => wpAny_pyIter_enum he ?_
      have I2 : Inv X pins σ H1 { s1 with heap := h' } := I1.kept (t' := s1.toks) hk
      exact ⟨s1.heap.objs.size + 1, [s1.heap.objs.size + 1, s1.heap.objs.size], _, _, H1, rfl, I2, turn_enum a (s1.heap.objs.size + 1) s1.heap.objs.size, ⟨⟨.none, he⟩, hit, Nat.succ_ne_self _⟩, fr, q⟩
    · obtain ⟨its, rv, p', hz⟩ := I1.tuple hq
      obtain ⟨o1, ho1, _⟩ := id p'
      have hlt : a < s1.heap.objs.size := Heap.lt_size ho1
      refine enum_begins1 (begins_tuple a its.toArray) p' fun h' he hit hsz hk => wpAny_pyIter_enum he ?_
      have I2 : Inv X pins σ H1 { s1 with heap := h' } := I1.kept (t' := s1.toks) hk
      exact ⟨s1.heap.objs.size + 1, [s1.heap.objs.size + 1, s1.heap.objs.size], _, _, H1, rfl, I2, turn_enumT a (s1.heap.objs.size + 1) s1.heap.objs.size, ⟨⟨.none, he⟩, ⟨_, hit, rfl, rfl⟩, Nat.succ_ne_self _, Nat.ne_of_lt hlt, Nat.ne_of_lt (Nat.lt_succ_of_lt hlt)⟩, fr, q⟩
end TS

set_option Elab.async false
set_option linter.all false
set_option maxRecDepth 100000
set_option maxHeartbeats 4000000
/-! TS12: sources of loops and comprehensions by meanings. -/
namespace TS
open PySem L2 PySem.SeqAt
def srcK (k : IK) (ds : List D) : M (List D × List D × Hh) := fun h => match itemsOf k ds h with
  | some xs => .ok (ds, xs, h) h
  | none => .bad
def srcM (Phi : Nat → List D → M D) (k : IK) (its : List E) (r : Env) : M (List D × List D × Hh) := bnd (E.evs Phi its r) (srcK k)
def Yd (pr : Bool) (g : Gi) (W : Wd) (H : Hp) (d : D) (v : V) : Prop := match pr with
  | true => ∃ ds a vs, d = .tup ds ∧ v = .ref a ∧ H a = some (.tup vs) ∧ Rps g W H ds vs
  | false => Rp g W H d v
structure ItOk (g : Gi) (W : Wd) (h : Hh) (H : Hp) (pr : Bool) (ds xs : List D) (J : It) : Prop where
  go : ∀ i W' h' H', Ex W W' H H' → HR g W' h' H' → still ds h h' = true → i < xs.length → J.go i H'
  yl : ∀ i W' h' H' x H'' d, Ex W W' H H' → HR g W' h' H' → still ds h h' = true → xs[i]? = some d → J.yld i H' x H'' → Ex W' W' H' H'' ∧ HR g W' h' H'' ∧ Yd pr g W' H'' d x
  stop : ∀ W' h' H', Ex W W' H H' → HR g W' h' H' → still ds h h' = true → J.stop xs.length H'
def RelI (g : Gi) (pr : Bool) : Wd → Hp → (List D × List D × Hh) → It → Prop := fun W H a J => ItOk g W a.2.2 H pr a.1 a.2.1 J
def tI (g : Gi) (U : XK) (pr : Bool) (f : Env → M (List D × List D × Hh)) : TI := fun σ H R => ∃ W r h, HR g W h H ∧ ER g W H r σ ∧ Pst g U (RelI g pr) W H (f r h) R
def SI (X : Cx) (g : Gi) (U : XK) (pr : Bool) (tg e : Expr) (f : Env → M (List D × List D × Hh)) : Prop := PI X tg e (tI g U pr f)
theorem PI.to {X : Cx} {tg e : Expr} {t t' : TI} (h : PI X tg e t) (k : ∀ σ H R, t' σ H R → t σ H R) : PI X tg e t' := ⟨fun pins s σ H Q I w => h.run pins s σ H Q I (k σ H Q w)⟩
section
variable {X : Cx} {g : Gi} {U : XK} {Phi : Nat → List D → M D} {W : Wd} {h : Hh} {H : Hp} {tg : Expr}
theorem evs1 (a : E) (r : Env) {β : Type} (K : List D → M β) : bnd (E.evs Phi [a] r) K = bnd (a.ev Phi r) fun d => K [d] := by
  simp only [E.evs, bnd_assoc, ret_bnd]
theorem evs2 (a b : E) (r : Env) {β : Type} (K : List D → M β) : bnd (E.evs Phi [a, b] r) K = bnd (a.ev Phi r) fun d => bnd (b.ev Phi r) fun e => K [d, e] := by
  simp only [E.evs, bnd_assoc, ret_bnd]
theorem still1 {d : D} {h h' : Hh} (e : still [d] h h' = true) : top h' d = top h d := by
  cases d with
  | ref n =>
    simp only [still, List.all_cons, List.all_nil, Bool.and_true, decide_eq_true_eq] at e
    simp only [top, e]
  | _ => rfl
theorem still2 {d d2 : D} {h h' : Hh} (e : still [d, d2] h h' = true) : still [d] h h' = true ∧ still [d2] h h' = true := by
  unfold still at e ⊢
  simp only [List.all_cons, List.all_nil, Bool.and_true, Bool.and_eq_true] at e ⊢
  exact e
theorem SqL.inj {K : PySem.W.Frag} {H : Hp} {a : Addr} {xs ys : List V} (h : ∀ zs, SqL K H a zs → zs = ys) (hx : SqL K H a xs) : xs = ys := h xs hx
theorem sq_items (hK : g.K = X.K) (R : HR g W h H) {d : D} {x : V} {l : List D} (r : Rp g W H d x) (hl : seqOf h d = some l) : ∃ a, x = .ref a ∧
    (((∃ vs, SqL X.K H a vs) ∧ ∀ W' h' H', Ex W W' H H' → HR g W' h' H' → still [d] h h' = true → ∃ vs, SqL X.K H' a vs ∧ Rps g W' H' l vs) ∨
     ((∃ vs, SqT X.K H a vs) ∧ ∀ W' h' H', Ex W W' H H' → HR g W' h' H' → ∃ vs, SqT X.K H' a vs ∧ Rps g W' H' l vs)) := by
  rcases seq_kind (h := h) (d := d) (by rw [hl]; rfl) with ⟨m, rfl⟩ | ⟨m, hm⟩
  · cases hl
    obtain ⟨a, vs, rfl, hs, rl⟩ := tup_sq (X := X) hK r
    refine ⟨a, rfl, .inr ⟨⟨vs, hs⟩, fun W' h' H' e R' => ?_⟩⟩
    obtain ⟨a', vs', q, hs', rl'⟩ := tup_sq (X := X) hK (r.mono e)
    cases q
    exact ⟨vs', hs', rl'⟩
  · have e : m = l := by
      unfold seqOf at hl
      rw [hm] at hl
      exact Option.some.inj hl
    subst e
    obtain ⟨a, vs, rfl, hs, rl⟩ := top_lst (X := X) hK R r hm
    refine ⟨a, rfl, .inl ⟨⟨vs, hs⟩, fun W' h' H' e R' st => ?_⟩⟩
    obtain ⟨a', vs', q, hs', rl'⟩ := top_lst (X := X) hK R' (r.mono e) ((still1 st).trans hm)
    cases q
    exact ⟨vs', hs', rl'⟩
theorem rps_at {ds : List D} {vs : List V} {i : Nat} {d : D} {v : V} (r : Rps g W H ds vs) (e : ds[i]? = some d) (q : vs[i]? = some v) : Rp g W H d v := by
  obtain ⟨u, h1, h2⟩ := r.get e
  rw [q] at h1
  cases h1
  exact h2
theorem rps_has {ds : List D} {vs : List V} {i : Nat} (r : Rps g W H ds vs) (e : i < ds.length) : ∃ v, vs[i]? = some v := by
  have : i < vs.length := by rw [← r.length]; exact e
  exact ⟨vs[i], List.getElem?_eq_getElem this⟩
theorem io_seqL {d : D} {l : List D} {a : Addr} (k : ∀ W' h' H', Ex W W' H H' → HR g W' h' H' → still [d] h h' = true → ∃ vs, SqL X.K H' a vs ∧ Rps g W' H' l vs) : ItOk g W h H false [d] l (Itl X.K a) where
  go := fun i W' h' H' e R st hi => by
    obtain ⟨vs, hs, rl⟩ := k W' h' H' e R st
    obtain ⟨v, hv⟩ := rps_has rl hi
    exact ⟨vs, v, hs, hv⟩
  yl := fun i W' h' H' x H'' d e R st hd y => by
    obtain ⟨rfl, y⟩ := y
    obtain ⟨vs, hs, rl⟩ := k W' h' _ e R st
    exact ⟨Ex.refl _ _, R, rps_at rl hd (y vs hs)⟩
  stop := fun W' h' H' e R st => by
    obtain ⟨vs, hs, rl⟩ := k W' h' H' e R st
    exact ⟨vs, hs, Nat.le_of_eq rl.length.symm⟩
theorem io_seqT {d : D} {l : List D} {a : Addr} (k : ∀ W' h' H', Ex W W' H H' → HR g W' h' H' → ∃ vs, SqT X.K H' a vs ∧ Rps g W' H' l vs) : ItOk g W h H false [d] l (Itt X.K a) where
  go := fun i W' h' H' e R st hi => by
    obtain ⟨vs, hs, rl⟩ := k W' h' H' e R
    obtain ⟨v, hv⟩ := rps_has rl hi
    exact ⟨vs, v, hs, hv⟩
  yl := fun i W' h' H' x H'' d e R st hd y => by
    obtain ⟨rfl, y⟩ := y
    obtain ⟨vs, hs, rl⟩ := k W' h' _ e R
    exact ⟨Ex.refl _ _, R, rps_at rl hd (y vs hs)⟩
  stop := fun W' h' H' e R st => by
    obtain ⟨vs, hs, rl⟩ := k W' h' H' e R
    exact ⟨vs, hs, Nat.le_of_eq rl.length.symm⟩
theorem pair_new {d : D} {x : V} {T : Addr} {i : Int} {H : Hp} (R : HR g W h H) (hT : H T = none) {ds : List D} {vs : List V} (r : Rps g W H ds vs) :
    Ex W W H (upd H T (.tup vs)) ∧ HR g W h (upd H T (.tup vs)) ∧ Yd true g W (upd H T (.tup vs)) (.tup ds) (.ref T) :=
  ⟨ex_junk R hT, hr_junk R hT, ds, T, vs, rfl, rfl, upd_same, r.mono (ex_junk R hT)⟩
theorem enm_at {l : List D} {i : Nat} {d : D} (e : (l.zipIdx.map fun p => D.tup [.int (p.2 : Nat), p.1])[i]? = some d) : ∃ x, l[i]? = some x ∧ d = .tup [.int (i : Nat), x] := by
  rw [List.getElem?_map, List.getElem?_zipIdx] at e
  cases q : l[i]? with
  | none => rw [q] at e; cases e
  | some x =>
    rw [q] at e
    simp at e
    exact ⟨x, rfl, e.symm⟩
theorem zip_at : ∀ {l m : List D} {i : Nat} {d : D}, (List.zipWith (fun x y => D.tup [x, y]) l m)[i]? = some d → ∃ x y, l[i]? = some x ∧ m[i]? = some y ∧ d = .tup [x, y] := by
  intro l m i d e
  rw [List.getElem?_zipWith] at e
  cases q : l[i]? with
  | none => rw [q] at e; cases e
  | some x =>
    cases q2 : m[i]? with
    | none => rw [q, q2] at e; cases e
    | some y =>
      rw [q, q2] at e
      exact ⟨x, y, rfl, rfl, (Option.some.inj e).symm⟩
theorem io_enmL {d : D} {l : List D} {a : Addr} (k : ∀ W' h' H', Ex W W' H H' → HR g W' h' H' → still [d] h h' = true → ∃ vs, SqL X.K H' a vs ∧ Rps g W' H' l vs) : ItOk g W h H true [d] (l.zipIdx.map fun p => .tup [.int (p.2 : Nat), p.1]) (Ite X.K a) where
  go := fun i W' h' H' e R st hi => by
    obtain ⟨vs, hs, rl⟩ := k W' h' H' e R st
    obtain ⟨v, hv⟩ := rps_has rl (by simpa using hi)
    exact ⟨vs, v, hs, hv⟩
  yl := fun i W' h' H' x H'' d e R st hd y => by
    obtain ⟨T, x', rfl, hT, rfl, y⟩ := y
    obtain ⟨vs, hs, rl⟩ := k W' h' _ e R st
    obtain ⟨z, hz, rfl⟩ := enm_at hd
    exact pair_new (d := .non) (x := .non) (i := 0) R hT (.cons (.int _) (.cons (rps_at rl hz (y vs hs)) .nil))
  stop := fun W' h' H' e R st => by
    obtain ⟨vs, hs, rl⟩ := k W' h' H' e R st
    exact ⟨vs, hs, by rw [← rl.length]; simp⟩
theorem io_enmT {d : D} {l : List D} {a : Addr} (k : ∀ W' h' H', Ex W W' H H' → HR g W' h' H' → ∃ vs, SqT X.K H' a vs ∧ Rps g W' H' l vs) : ItOk g W h H true [d] (l.zipIdx.map fun p => .tup [.int (p.2 : Nat), p.1]) (IteT X.K a) where
  go := fun i W' h' H' e R st hi => by
    obtain ⟨vs, hs, rl⟩ := k W' h' H' e R
    obtain ⟨v, hv⟩ := rps_has rl (by simpa using hi)
    exact ⟨vs, v, hs, hv⟩
  yl := fun i W' h' H' x H'' d e R st hd y => by
    obtain ⟨T, x', rfl, hT, rfl, y⟩ := y
    obtain ⟨vs, hs, rl⟩ := k W' h' _ e R
    obtain ⟨z, hz, rfl⟩ := enm_at hd
    exact pair_new (d := .non) (x := .non) (i := 0) R hT (.cons (.int _) (.cons (rps_at rl hz (y vs hs)) .nil))
  stop := fun W' h' H' e R st => by
    obtain ⟨vs, hs, rl⟩ := k W' h' H' e R
    exact ⟨vs, hs, by rw [← rl.length]; simp⟩
theorem zip_lt {l m : List D} {i : Nat} (hi : i < (List.zipWith (fun x y => D.tup [x, y]) l m).length) : i < l.length ∧ i < m.length := by
  rw [List.length_zipWith] at hi
  omega
theorem io_zipL {d d2 : D} {l m : List D} {a b : Addr} (k : ∀ W' h' H', Ex W W' H H' → HR g W' h' H' → still [d] h h' = true → ∃ vs, SqL X.K H' a vs ∧ Rps g W' H' l vs)
    (k2 : ∀ W' h' H', Ex W W' H H' → HR g W' h' H' → still [d2] h h' = true → ∃ vs, SqL X.K H' b vs ∧ Rps g W' H' m vs) : ItOk g W h H true [d, d2] (List.zipWith (fun x y => .tup [x, y]) l m) (Itz X.K a b) where
  go := fun i W' h' H' e R st hi => by
    obtain ⟨vs, hs, rl⟩ := k W' h' H' e R (still2 st).1
    obtain ⟨vs2, hs2, rl2⟩ := k2 W' h' H' e R (still2 st).2
    obtain ⟨v, hv⟩ := rps_has rl (zip_lt hi).1
    obtain ⟨v2, hv2⟩ := rps_has rl2 (zip_lt hi).2
    exact ⟨vs, vs2, v, v2, hs, hs2, hv, hv2⟩
  yl := fun i W' h' H' x H'' d e R st hd y => by
    obtain ⟨T, x', y', rfl, hT, rfl, y, y2⟩ := y
    obtain ⟨vs, hs, rl⟩ := k W' h' _ e R (still2 st).1
    obtain ⟨vs2, hs2, rl2⟩ := k2 W' h' _ e R (still2 st).2
    obtain ⟨z, z2, hz, hz2, rfl⟩ := zip_at hd
    exact pair_new (d := .non) (x := .non) (i := 0) R hT (.cons (rps_at rl hz (y vs hs)) (.cons (rps_at rl2 hz2 (y2 vs2 hs2)) .nil))
  stop := fun W' h' H' e R st => by
    obtain ⟨vs, hs, rl⟩ := k W' h' H' e R (still2 st).1
    obtain ⟨vs2, hs2, rl2⟩ := k2 W' h' H' e R (still2 st).2
    refine ⟨vs, vs2, hs, hs2, ?_⟩
    rw [List.length_zipWith, ← rl.length, ← rl2.length]
    omega
theorem io_zipT {d d2 : D} {l m : List D} {a b : Addr} (k : ∀ W' h' H', Ex W W' H H' → HR g W' h' H' → ∃ vs, SqT X.K H' a vs ∧ Rps g W' H' l vs)
    (k2 : ∀ W' h' H', Ex W W' H H' → HR g W' h' H' → ∃ vs, SqT X.K H' b vs ∧ Rps g W' H' m vs) : ItOk g W h H true [d, d2] (List.zipWith (fun x y => .tup [x, y]) l m) (RZ.ItzT X.K a b) where
  go := fun i W' h' H' e R st hi => by
    obtain ⟨vs, hs, rl⟩ := k W' h' H' e R
    obtain ⟨vs2, hs2, rl2⟩ := k2 W' h' H' e R
    obtain ⟨v, hv⟩ := rps_has rl (zip_lt hi).1
    obtain ⟨v2, hv2⟩ := rps_has rl2 (zip_lt hi).2
    exact ⟨vs, vs2, v, v2, hs, hs2, hv, hv2⟩
  yl := fun i W' h' H' x H'' d e R st hd y => by
    obtain ⟨T, x', y', rfl, hT, rfl, y, y2⟩ := y
    obtain ⟨vs, hs, rl⟩ := k W' h' _ e R
    obtain ⟨vs2, hs2, rl2⟩ := k2 W' h' _ e R
    obtain ⟨z, z2, hz, hz2, rfl⟩ := zip_at hd
    exact pair_new (d := .non) (x := .non) (i := 0) R hT (.cons (rps_at rl hz (y vs hs)) (.cons (rps_at rl2 hz2 (y2 vs2 hs2)) .nil))
  stop := fun W' h' H' e R st => by
    obtain ⟨vs, hs, rl⟩ := k W' h' H' e R
    obtain ⟨vs2, hs2, rl2⟩ := k2 W' h' H' e R
    refine ⟨vs, vs2, hs, hs2, ?_⟩
    rw [List.length_zipWith, ← rl.length, ← rl2.length]
    omega
theorem io_str {z : Str} {ds : List D} : ItOk g W h H false ds (z.cps.toList.map fun c => .str (strL [c])) (Its z) where
  go := fun i W' h' H' e R st hi => by
    show i < z.cps.size
    simpa using hi
  yl := fun i W' h' H' x H'' d e R st hd y => by
    obtain ⟨rfl, c, hc, rfl⟩ := y
    refine ⟨Ex.refl _ _, R, ?_⟩
    rw [List.getElem?_map] at hd
    have : z.cps.toList[i]? = some c := by simpa using hc
    rw [this] at hd
    cases hd
    exact .str _
  stop := fun W' h' H' e R st => by
    show z.cps.size ≤ _
    simp
theorem io_rng {lo : Int} {n : Nat} {ds : List D} : ItOk g W h H false ds ((List.range n).map fun (i : Nat) => .int (lo + i)) (Itr lo n) where
  go := fun i W' h' H' e R st hi => by
    show i < n
    simpa using hi
  yl := fun i W' h' H' x H'' d e R st hd y => by
    obtain ⟨rfl, rfl⟩ := y
    refine ⟨Ex.refl _ _, R, ?_⟩
    rw [List.getElem?_map] at hd
    by_cases hi : i < n
    · rw [List.getElem?_range hi] at hd
      cases hd
      exact .int _
    · rw [List.getElem?_eq_none (by simp; omega)] at hd
      cases hd
  stop := fun W' h' H' e R st => by
    show n ≤ _
    simp
theorem srcM1 (k : IK) (a : E) (r : Env) : srcM Phi k [a] r = bnd (a.ev Phi r) fun d => srcK k [d] := evs1 a r _
theorem si_seq {e : Expr} {a : E} (hK : g.K = X.K) (he : SE X g U e (a.ev Phi)) : SI X g U false tg e (srcM Phi .seq [a]) :=
  PI.to (pi_seq he) fun σ H Q ⟨W, r, h, R, Er, p⟩ => by
    rw [srcM1] at p
    refine ⟨W, r, h, R, Er, Pst.bnd p fun d h1 W1 x H1 e1 x1 R1 r1 p1 => ?_⟩
    unfold srcK at p1
    split at p1
    · rename_i xs hx
      by_cases hd : ∃ z, d = .str z
      · obtain ⟨z, rfl⟩ := hd
        cases r1
        cases hx
        exact .inr (.inr ⟨z, rfl, p1 W1 _ H1 (Ex.refl _ _) R1 io_str⟩)
      · have hx' : seqOf h1 d = some xs := by
          cases d with
          | str z => exact absurd ⟨z, rfl⟩ hd
          | _ => exact hx
        obtain ⟨a, rfl, ⟨⟨vs, hs⟩, k⟩ | ⟨⟨vs, hs⟩, k⟩⟩ := sq_items (X := X) hK R1 r1 hx'
        · exact .inl ⟨a, vs, rfl, hs, p1 W1 _ H1 (Ex.refl _ _) R1 (io_seqL k)⟩
        · exact .inr (.inl ⟨a, vs, rfl, hs, p1 W1 _ H1 (Ex.refl _ _) R1 (io_seqT k)⟩)
    · exact p1.elim
theorem si_rng1 {e : Expr} {a : E} {p pos : Pos} (ha : SA X g U [e] (E.evs Phi [a])) (hg : Gl X "range") (hm : X.mg "range" = none) (hs : starEach [e] X.env = [(false, eval e X.env)]) : SI X g U false tg (.Call (.Name "range" p) [e] [] pos) (srcM Phi .rng1 [a]) :=
  PI.to (pi_range1 hg hm ha hs) fun σ H Q ⟨W, r, h, R, Er, p⟩ => by
    refine ⟨W, r, h, R, Er, Pst.bnd p fun ds h1 W1 vs H1 e1 x1 R1 r1 p1 => ?_⟩
    unfold srcK at p1
    split at p1
    · rename_i xs hx
      replace hx : itR1 ds = some xs := hx
      unfold itR1 at hx
      split at hx
      case h_2 => cases hx
      rename_i n
      split at hx
      case isFalse => cases hx
      rename_i hn
      cases hx
      cases r1 with
      | cons r1 rr =>
        cases rr
        cases r1
        refine ⟨n, rfl, by omega, by omega, p1 W1 _ H1 (Ex.refl _ _) R1 ?_⟩
        have := io_rng (g := g) (W := W1) (h := h1) (H := H1) (lo := 0) (n := n.toNat) (ds := [.int n])
        simpa [RelI] using this
    · exact p1.elim
theorem si_rng2 {e e2 : Expr} {a b : E} {p pos : Pos} (ha : SA X g U [e, e2] (E.evs Phi [a, b])) (hg : Gl X "range") (hm : X.mg "range" = none) (hs : starEach [e, e2] X.env = [(false, eval e X.env), (false, eval e2 X.env)]) (hs2 : starEach [e2] X.env = [(false, eval e2 X.env)]) :
    SI X g U false tg (.Call (.Name "range" p) [e, e2] [] pos) (srcM Phi .rng2 [a, b]) :=
  PI.to (pi_range2 hg hm ha hs hs2) fun σ H Q ⟨W, r, h, R, Er, p⟩ => by
    refine ⟨W, r, h, R, Er, Pst.bnd p fun ds h1 W1 vs H1 e1 x1 R1 r1 p1 => ?_⟩
    unfold srcK at p1
    split at p1
    · rename_i xs hx
      replace hx : itR2 ds = some xs := hx
      unfold itR2 at hx
      split at hx
      case h_2 => cases hx
      rename_i m n
      split at hx
      case isFalse => cases hx
      rename_i hn
      cases hx
      cases r1 with
      | cons r1 rr =>
        cases rr with
        | cons r2 rr =>
          cases rr
          cases r1
          cases r2
          exact ⟨m, n, rfl, ⟨by omega, by omega, by omega, by omega⟩, p1 W1 _ H1 (Ex.refl _ _) R1 io_rng⟩
    · exact p1.elim
theorem si_enm {e : Expr} {a : E} {p pos tpos : Pos} {elts : List Expr} {kk : Nat} (hK : g.K = X.K) (ha : SA X g U [e] (E.evs Phi [a])) (hg : Gl X "enumerate") (hm : X.mg "enumerate" = none) (hs : starEach [e] X.env = [(false, eval e X.env)]) :
    SI X g U true (.Tuple elts kk tpos) (.Call (.Name "enumerate" p) [e] [] pos) (srcM Phi .enm [a]) :=
  PI.to (pi_enumA hg hm ha hs) fun σ H Q ⟨W, r, h, R, Er, p⟩ => by
    refine ⟨W, r, h, R, Er, Pst.bnd p fun ds h1 W1 vs H1 e1 x1 R1 r1 p1 => ?_⟩
    unfold srcK at p1
    split at p1
    · rename_i xs hx
      replace hx : itE ds h1 = some xs := hx
      unfold itE at hx
      split at hx
      case h_2 => cases hx
      rename_i d
      obtain ⟨l, hl, rfl⟩ := Option.map_eq_some_iff.mp hx
      cases r1 with
      | cons r1 rr =>
        cases rr
        obtain ⟨a, rfl, ⟨⟨vs, hs⟩, k⟩ | ⟨⟨vs, hs⟩, k⟩⟩ := sq_items (X := X) hK R1 r1 hl
        · exact ⟨a, vs, rfl, .inl ⟨hs, p1 W1 _ H1 (Ex.refl _ _) R1 (io_enmL k)⟩⟩
        · exact ⟨a, vs, rfl, .inr ⟨hs, p1 W1 _ H1 (Ex.refl _ _) R1 (io_enmT k)⟩⟩
    · exact p1.elim
theorem lst_items (hK : g.K = X.K) (R : HR g W h H) {d : D} {x : V} {l : List D} (r : Rp g W H d x) (hm : top h d = .lst l) : ∃ a, x = .ref a ∧
    (∃ vs, SqL X.K H a vs) ∧ ∀ W' h' H', Ex W W' H H' → HR g W' h' H' → still [d] h h' = true → ∃ vs, SqL X.K H' a vs ∧ Rps g W' H' l vs := by
  obtain ⟨a, vs, rfl, hs, rl⟩ := top_lst (X := X) hK R r hm
  refine ⟨a, rfl, ⟨vs, hs⟩, fun W' h' H' e R' st => ?_⟩
  obtain ⟨a', vs', q, hs', rl'⟩ := top_lst (X := X) hK R' (r.mono e) ((still1 st).trans hm)
  cases q
  exact ⟨vs', hs', rl'⟩
theorem tup_items (hK : g.K = X.K) {d : D} {x : V} {l : List D} (r : Rp g W H d x) (hm : top h d = .tup l) : ∃ a, x = .ref a ∧
    (∃ vs, SqT X.K H a vs) ∧ ∀ W' (h' : Hh) H', Ex W W' H H' → HR g W' h' H' → ∃ vs, SqT X.K H' a vs ∧ Rps g W' H' l vs := by
  have e : d = .tup l := by
    cases d with
    | ref n =>
      simp only [top] at hm
      split at hm <;> cases hm
    | tup m => exact hm
    | _ => cases hm
  subst e
  obtain ⟨a, vs, rfl, hs, rl⟩ := tup_sq (X := X) hK r
  refine ⟨a, rfl, ⟨vs, hs⟩, fun W' h' H' e R' => ?_⟩
  obtain ⟨a', vs', q, hs', rl'⟩ := tup_sq (X := X) hK (r.mono e)
  cases q
  exact ⟨vs', hs', rl'⟩
theorem si_zip {e e2 : Expr} {a b : E} {p pos tpos : Pos} {elts : List Expr} {kk : Nat} (hK : g.K = X.K) (ha : SA X g U [e, e2] (E.evs Phi [a, b])) (hg : Gl X "zip") (hm : X.mg "zip" = none)
    (hs : starEach [e, e2] X.env = (false, eval e X.env) :: starEach [e2] X.env) (hpl : (backTo pos (starEach [e2] X.env)).any (·.1) = false) :
    SI X g U true (.Tuple elts kk tpos) (.Call (.Name "zip" p) [e, e2] [] pos) (srcM Phi .zip [a, b]) :=
  PI.to (RZ.pi_zipA hg hm ha hs hpl) fun σ H Q ⟨W, r, h, R, Er, p⟩ => by
    refine ⟨W, r, h, R, Er, Pst.bnd p fun ds h1 W1 vs H1 e1 x1 R1 r1 p1 => ?_⟩
    unfold srcK at p1
    split at p1
    · rename_i xs hx
      replace hx : itZ ds h1 = some xs := hx
      unfold itZ at hx
      split at hx
      case h_2 => cases hx
      rename_i d d2
      cases r1 with
      | cons r1 rr =>
        cases rr with
        | cons r2 rr =>
          cases rr
          split at hx
          · rename_i l m e1 e2
            cases hx
            obtain ⟨a, rfl, ⟨vs, hs⟩, k⟩ := lst_items (X := X) hK R1 r1 e1
            obtain ⟨b, rfl, ⟨vs2, hs2⟩, k2⟩ := lst_items (X := X) hK R1 r2 e2
            exact ⟨a, b, vs, vs2, rfl, .inl ⟨hs, hs2, p1 W1 _ H1 (Ex.refl _ _) R1 (io_zipL k k2)⟩⟩
          · rename_i l m e1 e2
            cases hx
            obtain ⟨a, rfl, ⟨vs, hs⟩, k⟩ := tup_items (X := X) hK r1 e1
            obtain ⟨b, rfl, ⟨vs2, hs2⟩, k2⟩ := tup_items (X := X) hK r2 e2
            exact ⟨a, b, vs, vs2, rfl, .inr ⟨hs, hs2, p1 W1 _ H1 (Ex.refl _ _) R1 (io_zipT k k2)⟩⟩
          · cases hx
    · exact p1.elim
end
end TS

set_option Elab.async false
set_option linter.all false
set_option maxRecDepth 100000
set_option maxHeartbeats 4000000
/-! TS13: targets, comprehensions. -/
namespace TS
open PySem L2 PySem.SeqAt
def UF : XK := fun _ _ _ => False
/-! ### targets -/
def tgIn : Tg → List Nat → Bool
  | .one i, own => decide (i ∈ own)
  | .many l, own => l.all fun i => decide (i ∈ own)
def tG (g : Gi) (pr : Bool) (t : Tg) : TG := fun v σ H Q => ∃ W r d, ER g W H r σ ∧ Yd pr g W H d v ∧ ∃ r1, bindTg t d r = some r1 ∧ ∀ σ', ER g W H r1 σ' → (∀ own, tgIn t own = true → L2.wipe σ' own = L2.wipe σ own) → Q σ' H
theorem PG.to {X : Cx} {e : Expr} {t t' : TG} (h : PG X e t) (k : ∀ v σ H Q, t' v σ H Q → t v σ H Q) : PG X e t' := ⟨fun pins s σ H v u Q I r w => h.run pins s σ H v u Q I r (k v σ H Q w)⟩
theorem PGs.to {X : Cx} {e : List Expr} {t t' : TGs} (h : PGs X e t) (k : ∀ v σ H Q, t' v σ H Q → t v σ H Q) : PGs X e t' := ⟨fun pins s σ H v u Q I r w => h.run pins s σ H v u Q I r (k v σ H Q w)⟩
theorem wipe_set (σ : L2.St) (i : Nat) (x : Option V) : ∀ own : List Nat, i ∈ own → L2.wipe (σ.set i x) own = L2.wipe σ own
  | [], h => by simp at h
  | v :: vs, h => by
    unfold L2.wipe
    by_cases hi : i ∈ vs
    · rw [wipe_set σ i x vs hi]
    · have e : i = v := by
        rcases List.mem_cons.mp h with q | q
        · exact q
        · exact absurd q hi
      subst e
      have key : ∀ us : List Nat, i ∉ us → L2.wipe (σ.set i x) us = (L2.wipe σ us).set i x := by
        intro us
        induction us with
        | nil => intro _; rfl
        | cons u us ih =>
          intro hu
          unfold L2.wipe
          rw [ih fun z => hu (List.mem_cons_of_mem _ z), List.set_comm _ _ (fun z => hu (by rw [z]; exact List.mem_cons_self))]
      rw [key vs hi, List.set_set]
theorem wipe_idem (σ : L2.St) (vs : List Nat) : L2.wipe (L2.wipe σ vs) vs = L2.wipe σ vs := by
  have key : ∀ (us : List Nat) (i : Nat), i ∈ us → (L2.wipe σ us).set i none = L2.wipe σ us := by
    intro us
    induction us with
    | nil => intro i hi; simp at hi
    | cons u us ih =>
      intro i hi
      unfold L2.wipe
      by_cases e : u = i
      · subst e; rw [List.set_set]
      · rw [List.set_comm _ _ e, ih i (by
          rcases List.mem_cons.mp hi with q | q
          · exact absurd q.symm e
          · exact q)]
  have gen : ∀ (us : List Nat), (∀ i ∈ us, i ∈ vs) → L2.wipe (L2.wipe σ vs) us = L2.wipe σ vs := by
    intro us
    induction us with
    | nil => intro _; rfl
    | cons u us ih =>
      intro hu
      show (L2.wipe (L2.wipe σ vs) us).set u none = L2.wipe σ vs
      rw [ih fun i hi => hu i (List.mem_cons_of_mem _ hi)]
      exact key vs u (hu u List.mem_cons_self)
  exact gen vs fun _ h => h
section
variable {X : Cx} {g : Gi} {U : XK} {Phi : Nat → List D → M D} {W : Wd} {h : Hh} {H : Hp}
theorem sg_one {i : Nat} {x : Str} {pos : Pos} (hN : X.N.Nodup) (hi : X.N[i]? = some x) (hx : Loc X.env.scope x) (hf : X.fn x = true ∨ X.env.scope.names.lookup x = some .local) : PG X (.Name x pos) (tG g false (.one i)) :=
  PG.to (pg_name hN hi hx hf) fun v σ H Q ⟨W, r, d, Er, y, r1, e, k⟩ => by
    cases e
    exact k _ (Er.set i y) fun own ho => wipe_set σ i _ own (by simpa [tgIn] using ho)
def tGs (g : Gi) (l : List Nat) : TGs := fun vs σ H Q => ∃ W r ds, ER g W H r σ ∧ Rps g W H ds vs ∧ ∃ r1, setAll l ds r = some r1 ∧ ∀ σ', ER g W H r1 σ' → (∀ own : List Nat, (l.all fun i => decide (i ∈ own)) = true → L2.wipe σ' own = L2.wipe σ own) → Q σ' H
theorem sgs_nil : PGs X [] (tGs g []) := PGs.to pgs_nil fun vs σ H Q ⟨W, r, ds, Er, rs, r1, e, k⟩ => by
  cases rs with
  | nil =>
    cases e
    exact ⟨rfl, k σ Er fun _ _ => rfl⟩
  | cons _ _ => cases e
theorem sgs_cons {i : Nat} {l : List Nat} {e : Expr} {es : List Expr} (h1 : PG X e (tG g false (.one i))) (h2 : PGs X es (tGs g l)) (hs : (assignEach (e :: es) X.env).map (·.2) = assign e X.env :: (assignEach es X.env).map (·.2)) : PGs X (e :: es) (tGs g (i :: l)) :=
  PGs.to (pgs_cons h1 h2 hs) fun vs σ H Q ⟨W, r, ds, Er, rs, r1, e, k⟩ => by
    cases rs with
    | nil => cases e
    | @cons d v ds vs rd rs =>
      refine ⟨v, vs, rfl, W, r, d, Er, rd, _, rfl, fun σ' Er' ww => ?_⟩
      refine ⟨W, _, ds, Er', rs, r1, e, fun σ'' Er'' ww' => k σ'' Er'' fun own ho => ?_⟩
      simp only [List.all_cons, Bool.and_eq_true] at ho
      rw [ww' own ho.2, ww own (by simpa [tgIn] using ho.1)]
theorem sg_many {es : List Expr} {l : List Nat} {k : Nat} {pos : Pos} {pr : Bool} (hK : g.K = X.K) (hc : X.calm = true) (hh : PGs X es (tGs g l)) (hn : (assignEach es X.env).length = l.length) (hst : (assignEach es X.env).findIdx? (·.1) = none) :
    PG X (.Tuple es k pos) (tG g pr (.many l)) :=
  PG.to (pg_tup hc hh hn hst) fun v σ H Q ⟨W, r, d, Er, y, r1, e, k⟩ => by
    have len : ∀ {l : List Nat} {ds : List D} {r r1 : Env}, setAll l ds r = some r1 → ds.length = l.length := by
      intro l
      induction l with
      | nil => intro ds r r1 e; cases ds with
        | nil => rfl
        | cons _ _ => cases e
      | cons i l ih => intro ds r r1 e; cases ds with
        | nil => cases e
        | cons _ _ => simp only [List.length_cons]; rw [ih e]
    have go : ∀ {ds : List D} {vs : List V} {a : Addr}, d = .tup ds → SqT X.K H a vs → v = .ref a → Rps g W H ds vs → gTup X.K l.length (tGs g l) v σ H Q := fun {ds vs a} e1 hs e2 rs => by
      subst e1 e2
      replace e : setAll l ds r = some r1 := e
      exact ⟨a, vs, rfl, hs, by rw [← rs.length]; exact len e, W, r, ds, Er, rs, r1, e, k⟩
    cases pr with
    | true =>
      obtain ⟨ds, a, vs, rfl, rfl, hs, rs⟩ := y
      exact go rfl (.inl (.inl hs)) rfl rs
    | false =>
      replace y : Rp g W H d v := y
      cases d with
      | tup ds =>
        obtain ⟨a, vs, rfl, hs, rs⟩ := tup_sq (X := X) hK y
        exact go rfl hs rfl rs
      | _ => cases e
/-! ### a clause's test -/
def tTs (g : Gi) (U : XK) (f : Env → M Bool) : TT := fun σ H Q => ∃ W r h, HR g W h H ∧ ER g W H r σ ∧ Pst g U (fun _ _ a b => a = b) W H (f r h) Q
theorem PTs.to {X : Cx} {e : List Expr} {t t' : TT} (h : PTs X e t) (k : ∀ σ H Q, t' σ H Q → t σ H Q) : PTs X e t' := ⟨fun pins s σ H Q I w => h.run pins s σ H Q I (k σ H Q w)⟩
theorem sts_nil : PTs X [] (tTs g U (E.conds Phi [])) := PTs.to pts_nil fun σ H Q ⟨W, r, h, R, Er, p⟩ => by
  rw [E.conds] at p
  exact p W true H (Ex.refl _ _) R rfl
theorem sts_one {c : Expr} {a : E} (hc : ST X g U c (a.ev Phi)) : PTs X [c] (tTs g U (E.conds Phi [a])) := PTs.to (pts_one hc) fun σ H Q ⟨W, r, h, R, Er, p⟩ => by
  rw [E.conds] at p
  refine ⟨W, r, h, R, Er, Pst.bnd (Rel := RelB) p fun d h1 W1 b H1 e1 x1 R1 e2 p1 => ?_, fun d h' e => ?_⟩
  · cases e2
    exact p1 W1 _ H1 (Ex.refl _ _) R1 rfl
  · unfold TS.bnd at p
    rw [e] at p
    cases d with
    | bl b => exact ⟨b, rfl⟩
    | _ => exact p.elim
/-! ### beside the cells -/
theorem ew_off {D : Addr} {o : HO} (hD : ¬ W.fz D) : Ew W W H (upd H D o) := ⟨⟨[], by simp⟩, fun _ z => z, fun a z => upd_ne fun e => hD (e ▸ z)⟩
theorem hr_off (R : HR g W h H) {D : Addr} {o : HO} (hD : ¬ W.fz D) (hp : D ∉ W.ph) : HR g W h (upd H D o) := by
  refine ⟨R.len, R.nd, fun a z => ?_, R.dis, fun n a c e q => ?_⟩
  · rw [upd_ne (fun e => hD (by rw [← e]; exact z) : a ≠ D)]; exact R.fzs a z
  · exact (R.cell n a c e q).monoW (ew_off hD) (upd_ne fun z => hp (by rw [← z]; exact List.mem_of_getElem? e))
theorem ex_off {W' : Wd} {H' : Hp} (e : Ex W W' H H') (R : HR g W h H) {D : Addr} {o : HO} (hD : H D = none) : Ex W W' H (upd H' D o) := by
  refine ⟨⟨e.ph, e.fz, fun a z => ?_⟩, e.fresh, fun a z k => ?_, e.nfz⟩
  · rw [upd_ne (isSome_ne (R.fzs a z) hD)]; exact e.keep a z
  · rw [upd_ne (isSome_ne z hD)]; exact e.old a z k
/-- a list that stands beside becomes a cell -/
theorem hr_adopt (R : HR g W h H) {p : Addr} {l : List D} {vs : List V} (hp : H p = some (.lst vs)) (hf : ¬ W.fz p) (hm : p ∉ W.ph) (r : Rps g W H l vs) : HR g ⟨W.ph ++ [p], W.fz⟩ (h ++ [.lst l]) H := by
  have ew : Ew W ⟨W.ph ++ [p], W.fz⟩ H H := ⟨⟨[p], rfl⟩, fun _ z => z, fun _ _ => rfl⟩
  have key : ∀ (n : Nat) a c', (W.ph ++ [p])[n]? = some a → (h ++ [Cell.lst l])[n]? = some c' → (W.ph[n]? = some a ∧ h[n]? = some c') ∨ (a = p ∧ c' = .lst l) := fun n a c' e q => by
    by_cases hn : n < h.length
    · left
      rw [List.getElem?_append_left (by rw [R.len]; exact hn)] at e
      rw [List.getElem?_append_left hn] at q
      exact ⟨e, q⟩
    · right
      rw [List.getElem?_append_right (by rw [R.len]; omega)] at e
      rw [List.getElem?_append_right (by omega)] at q
      have e1 : n - W.ph.length = 0 := by
        cases k : n - W.ph.length with
        | zero => rfl
        | succ m => rw [k] at e; simp at e
      have e2 : n - h.length = 0 := by rw [← R.len]; exact e1
      rw [e1] at e
      rw [e2] at q
      simp at e q
      exact ⟨e.symm, q.symm⟩
  refine ⟨by simp [R.len], List.nodup_append.mpr ⟨R.nd, by simp, fun a ha b hb e => ?_⟩, R.fzs, fun n a c' e q k z => ?_, fun n a c' e q => ?_⟩
  · simp at hb
    subst hb
    subst e
    exact hm ha
  · rcases key n a c' e q with ⟨e, q⟩ | ⟨rfl, rfl⟩
    · exact R.dis n a c' e q k z
    · exact hf z
  · rcases key n a c' e q with ⟨e, q⟩ | ⟨rfl, rfl⟩
    · exact (R.cell n a c' e q).monoW ew rfl
    · exact ⟨vs, hp, r.monoW ew⟩
/-! ### comprehensions -/
theorem ne_step {α β δ ε : Type} {Rel : Wd → Hp → δ → ε → Prop} {ζ : Type} {Rel' : Wd → Hp → α → ζ → Prop} {W1 Wi : Wd} {H1 Hi : Hp} {m : M α} {f : α → M β} {K : β → M δ} {Q : ε → Hp → Prop} {Q1 : ζ → Hp → Prop} {h : Hh}
    (p : Pst g U Rel W1 H1 (bnd (noexc (bnd m f)) K h) Q) (k : ∀ b h2, m h = .ok b h2 → Pst g U Rel W1 H1 (bnd (noexc (f b)) K h2) Q → Pst g UF Rel' Wi Hi (.ok b h2) Q1) : Pst g UF Rel' Wi Hi (m h) Q1 := by
  have e0 : bnd (noexc (bnd m f)) K h = (match m h with
      | .ok a h' => bnd (noexc (f a)) K h'
      | _ => .bad) := by
    simp only [bnd, noexc]
    cases m h <;> rfl
  rw [e0] at p
  cases e : m h with
  | ok a h' =>
    rw [e] at p
    exact k a h' e p
  | exc x h' => rw [e] at p; exact p.elim
  | bad => rw [e] at p; exact p.elim
theorem ne_fit {W1 : Wd} {H1 : Hp} {m : M (List D)} {acc : List D} {mm : Bool} {Q : VK} {h : Hh} (p : Pst g U (Rp g) W1 H1 (bnd (noexc m) (fun rest => mkL mm (acc ++ rest)) h) Q) : acc.length ≤ 100000 := by
  simp only [bnd, noexc] at p
  cases e : m h with
  | ok a h' =>
    rw [e] at p
    replace p : Pst g U (Rp g) W1 H1 (mkL mm (acc ++ a) h') Q := p
    unfold mkL at p
    split at p
    · rename_i hl
      rw [List.length_append] at hl
      omega
    · exact p.elim
  | exc x h' => rw [e] at p; exact p.elim
  | bad => rw [e] at p; exact p.elim
theorem rd_comp {own : List (Str × Nat)} {pr : Bool} {m : Bool} {ea : E} {t : Tg} {k : IK} {its cond : List E} (ht : tgIn t (own.map (·.2)) = true) :
    ∀ σ H Q, tE g U ((E.comp m ea t k its cond (own.map (·.2))).ev Phi) σ H Q → tLc (tI g U pr (srcM Phi k its)) (tG g pr t) (tTs g UF (E.conds Phi cond)) (tE g UF (ea.ev Phi)) (own.map (·.2)) σ H Q :=
  fun σ H Q ⟨W, r, h, R, Er, p⟩ => by
    have e0 : (E.comp m ea t k its cond (own.map (·.2))).ev Phi r = bnd (srcM Phi k its r) fun a => bnd (noexc (compL (fun d => bindTg t d (wipeE r (own.map (·.2)))) (E.conds Phi cond) (E.ev Phi ea) (still a.1 a.2.2) a.2.1)) (mkL m) := by
      rw [E.ev, srcM, bnd_assoc]
      congr 1
      funext ds h
      simp only [srcK, bnd]
      cases itemsOf k ds h <;> rfl
    rw [e0] at p
    refine ⟨W, r, h, R, Er, Pst.bnd p fun a h1 W1 J H1 e1 x1 R1 io p1 => ?_⟩
    obtain ⟨ds, xs, h0⟩ := a
    have eh : h0 = h1 := by
      unfold srcM at e1
      simp only [bnd, srcK] at e1
      cases q : E.evs Phi its r h with
      | ok a hx =>
        rw [q] at e1
        simp only at e1
        cases q2 : itemsOf k a hx with
        | none => rw [q2] at e1; cases e1
        | some ys => rw [q2] at e1; cases e1; rfl
      | exc _ _ => rw [q] at e1; cases e1
      | bad => rw [q] at e1; cases e1
    subst eh
    replace io : ItOk g W1 h0 H1 pr ds xs J := io
    have Er1 := Er.mono x1
    intro Dd hD
    let vs := own.map (·.2)
    let bd := fun d => bindTg t d (wipeE r vs)
    let St : Nat → Hp → Prop := fun i H' => ∃ Wi hi accD acc, Ex W1 Wi H1 H' ∧ HR g Wi hi H' ∧ H' Dd = some (.lst acc) ∧ Rps g Wi H' accD acc ∧ ¬ Wi.fz Dd ∧ Dd ∉ Wi.ph ∧
      Pst g U (Rp g) W1 H1 (bnd (noexc (compL bd (E.conds Phi cond) (E.ev Phi ea) (still ds h0) (xs.drop i))) (fun rest => mkL m (accD ++ rest)) hi) Q
    refine ⟨fun i n H' => n = xs.length - i ∧ i ≤ xs.length ∧ St i H', ⟨xs.length, by simp, Nat.zero_le _, ?_⟩, ?_⟩
    · have f0 : ¬ W1.fz Dd := fun z => by
        have := R1.fzs Dd z
        rw [hD] at this; cases this
      have p0 : Dd ∉ W1.ph := fun z => by
        have := R1.in_some z
        rw [hD] at this; cases this
      exact ⟨W1, h0, [], [], ex_junk R1 hD, hr_junk R1 hD, upd_same, .nil, f0, p0, p1⟩
    · rintro i n H' ⟨rfl, hle, Wi, hi, accD, acc, ei, Ri, hDi, ra, nf, np, pi⟩
      by_cases hlt : i < xs.length
      · right
        have hx : xs[i]? = some xs[i] := List.getElem?_eq_getElem hlt
        have hdrop : xs.drop i = xs[i] :: xs.drop (i + 1) := List.drop_eq_getElem_cons hlt
        rw [hdrop] at pi
        have hok : still ds h0 hi = true := by
          cases q : still ds h0 hi with
          | true => rfl
          | false =>
            exfalso
            simp only [bnd, noexc, compL, q] at pi
            exact pi
        obtain ⟨r1, hr1⟩ : ∃ r1, bd xs[i] = some r1 := by
          cases q : bd xs[i] with
          | some r1 => exact ⟨r1, rfl⟩
          | none =>
            exfalso
            simp only [bnd, noexc, compL, q, hok] at pi
            exact pi
        have pi2 : Pst g U (Rp g) W1 H1 (bnd (noexc (bnd (E.conds Phi cond r1) fun b => if b = true then bnd (E.ev Phi ea r1) (fun d => bnd (compL bd (E.conds Phi cond) (E.ev Phi ea) (still ds h0) (xs.drop (i + 1))) fun ds => ret (d :: ds)) else compL bd (E.conds Phi cond) (E.ev Phi ea) (still ds h0) (xs.drop (i + 1)))) (fun rest => mkL m (accD ++ rest)) hi) Q := by
          simp only [bnd, noexc, compL, hok, hr1, if_true] at pi ⊢
          exact pi
        refine ⟨io.go i Wi hi H' ei Ri hok hlt, St (i + 1), fun H'' s => ⟨xs.length - (i + 1), by omega, rfl, hlt, s⟩, fun x H'' y => ?_⟩
        obtain ⟨ex2, R2, yd⟩ := io.yl i Wi hi H' x H'' _ ei Ri hok hx y
        have hD2 : H'' Dd = some (.lst acc) := (ex2.old Dd (by rw [hDi]; rfl) np).trans hDi
        refine ⟨Wi, wipeE r vs, xs[i], ((Er1.mono ei).mono ex2).wipe vs, yd, r1, hr1, fun σ2 Er2 ww => ⟨by rw [ww vs ht, wipe_idem], ?_⟩⟩
        refine ⟨Wi, r1, hi, R2, Er2, ne_step pi2 fun b h3 e3 p3 => ?_⟩
        intro W3 b' H3 ex3 R3 eb
        cases eb
        have np3 : Dd ∉ W3.ph := fun z => by
          rcases ex3.fresh Dd z with q | q
          · exact np q
          · rw [hD2] at q; cases q
        have nf3 : ¬ W3.fz Dd := fun z => by
          rcases ex3.nfz Dd z with q | q | q
          · exact nf q
          · rw [hD2] at q; cases q
          · exact np q
        have hD3 : H3 Dd = some (.lst acc) := (ex3.old Dd (by rw [hD2]; rfl) np).trans hD2
        have ra3 := (ra.mono ex2).mono ex3
        have ext3 := (ei.trans ex2).trans ex3
        cases b with
        | false =>
          rw [if_neg Bool.false_ne_true] at p3 ⊢
          exact ⟨W3, h3, accD, acc, ext3, R3, hD3, ra3, nf3, np3, p3⟩
        | true =>
          rw [if_pos rfl] at p3 ⊢
          refine ⟨W3, r1, h3, R3, Er2.mono ex3, ne_step p3 fun d h4 e4 p4 => ?_⟩
          intro W4 v H4 ex4 R4 rv
          have np4 : Dd ∉ W4.ph := fun z => by
            rcases ex4.fresh Dd z with q | q
            · exact np3 q
            · rw [hD3] at q; cases q
          have nf4 : ¬ W4.fz Dd := fun z => by
            rcases ex4.nfz Dd z with q | q | q
            · exact nf3 q
            · rw [hD3] at q; cases q
            · exact np3 q
          have hD4 : H4 Dd = some (.lst acc) := (ex4.old Dd (by rw [hD3]; rfl) np3).trans hD3
          have ra4 := ra3.mono ex4
          have p5 : Pst g U (Rp g) W1 H1 (bnd (noexc (compL bd (E.conds Phi cond) (E.ev Phi ea) (still ds h0) (xs.drop (i + 1)))) (fun rest => mkL m ((accD ++ [d]) ++ rest)) h4) Q := by
            have e5 : (bnd (noexc (bnd (compL bd (E.conds Phi cond) (E.ev Phi ea) (still ds h0) (xs.drop (i + 1))) fun ds => ret (d :: ds))) (fun rest => mkL m (accD ++ rest)) h4) = (bnd (noexc (compL bd (E.conds Phi cond) (E.ev Phi ea) (still ds h0) (xs.drop (i + 1)))) (fun rest => mkL m ((accD ++ [d]) ++ rest)) h4) := by
              simp only [bnd, noexc, ret]
              cases compL bd (E.conds Phi cond) (E.ev Phi ea) (still ds h0) (xs.drop (i + 1)) h4 <;> simp
            rw [← e5]
            exact p4
          have fit := ne_fit p5
          refine ⟨acc, hD4, ?_, W4, h4, accD ++ [d], acc ++ [v], ex_off (ext3.trans ex4) R1 hD, hr_off R4 nf4 np4, upd_same, ((ra4.app (.cons rv .nil)).monoW (ew_off nf4)), nf4, np4, p5⟩
          have := ra4.length
          rw [List.length_append] at fit
          simp only [List.length_cons, List.length_nil] at fit
          exact sz_lt (by omega)
      · left
        have ei0 : i = xs.length := by omega
        subst ei0
        rw [List.drop_length] at pi
        have hok : still ds h0 hi = true := by
          cases q : still ds h0 hi with
          | true => rfl
          | false =>
            exfalso
            simp only [bnd, noexc, compL, q] at pi
            exact pi
        refine ⟨io.stop Wi hi H' ei Ri hok, ?_⟩
        replace pi : Pst g U (Rp g) W1 H1 (mkL m accD hi) Q := by
          simp only [bnd, noexc, compL, hok, if_true, List.append_nil] at pi
          exact pi
        unfold mkL at pi
        split at pi
        case isFalse => exact pi.elim
        split at pi
        · refine pi ⟨Wi.ph ++ [Dd], Wi.fz⟩ _ H' ?_ (hr_adopt Ri hDi nf np ra) (.ref ?_)
          · refine ⟨⟨?_, ei.fz, ei.keep⟩, fun a z => ?_, ei.old, ei.nfz⟩
            · obtain ⟨l, q⟩ := ei.ph
              exact ⟨l ++ [Dd], by rw [← List.append_assoc, ← q]⟩
            · rcases List.mem_append.mp z with q | q
              · exact ei.fresh a q
              · simp at q
                exact .inr (by rw [q]; exact hD)
          · rw [← Ri.len]
            simp
        · have ew0 : Ew Wi ⟨Wi.ph, fun a => Wi.fz a ∨ a = Dd⟩ H' H' := ⟨⟨[], by simp⟩, fun _ z => .inl z, fun _ _ => rfl⟩
          refine pi ⟨Wi.ph, fun a => Wi.fz a ∨ a = Dd⟩ _ H' ?_ ?_ (.lst (.inr rfl) hDi (ra.monoW ew0))
          · refine ⟨⟨ei.ph, fun a z => .inl (ei.fz a z), ei.keep⟩, ei.fresh, ei.old, fun a z => ?_⟩
            rcases z with z | z
            · exact ei.nfz a z
            · exact .inr (.inl (by rw [z]; exact hD))
          · have ew : Ew Wi ⟨Wi.ph, fun a => Wi.fz a ∨ a = Dd⟩ H' H' := ⟨⟨[], by simp⟩, fun _ z => .inl z, fun _ _ => rfl⟩
            refine ⟨Ri.len, Ri.nd, fun a z => ?_, fun n a c e q kd z => ?_, fun n a c e q => (Ri.cell n a c e q).monoW ew rfl⟩
            · rcases z with z | z
              · exact Ri.fzs a z
              · rw [z, hDi]; rfl
            · rcases z with z | z
              · exact Ri.dis n a c e q kd z
              · exact np (by rw [← z]; exact List.mem_of_getElem? e)
theorem se_comp {elt tg iter : Expr} {ifs : List Expr} {scope : Scope} {own : List (Str × Nat)} {pos : Pos} {pr : Bool} {m : Bool} {ea : E} {t : Tg} {k : IK} {its cond : List E} (hc : X.calm = true) (hN : X.N.Nodup) (hi : SI X g U pr tg iter (srcM Phi k its)) (ok : BlkOk X.N X.env.scope scope own)
    (ht : tgIn t (own.map (·.2)) = true)
    (hg : ∀ (s : Shared) (H : Hp) (C : Addr) (cl : List (Str × Addr)) (fp : List Addr), PG (X.blk s H scope (compEnvC scope cl C X.env) fp) tg (tG g pr t))
    (hts : ∀ (s : Shared) (H : Hp) (C : Addr) (cl : List (Str × Addr)) (fp : List Addr), PTs (X.blk s H scope (compEnvC scope cl C X.env) fp) ifs (tTs g UF (E.conds Phi cond)))
    (he : ∀ (s : Shared) (H : Hp) (C : Addr) (cl : List (Str × Addr)) (fp : List Addr), SE (X.blk s H scope (compEnvC scope cl C X.env) fp) g UF elt (ea.ev Phi)) (hs : ∀ x, foldedSetIterable iter X.env x = pure x) :
    SE X g U (.ListComp elt [⟨tg, iter, ifs, 0⟩] scope pos) ((E.comp m ea t k its cond (own.map (·.2))).ev Phi) :=
  PE.to (pe_lc hc hN hi ok hg hts he hs) (rd_comp ht)
end
end TS

set_option Elab.async false
set_option linter.all false
set_option maxRecDepth 100000
set_option maxHeartbeats 4000000
/-! TS14: statements. -/
namespace TS
open PySem L2 PySem.SeqAt
def QF (Dn : Ends) : (L2.St ⊕ V) → Hp → Prop := fun z H' => match z with
  | .inl σ' => Dn.nx σ' H'
  | .inr v => Dn.rt v H'
section
variable {X : Cx} {g : Gi} {U : XK} {Phi : Nat → List D → M D} {W : Wd} {h : Hh} {H : Hp}
theorem ss_asg {i : Nat} {x : Str} {e : Expr} {a : E} {pos pos' : Pos} (hN : X.N.Nodup) (hi : X.N[i]? = some x) (hx : Loc X.env.scope x) (he : SE X g U e (a.ev Phi)) (hs : swapsWith e (some (.Name x pos')) pos.line X.env = pure false) (hf : X.fn x = true ∨ X.env.scope.names.lookup x = some .local) :
    SS X g U (.Assign [.Name x pos'] e pos) ((S.asg i a).ex Phi) :=
  PS.to (ps_set hN hi hx he hs hf) fun Dn σ H ⟨W, r, h, R, Er, p⟩ => by
    rw [S.ex] at p
    exact ⟨W, r, h, R, Er, Pst.bnd p fun d h1 W1 v H1 e1 x1 R1 r1 p1 => p1 W1 (.inl _) H1 (Ex.refl _ _) R1 ((Er.mono x1).set i r1)⟩
theorem ss_asgLc {i : Nat} {y : Str} {py : Pos} {elt tg iter : Expr} {ifs : List Expr} {scope : Scope} {own : List (Str × Nat)} {pos spos : Pos} {pr : Bool} {m : Bool} {ea : E} {t : Tg} {k : IK} {its cond : List E} (hc : X.calm = true) (hN : X.N.Nodup) (hy : X.N[i]? = some y) (hyl : X.env.scope.names.lookup y = some .local)
    (hsw : swapsWith (.ListComp elt [⟨tg, iter, ifs, 0⟩] scope pos) (some (.Name y py)) spos.line X.env = pure true) (hi : SI X g U pr tg iter (srcM Phi k its)) (ok : BlkOk X.N X.env.scope scope own)
    (ht : tgIn t (own.map (·.2)) = true)
    (hg : ∀ (s : Shared) (H : Hp) (C : Addr) (cl : List (Str × Addr)) (fp : List Addr), PG (X.blk s H scope (compEnvC scope cl C X.env) fp) tg (tG g pr t))
    (hts : ∀ (s : Shared) (H : Hp) (C : Addr) (cl : List (Str × Addr)) (fp : List Addr), PTs (X.blk s H scope (compEnvC scope cl C X.env) fp) ifs (tTs g UF (E.conds Phi cond)))
    (he : ∀ (s : Shared) (H : Hp) (C : Addr) (cl : List (Str × Addr)) (fp : List Addr), SE (X.blk s H scope (compEnvC scope cl C X.env) fp) g UF elt (ea.ev Phi)) (hs : ∀ x, foldedSetIterable iter X.env x = pure x) :
    SS X g U (.Assign [.Name y py] (.ListComp elt [⟨tg, iter, ifs, 0⟩] scope pos) spos) ((S.asg i (E.comp m ea t k its cond (own.map (·.2)))).ex Phi) :=
  PS.to (ps_setLc hc hN hy hyl hsw hi ok hg hts he hs) fun Dn σ H ⟨W, r, h, R, Er, p⟩ => by
    rw [S.ex] at p
    refine rd_comp (m := m) ht σ H (fun x H1 => gName i x σ H1 Dn.nx) ?_
    exact ⟨W, r, h, R, Er, Pst.bnd p fun d h1 W1 v H1 e1 x1 R1 r1 p1 => p1 W1 (.inl _) H1 (Ex.refl _ _) R1 ((Er.mono x1).set i r1)⟩
theorem ss_asgT {l : List Nat} {tg e : Expr} {a : E} {pos : Pos} (he : SE X g U e (a.ev Phi)) (hg : PG X tg (tG g false (.many l))) (hs : swapsWithSole [tg] e pos.line X.env = pure false) (hw : swappedStores [tg] e X.env = pure none)
    (h1 : (assignEach [tg] X.env).map (·.2) = [assign tg X.env]) : SS X g U (.Assign [tg] e pos) ((S.asgT l a).ex Phi) :=
  PS.to (ps_asg he hg hs hw h1) fun Dn σ H ⟨W, r, h, R, Er, p⟩ => by
    rw [S.ex] at p
    refine ⟨W, r, h, R, Er, Pst.bnd p fun d h1 W1 v H1 e1 x1 R1 r1 p1 => ?_⟩
    cases hr : bindTg (.many l) d r with
    | some r2 =>
      simp only [hr] at p1
      exact ⟨W1, r, d, Er.mono x1, r1, r2, hr, fun σ' Er' _ => p1 W1 (.inl σ') H1 (Ex.refl _ _) R1 Er'⟩
    | none =>
      simp only [hr] at p1
      exact p1.elim
theorem ss_par {i j : Nat} {x y : Str} {e1 e2 : Expr} {a b : E} {px py pt pos : Pos} {kt k2 pt2} (hc : X.calm = true) (hN : X.N.Nodup) (hi : X.N[i]? = some x) (hj : X.N[j]? = some y) (hij : i ≠ j)
    (hx : X.env.scope.names.lookup x = some .local) (hy : X.env.scope.names.lookup y = some .local) (ha : SA X g U [e1, e2] (E.evs Phi [a, b]))
    (hw : swappedStores [.Tuple [.Name x px, .Name y py] kt pt] (.Tuple [e1, e2] k2 pt2) X.env = pure (some [x, y]))
    (hs : swapsWithSole [.Tuple [.Name x px, .Name y py] kt pt] (.Tuple [e1, e2] k2 pt2) pos.line X.env = pure false) :
    SS X g U (.Assign [.Tuple [.Name x px, .Name y py] kt pt] (.Tuple [e1, e2] k2 pt2) pos) ((S.par i j a b).ex Phi) :=
  PS.to (ps_par hc hN hi hj hij hx hy ha hw hs) fun Dn σ H ⟨W, r, h, R, Er, p⟩ => by
    have e0 : (S.par i j a b).ex Phi r = bnd (E.evs Phi [a, b] r) fun ds => match ds with
        | [x, y] => ret (.next ((r.set i (some x)).set j (some y)))
        | _ => mbad := by
      rw [S.ex, evs2]
    rw [e0] at p
    refine ⟨W, r, h, R, Er, Pst.bnd p fun ds h1 W1 vs H1 e1 x1 R1 r1 p1 => ?_⟩
    cases r1 with
    | nil => exact p1.elim
    | cons ra r1 =>
      cases r1 with
      | nil => exact p1.elim
      | cons rb r1 =>
        cases r1 with
        | cons _ _ => exact p1.elim
        | nil => exact ⟨_, _, rfl, p1 W1 (.inl _) H1 (Ex.refl _ _) R1 (((Er.mono x1).set i ra).set j rb)⟩
theorem set_both (hu : X.A.units + 1 < cLine) : PSet X (fun o i v H Q => rSetL o i v H Q ∨ rSetD o i v H Q) := by
  intro pins s σ H o i v ov iv u Q I ro ri rv h
  rcases h with h | h
  · exact set_list pins s σ H o i v ov iv u Q I ro ri rv h
  · exact set_dict hu pins s σ H o i v ov iv u Q I ro ri rv h
theorem ixN_eq (n : Nat) (i : Int) : TS.ixN n i = L2.ixN n i := rfl
theorem put_paired {kvs : List (D × D)} {kvs' : List (Key × V)} {k v : D} {k' : Key} {v' : V} (hk : keyV k = some k') (rv : Rp g W H v v')
    (pr : Paired (fun (p : D × D) (q : Key × V) => keyV p.1 = some q.1 ∧ Rp g W H p.2 q.2) kvs kvs') : Paired (fun (p : D × D) (q : Key × V) => keyV p.1 = some q.1 ∧ Rp g W H p.2 q.2) (putD kvs k v) (putK kvs' k' v') := by
  have key : ∀ {a b : D} {a' b' : Key}, keyV a = some a' → keyV b = some b' → (a = b ↔ a' = b') := by
    intro a b a' b' h1 h2
    constructor
    · intro e; subst e; rw [h1] at h2; exact Option.some.inj h2
    · intro e; subst e
      cases a <;> cases b <;> simp_all [keyV]
      all_goals (try (subst h1; simp_all))
  have hany : (kvs.any fun kv => decide (kv.1 = k)) = (kvs'.any fun kv => decide (kv.1 = k')) := by
    induction pr with
    | nil => rfl
    | cons r t ih =>
      rw [List.any_cons, List.any_cons, ih]
      congr 1
      exact decide_eq_decide.mpr (key r.1 hk)
  unfold putD putK
  rw [hany]
  split
  · clear hany
    rename_i hh
    clear hh
    induction pr with
    | nil => exact .nil
    | @cons p q l m r t ih =>
      refine .cons ?_ ih
      dsimp only
      by_cases e : p.1 = k
      · rw [if_pos e, if_pos ((key r.1 hk).mp e)]
        exact ⟨r.1, rv⟩
      · rw [if_neg e, if_neg fun z => e ((key r.1 hk).mpr z)]
        exact r
  · clear hany
    rename_i hh
    clear hh
    induction pr with
    | nil => exact .cons ⟨hk, rv⟩ .nil
    | cons r t ih => exact .cons r ih
theorem keyD_V {d : D} (h : keyD d = true) : ∃ k, keyV d = some k := by
  cases d <;> first | exact ⟨_, rfl⟩ | cases h
theorem keyV_rp2 {d : D} {v : V} {k : Key} (h : keyV d = some k) (r : Rp g W H d v) : v = kV k := by
  cases d <;> first | (cases h; cases r; rfl) | cases h
theorem paired_len {α β : Type} {F : α → β → Prop} : ∀ {l : List α} {m : List β}, Paired F l m → l.length = m.length
  | _, _, .nil => rfl
  | _, _, .cons _ t => by simp [paired_len t]
theorem ss_put {o i e : Expr} {oa ia a : E} {pos pos' : Pos} (hu : X.A.units + 1 < cLine) (ho : SE X g U o (oa.ev Phi)) (hi : SE X g U i (ia.ev Phi)) (he : SE X g U e (a.ev Phi))
    (hasg : ∀ v, assign (.Subscript o i pos') X.env v = (do
      let ov ← holding [v] (eval o X.env)
      let iv ← holding [v, ov] (eval i X.env)
      standAt pos'
      holding [v, ov, iv] (setItem ov iv v)
      release [v, ov, iv] []))
    (hs : swapsWithSole [.Subscript o i pos'] e pos.line X.env = pure false) (hw : swappedStores [.Subscript o i pos'] e X.env = pure none)
    (h1 : (assignEach [.Subscript o i pos'] X.env).map (·.2) = [assign (.Subscript o i pos') X.env]) : SS X g U (.Assign [.Subscript o i pos'] e pos) ((S.put oa ia a).ex Phi) :=
  PS.to (ps_asg he (pg_sub ho hi (set_both hu) hasg) hs hw h1) fun Dn σ H ⟨W, r, h, R, Er, p⟩ => by
    rw [S.ex] at p
    refine ⟨W, r, h, R, Er, Pst.bnd p fun z h1 W1 v H1 e1 x1 R1 r1 p1 => ?_⟩
    refine ⟨W1, r, h1, R1, Er.mono x1, Pst.bnd p1 fun x h2 W2 vo H2 e2 x2 R2 r2 p2 => ?_⟩
    refine ⟨W2, r, h2, R2, (Er.mono x1).mono x2, Pst.bnd p2 fun y h3 W3 vi H3 e3 x3 R3 r3 p3 => ?_⟩
    have rz := (r1.mono x2).mono x3
    have rx := r2.mono x3
    have Er3 := ((Er.mono x1).mono x2).mono x3
    cases x with
    | ref n =>
      have e4 : bnd (putM (.ref n) y z) (fun _ => ret (Fl.next r)) h3 = (match putM (.ref n) y z h3 with
          | .ok _ h4 => Res.ok (Fl.next r) h4
          | .exc x h4 => .exc x h4
          | .bad => .bad) := by
        simp only [bnd, ret]
        cases putM (.ref n) y z h3 <;> rfl
      rw [e4] at p3
      cases q : h3[n]? with
      | none => simp only [putM, q] at p3; exact p3.elim
      | some c =>
        cases c with
        | lst l =>
          cases y with
          | int kk =>
            simp only [putM, q] at p3
            cases hj : TS.ixN l.length kk with
            | none => rw [hj] at p3; exact p3.elim
            | some j =>
              rw [hj] at p3
              obtain ⟨aa, vs, rfl, hph, hH, rl⟩ := ref_lst R3 rx q
              cases r3
              left
              refine ⟨aa, vs, kk, j, rfl, rfl, hH, by rw [← rl.length, ← ixN_eq]; exact hj, ?_⟩
              obtain ⟨ex, hr⟩ := set_lst R3 hph q (Rps.set rz j rl)
              exact p3 W3 (.inl σ) _ ex hr (Er3.mono ex)
          | _ => simp only [putM, q] at p3; exact p3.elim
        | dct kvs =>
          have e5 : putM (.ref n) y z h3 = if keyD y = true ∧ kvs.length < 100000 then .ok .non (h3.set n (.dct (putD kvs y z))) else .bad := by
            unfold putM
            simp only [q]
          rw [e5] at p3
          by_cases hk : keyD y = true ∧ kvs.length < 100000
          case neg =>
            rw [if_neg hk] at p3
            exact p3.elim
          rw [if_pos hk] at p3
          obtain ⟨k, hkv⟩ := keyD_V hk.1
          cases rx with
          | ref hph =>
            rename_i aa
            obtain ⟨kvs', hH, pr⟩ := R3.cell n _ _ hph q
            right
            have ev := keyV_rp2 hkv r3
            subst ev
            have ex := ex_set (o := .dK (putK kvs' k v)) R3 hph q (by intro z; cases z)
            refine ⟨aa, _, rfl, DPut.k hH (by rw [← paired_len pr]; exact sz_lt hk.2), ?_⟩
            refine p3 W3 (.inl σ) _ ex (hr_set R3 hph q (by intro z; cases z) ⟨_, upd_same, ?_⟩) (Er3.mono ex)
            exact paired_imp (put_paired hkv rz pr) fun _ _ w => ⟨w.1, w.2.mono ex⟩
        | dead => simp only [putM, q] at p3; exact p3.elim
        | ins c fs => simp only [putM, q] at p3; exact p3.elim
    | _ => exact p3.elim
theorem ss_exp {e : Expr} {a : E} {pos : Pos} (he : SE X g U e (a.ev Phi)) (hs : swapsWith e none pos.line X.env = pure false) : SS X g U (.Expr e pos) ((S.exp a).ex Phi) :=
  PS.to (ps_expr he hs) fun Dn σ H ⟨W, r, h, R, Er, p⟩ => by
    rw [S.ex] at p
    exact ⟨W, r, h, R, Er, Pst.bnd p fun d h1 W1 v H1 e1 x1 R1 r1 p1 => p1 W1 (.inl σ) H1 (Ex.refl _ _) R1 (Er.mono x1)⟩
theorem ss_doc {x : Str} {j : Nat} {pos pos' : Pos} : SS X g U (.Expr (.Constant (.str x) j pos) pos') (S.pass.ex Phi) :=
  PS.to ps_doc fun Dn σ H ⟨W, r, h, R, Er, p⟩ => p W (.inl σ) H (Ex.refl _ _) R Er
theorem ss_pass {pos : Pos} : SS X g U (.Pass pos) (S.pass.ex Phi) :=
  PS.to ps_pass fun Dn σ H ⟨W, r, h, R, Er, p⟩ => p W (.inl σ) H (Ex.refl _ _) R Er
theorem ss_rtn {e : Expr} {a : E} {pos : Pos} (he : SE X g U e (a.ev Phi)) : SS X g U (.Return (some e) pos) ((S.rtn a).ex Phi) :=
  PS.to (ps_ret he) fun Dn σ H ⟨W, r, h, R, Er, p⟩ => by
    rw [S.ex] at p
    exact ⟨W, r, h, R, Er, Pst.bnd p fun d h1 W1 v H1 e1 x1 R1 r1 p1 => p1 W1 (.inr v) H1 (Ex.refl _ _) R1 r1⟩
theorem ss_rtnN {pos : Pos} : SS X g U (.Return none pos) ((S.rtn (.cst .non)).ex Phi) :=
  PS.to ps_retN fun Dn σ H ⟨W, r, h, R, Er, p⟩ => p W (.inr .non) H (Ex.refl _ _) R .non
theorem ss_bad {st : Stmt} {f : Env → M Fl} (hf : ∀ r h, f r h = .bad) : SS X g U st f := PS.to ps_never fun Dn σ H ⟨W, r, h, R, Er, p⟩ => by
  rw [hf] at p; exact p
theorem ss_nil : SSs X g U [] (S.exs Phi []) := PSs.to pss_nil fun Dn σ H ⟨W, r, h, R, Er, p⟩ => p W (.inl σ) H (Ex.refl _ _) R Er
theorem ss_cons {st : Stmt} {sts : List Stmt} {a : S} {as : List S} (h1 : SS X g U st (a.ex Phi)) (h2 : SSs X g U sts (S.exs Phi as)) : SSs X g U (st :: sts) (S.exs Phi (a :: as)) :=
  PSs.to (pss_cons h1 h2) fun Dn σ H ⟨W, r, h, R, Er, p⟩ => by
    rw [S.exs] at p
    refine ⟨W, r, h, R, Er, Pst.bnd p fun f h1 W1 z H1 e1 x1 R1 r1 p1 => ?_⟩
    cases f with
    | next r2 =>
      cases z with
      | inl σ' => exact ⟨W1, r2, h1, R1, r1, p1⟩
      | inr v => exact r1.elim
    | ret d =>
      cases z with
      | inl σ' => exact r1.elim
      | inr v => exact p1 W1 (.inr v) H1 (Ex.refl _ _) R1 r1
theorem ss_ite {c : Expr} {sa sb : List Stmt} {ca : E} {a b : List S} {pos : Pos} (hc : ST X g U c (ca.ev Phi)) (h1 : SSs X g U sa (S.exs Phi a)) (h2 : SSs X g U sb (S.exs Phi b)) : SS X g U (.If c sa sb pos) ((S.ite ca a b).ex Phi) :=
  PS.to (ps_if hc h1 h2) fun Dn σ H ⟨W, r, h, R, Er, p⟩ => by
    rw [S.ex] at p
    refine ⟨W, r, h, R, Er, Pst.bnd (Rel := RelB) p fun d h1 W1 x H1 e1 x1 R1 e2 p1 => ?_, fun d h' e => ?_⟩
    · cases e2
      cases x with
      | true =>
        rw [if_pos rfl]
        exact ⟨W1, r, h1, R1, Er.mono x1, p1⟩
      | false =>
        rw [if_neg Bool.false_ne_true]
        exact ⟨W1, r, h1, R1, Er.mono x1, p1⟩
    · unfold TS.bnd at p
      rw [e] at p
      cases d with
      | bl b => exact ⟨b, rfl⟩
      | _ => exact p.elim
theorem ss_while {c : Expr} {sb : List Stmt} {ca : E} {b : List S} {pos : Pos} (hp : PassesOwn (model X.prog X.w) X.A X.env X.xe) (hc : ST X g U c (ca.ev Phi)) (hb : SSs X g U sb (S.exs Phi b)) : SS X g U (.While c sb [] pos) ((S.while_ ca b).ex Phi) :=
  PS.to (ps_while hp hc hb) fun Dn σ H ⟨W, r, h, R, Er, p⟩ => by
    rw [S.ex] at p
    refine ⟨fun n σ' H' => ∃ Wi ri hi, HR g Wi hi H' ∧ ER g Wi H' ri σ' ∧ Pst g U (RelF g) Wi H' (whileL (ca.ev Phi) (S.exs Phi b) n ri hi) (QF Dn), ⟨1000, W, r, h, R, Er, p⟩, ?_⟩
    rintro n σ' H' ⟨Wi, ri, hi, Ri, Eri, pi⟩
    cases n with
    | zero => exact pi.elim
    | succ n =>
      rw [whileL] at pi
      refine ⟨Wi, ri, hi, Ri, Eri, Pst.bnd (Rel := RelB) pi fun d h1 W1 x H1 e1 x1 R1 e2 p1 => ?_, fun d h' e => ?_⟩
      · cases e2
        cases x with
        | true =>
          rw [if_pos rfl]
          refine ⟨_, fun σ2 H2 z => ⟨n, Nat.lt_succ_self n, z⟩, W1, ri, h1, R1, Eri.mono x1, ?_⟩
          refine Pst.bnd p1 fun f h2 W2 z H2 e3 x2 R2 r2 p2 => ?_
          cases f with
          | next r3 =>
            cases z with
            | inl σ3 => exact ⟨W2, r3, h2, R2, r2, p2⟩
            | inr v => exact r2.elim
          | ret d =>
            cases z with
            | inl σ3 => exact r2.elim
            | inr v => exact p2 W2 (.inr v) H2 (Ex.refl _ _) R2 r2
        | false =>
          rw [if_neg Bool.false_ne_true]
          exact p1 W1 (.inl σ') H1 (Ex.refl _ _) R1 (Eri.mono x1)
      · unfold TS.bnd at pi
        rw [e] at pi
        cases d with
        | bl b => exact ⟨b, rfl⟩
        | _ => exact pi.elim
theorem still_refl (ds : List D) (h : Hh) : still ds h h = true := by
  unfold still
  rw [List.all_eq_true]
  intro d _
  cases d <;> simp
theorem ss_for {tg iter : Expr} {sb : List Stmt} {t : Tg} {k : IK} {its : List E} {b : List S} {pr : Bool} {pos : Pos} (hp : PassesOwn (model X.prog X.w) X.A X.env X.xe) (hc : X.calm = true) (hi : SI X g U pr tg iter (srcM Phi k its)) (hg : PG X tg (tG g pr t)) (hb : SSs X g U sb (S.exs Phi b))
    (hs : ∀ x, foldedSetIterable iter X.env x = pure x) : SS X g U (.For tg iter sb [] pos) ((S.for_ t k its b).ex Phi) :=
  PS.to (ps_for hp hc hi hg hb hs) fun Dn σ H ⟨W, r, h, R, Er, p⟩ => by
    have e0 : (S.for_ t k its b).ex Phi r = bnd (srcM Phi k its r) fun a => forL (bindTg t) (S.exs Phi b) (still a.1 a.2.2) a.2.1 r := by
      rw [S.ex, srcM, bnd_assoc]
      congr 1
      funext ds h
      simp only [srcK, bnd]
      cases itemsOf k ds h <;> rfl
    rw [e0] at p
    refine ⟨W, r, h, R, Er, Pst.bnd p fun a h1 W1 J H1 e1 x1 R1 io p1 => ?_⟩
    obtain ⟨ds, xs, h0⟩ := a
    have eh : h0 = h1 := by
      unfold srcM at e1
      simp only [bnd, srcK] at e1
      cases q : E.evs Phi its r h with
      | ok a hx =>
        rw [q] at e1
        simp only at e1
        cases q2 : itemsOf k a hx with
        | none => rw [q2] at e1; cases e1
        | some ys => rw [q2] at e1; cases e1; rfl
      | exc _ _ => rw [q] at e1; cases e1
      | bad => rw [q] at e1; cases e1
    subst eh
    replace io : ItOk g W1 h0 H1 pr ds xs J := io
    let St : Nat → L2.St → Hp → Prop := fun i σ' H' => ∃ Wi hi ri, Ex W1 Wi H1 H' ∧ HR g Wi hi H' ∧ ER g Wi H' ri σ' ∧ still ds h0 hi = true ∧ Pst g U (RelF g) Wi H' (forL (bindTg t) (S.exs Phi b) (still ds h0) (xs.drop i) ri hi) (QF Dn)
    refine ⟨fun i n σ' H' => n = xs.length - i ∧ i ≤ xs.length ∧ St i σ' H', ⟨xs.length, by simp, Nat.zero_le _, W1, h0, r, Ex.refl _ _, R1, Er.mono x1, still_refl ds h0, p1⟩, ?_⟩
    rintro i n σ' H' ⟨rfl, hle, Wi, hi, ri, ei, Ri, Eri, hok, pi⟩
    by_cases hlt : i < xs.length
    · right
      have hx : xs[i]? = some xs[i] := List.getElem?_eq_getElem hlt
      have hdrop : xs.drop i = xs[i] :: xs.drop (i + 1) := List.drop_eq_getElem_cons hlt
      rw [hdrop, forL] at pi
      dsimp only at pi
      rw [if_pos hok] at pi
      refine ⟨io.go i Wi hi H' ei Ri hok hlt, St (i + 1), fun σ'' H'' s => ⟨xs.length - (i + 1), by omega, rfl, hlt, s⟩, fun x H'' y => ?_⟩
      obtain ⟨ex2, R2, yd⟩ := io.yl i Wi hi H' x H'' _ ei Ri hok hx y
      split at pi
      case h_2 => exact pi.elim
      rename_i r1 hr1
      refine ⟨Wi, ri, xs[i], Eri.mono ex2, yd, r1, hr1, fun σ2 Er2 _ => ?_⟩
      refine ⟨Wi, r1, hi, R2, Er2, Pst.bnd (pi.mono ex2) fun f h2 W2 z H2 e3 x2 R3 r2 p2 => ?_⟩
      cases f with
      | next r3 =>
        cases z with
        | inl σ3 =>
          replace p2 : Pst g U (RelF g) W2 H2 (if still ds h0 h2 = true then forL (bindTg t) (S.exs Phi b) (still ds h0) (xs.drop (i + 1)) r3 h2 else .bad) (QF Dn) := p2
          split at p2
          · rename_i hok2
            exact ⟨W2, h2, r3, (ei.trans ex2).trans x2, R3, r2, hok2, p2⟩
          · exact p2.elim
        | inr v => exact r2.elim
      | ret d =>
        cases z with
        | inl σ3 => exact r2.elim
        | inr v => exact p2 W2 (.inr v) H2 (Ex.refl _ _) R3 r2
    · left
      have ei0 : i = xs.length := by omega
      subst ei0
      rw [List.drop_length] at pi
      exact ⟨io.stop Wi hi H' ei Ri hok, pi Wi (.inl σ') H' (Ex.refl _ _) Ri Eri⟩
end
end TS

set_option Elab.async false
set_option linter.all false
set_option maxRecDepth 100000
set_option maxHeartbeats 4000000
/-! TS15: set(texts), len(set(texts)); products. -/
namespace TS
open PySem L2 PySem.Spec PyProof.Rows
def cntS (l : List Str) : Nat := (dedup l).length
theorem dedup_mem [DecidableEq α] : ∀ (l : List α) (x : α), x ∈ dedup l ↔ x ∈ l
  | [], x => by simp [dedup]
  | y :: l, x => by
    simp only [dedup, List.mem_cons, List.mem_filter, dedup_mem l x, decide_eq_true_eq]
    by_cases h : x = y
    · simp [h]
    · simp [h]
theorem dedup_nodup [DecidableEq α] : ∀ l : List α, (dedup l).Nodup
  | [] => by simp [dedup]
  | y :: l => by
    simp only [dedup, List.nodup_cons, List.mem_filter, decide_eq_true_eq]
    exact ⟨fun h => h.2 rfl, (dedup_nodup l).filter _⟩
theorem len_same [DecidableEq α] {l m : List α} (hl : l.Nodup) (hm : m.Nodup) (h : ∀ x, x ∈ l ↔ x ∈ m) : l.length = m.length :=
  ((List.perm_ext_iff_of_nodup hl hm).mpr h).length_eq
theorem cntS_snoc (l : List Str) (x : Str) : cntS (l ++ [x]) = if x ∈ l then cntS l else cntS l + 1 := by
  unfold cntS
  by_cases h : x ∈ l
  · rw [if_pos h]
    refine len_same (dedup_nodup _) (dedup_nodup _) fun y => ?_
    rw [dedup_mem, dedup_mem, List.mem_append, List.mem_singleton]
    exact ⟨fun z => z.elim id fun e => e ▸ h, .inl⟩
  · rw [if_neg h]
    have : (dedup l).length + 1 = (dedup l ++ [x]).length := by simp
    rw [this]
    refine len_same (dedup_nodup _) ?_ fun y => ?_
    · refine List.nodup_append.mpr ⟨dedup_nodup l, by simp, fun a ha b hb e => ?_⟩
      simp at hb
      rw [dedup_mem] at ha
      exact h (by rw [← hb, ← e]; exact ha)
    · rw [dedup_mem, List.mem_append, List.mem_append, dedup_mem]
theorem cntS_le (l : List Str) : cntS l ≤ l.length := by
  induction l with
  | nil => exact Nat.le_refl _
  | cons x l ih =>
    have e : cntS (x :: l) = ((dedup l).filter fun y => decide (y ≠ x)).length + 1 := rfl
    rw [e]
    have := List.length_filter_le (fun y => decide (y ≠ x)) (dedup l)
    unfold cntS at ih
    simp only [List.length_cons]
    omega
section
variable {prog : Program} {w : World} {A : Around} {R : Result → Shared → Prop} {I : Addr} {fp wr : List Addr} {G : Array GenState → Array GenState → Prop} {n : Nat} {P : Nat → Value → Prop} {St : Nat → Shared → Prop}
/-- each text in turn is put into the set -/
theorem loopTx (W : WalksS prog w A.in1 I fp wr G n P St) (S : Addr) (hSf : S ∉ fp) (xs : List Str) (hsz : xs.length = n) (hn1 : n < 1000)
    (hval : ∀ i v, P i v → ∃ t, v = .str (xs.getD i Str.empty) t) :
    ∀ (k i : Nat) (s : Shared), n - i = k → i ≤ n → St i s →
      s.heap.SetOf (PySem.strKind prog w) S (fun k' => (xs.take i).any (· == k')) (cntS (xs.take i)) →
      (∀ s', Moved (S :: wr) G s s' → s'.heap.SetOf (PySem.strKind prog w) S (fun k' => (xs.take n).any (· == k')) (cntS xs) → R (.ok (.ret .none)) s') →
      codeAny (model prog w) A (.builtin "set.update.loop" ⟨[.ref S, .ref I], []⟩) R s := by
  have hSw : S ∉ wr := fun h => hSf (W.sub _ h)
  have hsub : ∀ b ∈ wr, b ∈ S :: wr := fun b hb => List.mem_cons_of_mem _ hb
  intro k
  induction k with
  | zero =>
    intro i s hk hi hst hS hR
    have hin : i = n := by omega
    subst hin
    refine codeAny_builtin PyProof.Rows.F.entry_set_update_loop ?_
    rw [Around.under_plainId PyProof.Rows.F.plain_set_update_loop _]
    show wpAny _ A.in1 (pyNext (.ref I) >>= _) _ _ s
    refine wpAny_bind (W.done s _ _ hst fun s' hm => ?_)
    show wpAny _ A.in1 (PySem.ret Value.none) _ _ s'
    refine wpAny_pure (hR s' (hm.mono hsub) ?_)
    have e0 : xs.take i = xs := List.take_of_length_le (by omega)
    rw [e0] at hS ⊢
    obtain ⟨o, es, ep, t, ho, rest⟩ := hS
    exact ⟨o, es, ep, t, hm.heap S _ hSw ho, rest⟩
  | succ k ih =>
    intro i s hk hi hst hS hR
    have hlt : i < n := by omega
    refine codeAny_builtin PyProof.Rows.F.entry_set_update_loop ?_
    rw [Around.under_plainId PyProof.Rows.F.plain_set_update_loop _]
    show wpAny _ A.in1 (pyNext (.ref I) >>= _) _ _ s
    refine wpAny_bind (W.item i s _ _ hlt hst fun v s' hP hst' hm => ?_)
    obtain ⟨t, rfl⟩ := hval i v hP
    have hS' : s'.heap.SetOf (PySem.strKind prog w) S (fun k' => (xs.take i).any (· == k')) (cntS (xs.take i)) := by
      obtain ⟨o, es, ep, tb, ho, rest⟩ := hS
      exact ⟨o, es, ep, tb, hm.heap S _ hSw ho, rest⟩
    show wpAny _ A.in1 (holding [Value.str (xs.getD i Str.empty) t] (setAdd S (.str (xs.getD i Str.empty) t)) >>= _) _ _ s'
    refine wpAny_bind (wpAny_holding ?_)
    unfold setAdd
    refine wpAny_holding ?_
    refine wpAny_bind ((PySem.strKind prog w).pyHash (k := xs.getD i Str.empty) (strKind_is _ _ _ _) ?_)
    have hroom : cntS (xs.take i) + 1 < scanBound := by
      have := cntS_le (xs.take i)
      rw [List.length_take] at this
      unfold scanBound
      omega
    refine wpAny_setAddHashed_of (knd := PySem.strKind prog w) (s := { s' with toks := s'.toks + 1 }) (strKind_is _ _ _ _) rfl hS' hroom fun h' hsb hS2 => ?_
    have hx : xs.getD i Str.empty = xs[i] := by
      rw [List.getD_eq_getElem?_getD, List.getElem?_eq_getElem (by omega)]; rfl
    have htake : xs.take (i + 1) = xs.take i ++ [xs[i]] := by
      rw [List.take_add_one, List.getElem?_eq_getElem (by omega)]; rfl
    have hSi : h'.SetOf (PySem.strKind prog w) S (fun k' => (xs.take (i + 1)).any (· == k')) (cntS (xs.take (i + 1))) := by
      refine SetOf_congr hS2 (fun k' => ?_) ?_
      · rw [htake, hx, List.any_append]
        by_cases e : k' = xs[i]
        · subst e; simp
        · have hb : (xs[i] == k') = false := by simpa [beq_iff_eq] using (fun h' : xs[i] = k' => e h'.symm)
          simp [hb, e]
      · rw [htake, cntS_snoc, hx]
        have e1 : ((xs.take i).any (· == xs[i]) = true) ↔ xs[i] ∈ xs.take i := by
          rw [List.any_eq_true]
          constructor
          · rintro ⟨y, hy, ey⟩
            rw [← eq_of_beq ey]; exact hy
          · intro hy
            exact ⟨_, hy, by simp⟩
        by_cases hm : xs[i] ∈ xs.take i
        · rw [if_pos hm, if_pos (e1.mpr hm)]
        · rw [if_neg hm, if_neg fun z => hm (e1.mp z)]
    refine wpAny_pure ⟨plainId_quiet PyProof.Rows.F.plain_set_update_loop _, ih (i + 1) _ (by omega) hlt (W.frame _ s' _ _ hst' (Nat.le_succ _) fun b hb o e => ?_) hSi fun s'' hm'' hS'' => ?_⟩
    · rw [hsb.2 b (fun h : b = S => hSf (by rw [← h]; exact hb))]; exact e
    · refine hR s'' (Moved.trans W.gtrans ((hm.mono hsub).then_heap (Nat.le_succ _) fun b o hb e => ?_) hm'') hS''
      rw [hsb.2 b (fun h : b = S => hb (by rw [h]; exact List.mem_cons_self))]; exact e
end
/-- what set(v) needs of v: what it is, how it is walked -/
structure SetSrc (l : Addr) (items : Array Value) (T : String) (IT : String) (Is : Heap → Prop) : Prop where
  ob : ∀ h, Is h → ∃ o, h.get? l = some o ∧ o.cls = .type T ∧ ∃ n, o.data = .seq items n
  keep : ∀ h h', Is h → (∀ o, h.get? l = some o → h'.get? l = some o) → Is h'
  s1 : isSubtype (.type T) (.type "set") = pure false
  s2 : isSubtype (.type T) (.type "frozenset") = pure false
  nd : (Value.type T == Value.type "dict") = false
  it : ∀ (prog : Program) (w : World) (A : Around) (E : Value → Shared → Prop) (s : Shared) (Q : Value → Shared → Prop), Is s.heap → Q (.ref s.heap.objs.size) { s with heap := s.heap.push { cls := .type IT, data := .fields #[.ref l, .int 0 0] } } → wpAny (model prog w) A (pyIter (.ref l)) Q E s
  wk : ∀ (prog : Program) (w : World) (A : Around) (I : Addr), A.handled = none → l ≠ I → ∃ (fp wr : List Addr) (G : Array GenState → Array GenState → Prop) (St : Nat → Shared → Prop), WalksS prog w A I fp wr G items.size (fun i v => items[i]? = some v) St ∧ (∀ b ∈ fp, b = I ∨ b = l) ∧ (∀ b ∈ wr, b = I) ∧ (∀ g g', G g g' → g' = g) ∧
    ∀ (s : Shared), s.heap.get? I = some { cls := .type IT, data := .fields #[.ref l, .int 0 0] } → Is s.heap → St 0 s
section
variable {prog : Program} {w : World} {A : Around} {E : Value → Shared → Prop} {s : Shared}
set_option maxHeartbeats 3200000 in
theorem call_set_tx {l : Addr} {items : Array Value} {xs : List Str} {T IT : String} {Is : Heap → Prop} {Q : Value → Shared → Prop} (SR : SetSrc l items T IT Is)
    (hh : A.handled = none) (hl : Is s.heap) (hi : PyProof.Rows.StrsAre items.toList xs) (hn1 : xs.length < 1000)
    (h : ∀ (h' : Heap) (tk : Nat), h'.SetOf (PySem.strKind prog w) s.heap.objs.size (fun k' => (xs.take items.size).any (· == k')) (cntS xs) →
      (∀ b o, b < s.heap.objs.size → s.heap.get? b = some o → h'.get? b = some o) → Q (.ref s.heap.objs.size) { s with heap := h', toks := tk }) :
    wpAny (model prog w) A (call (.type "set") [.ref l]) Q E s := by
  obtain ⟨c, tl, hmro⟩ := PySem.F.called_set.mro
  have hmade := PySem.F.called_set.made
  have hsub := PySem.F.called_set.sub
  refine wpAny_call (codeAny_of_tree ?_)
  show wpAny _ _ (callAny (.type "set") _) _ _ _
  refine wpAny_pure ⟨Code.quiet_builtin _ (by decide +kernel), codeAny_builtin PySem.F.entry_type_call ?_⟩
  rw [Around.under_plain (weight_type_call_type "set" [.ref l] []) rfl]
  have h1 := PySem.F.called_set.notType
  have h2 := PySem.F.called_set.canCreate
  have hct := PySem.F.typeCall_set_1 (.ref l)
  repeat (any_goals (first | assumption | wp_step))
  refine codeAny_mono (code_set_new_1 (.ref l) (E := E) (Q₁ := fun obj s₁ => ∃ led : Bool, obj = .ref s.heap.objs.size ∧ s₁ = { s with heap := s.heap.push { cls := .type "set", dict := none, data := .set #[] 0 (.fresh 0 0 led) } }) fun led => ⟨led, rfl, rfl⟩) fun r s₁ hr => ?_
  cases r with
  | error e => exact hr
  | ok fl =>
    cases fl with
    | ret obj =>
      obtain ⟨led, rfl, rfl⟩ := hr
      have hS : (s.heap.push { cls := .type "set", dict := none, data := .set #[] 0 (.fresh 0 0 led) }).get? s.heap.objs.size = some { cls := .type "set", dict := none, data := .set #[] 0 (.fresh 0 0 led) } := Heap.get?_push_size _ rfl
      have hT : Shared.TypeIs { s with heap := s.heap.push { cls := .type "set", dict := none, data := .set #[] 0 (.fresh 0 0 led) } } (.ref s.heap.objs.size) "set" := ⟨_, hS, rfl⟩
      have hli := PySem.F.called_set.init.lookup
      have hbi := PySem.F.called_set.init.bind (.ref s.heap.objs.size)
      repeat (any_goals (first | assumption | wp_step))
      refine codeAny_mono (codeAny_call_builtin (R := wants (fun r s₂ => r = .none ∧ ∃ h' tk, s₂ = { s with heap := h', toks := tk } ∧
          h'.SetOf (PySem.strKind prog w) s.heap.objs.size (fun k' => (xs.take items.size).any (· == k')) (cntS xs) ∧
          (∀ b o, b < s.heap.objs.size → s.heap.get? b = some o → h'.get? b = some o)) E) PySem.F.called_set.init.plain PySem.F.entry_set_init (check_set_init_1 hT ?_)) fun r₂ s₂ hr₂ => ?_
      · obtain ⟨ol, hol, hcl, nl, hdl⟩ := SR.ob _ hl
        obtain ⟨ocls, odict, odata, oslots⟩ := ol
        simp only at hcl hdl
        subst hcl; subst hdl
        have hol' : (s.heap.push { cls := .type "set", dict := none, data := .set #[] 0 (.fresh 0 0 led) }).get? l = some { cls := .type T, dict := odict, data := .seq items nl, slots := oslots } := Heap.get?_push_of_some _ hol
        have hsls := SR.s1
        have hslf := SR.s2
        have hne : (Value.type T == Value.type "dict") = false := SR.nd
        have hl1 : Is (s.heap.push { cls := .type "set", dict := none, data := .set #[] 0 (.fresh 0 0 led) }) := SR.keep _ _ hl fun o e => Heap.get?_push_of_some _ e
        unfold Builtin.«set.__init__» noKeywords Builtin.Frozenset.updateFrom
        generalize hPI : pyIter = PI
        wp_walk
        subst hPI
        refine SR.it _ _ _ _ _ _ hl1 ?_
        refine wpAny_bind (wpAny_runValue ?_)
        have hlS : l < s.heap.objs.size := Heap.lt_size hol
        have hh3 : A.in1.in1.in1.handled = none := by simp [hh]
        have hneI : l ≠ (s.heap.push { cls := .type "set", dict := none, data := .set #[] 0 (.fresh 0 0 led) }).objs.size := by
          rw [Heap.size_push]; exact Nat.ne_of_lt (Nat.lt_succ_of_lt hlS)
        obtain ⟨fp, wr, G, St, W, hfp, hwr, hG, h0⟩ := SR.wk prog w A.in1.in1.in1 (s.heap.push { cls := .type "set", dict := none, data := .set #[] 0 (.fresh 0 0 led) }).objs.size hh3 hneI
        have hSf : s.heap.objs.size ∉ fp := fun z => by
          rcases hfp _ z with q | q
          · rw [Heap.size_push] at q; exact Nat.succ_ne_self _ q.symm
          · exact Nat.ne_of_gt hlS q
        have hsz : xs.length = items.size := by rw [← StrsAre.len_eq hi, Array.length_toList]
        have hval : ∀ (i : Nat) (v : Value), items[i]? = some v → ∃ t, v = .str (xs.getD i Str.empty) t := fun i v hv => SS.strs_at hi i v (by rw [Array.getElem?_toList]; exact hv)
        refine loopTx W s.heap.objs.size hSf xs hsz (by rw [← hsz]; exact hn1) hval (items.size - 0) 0 _ (by omega) (Nat.zero_le _)
          (h0 _ (Heap.get?_push_size _ rfl) (SR.keep _ _ hl1 fun o e => Heap.get?_push_of_some _ e)) ?hS0 ?hR
        case hS0 =>
          have hget : ((s.heap.push { cls := .type "set", dict := none, data := .set #[] 0 (.fresh 0 0 led) }).push { cls := .type IT, data := .fields #[.ref l, .int 0 0] }).get? s.heap.objs.size
              = some { cls := .type "set", dict := none, data := .set #[] 0 (.fresh 0 0 led) } := Heap.get?_push_of_some _ hS
          exact PyProof.Rows.SetOf_congr ((PyProof.Rows.setObjOf_fresh (knd := PySem.strKind prog w) led).setOf hget (by unfold scanBound; omega)) (fun _ => rfl) rfl
        case hR =>
          intro s' hm hS'
          obtain ⟨h', g', d', tk', os'⟩ := s'
          have eg : g' = s.gens := hG _ _ hm.gens
          have ed : d' = s.drawn := hm.drawn
          have eo : os' = s.os := hm.os
          subst eg; subst ed; subst eo
          show wpAny _ _ _ _ _ _
          refine wpAny_pure ?_
          show wpAny _ _ (PySem.ret Value.none) _ _ _
          refine wpAny_pure ⟨rfl, h', tk', rfl, hS', fun b o hb e => ?_⟩
          have hb1 : b ≠ s.heap.objs.size := Nat.ne_of_lt hb
          have hb2 : b ≠ (s.heap.push { cls := .type "set", dict := none, data := .set #[] 0 (.fresh 0 0 led) }).objs.size := by
            rw [Heap.size_push]; exact Nat.ne_of_lt (Nat.lt_succ_of_lt hb)
          refine hm.heap b o (fun z => ?_) (Heap.get?_push_of_some _ (Heap.get?_push_of_some _ e))
          rcases List.mem_cons.mp z with q | q
          · exact hb1 q
          · exact hb2 (hwr b q)
      · cases r₂ with
        | error e => exact hr₂
        | ok fl₂ =>
          cases fl₂ with
          | ret r =>
            obtain ⟨rfl, h', tk, rfl, hS', hk'⟩ := hr₂
            repeat (any_goals (first | assumption | wp_step))
            exact h _ _ hS' hk'
          | _ => exact hr₂.elim
    | _ => exact hr.elim
end
theorem src_list (l : Addr) (items : Array Value) : SetSrc l items "list" "list_iterator" (fun h => h.IsList l items) where
  ob := fun h x => x
  keep := fun h h' x k => x.at k
  s1 := PySem.F.sub_list_set
  s2 := PySem.F.sub_list_frozenset
  nd := by decide
  it := fun prog w A E s Q hl h => wpAny_pyIter_list hl h
  wk := fun prog w A I hh hne => ⟨_, _, _, _, (Walks.list hh I l hne items).toS, fun b hb => by simpa using hb, fun b hb => by simpa using hb, fun _ _ e => e, fun s e hs => ⟨⟨_, e, rfl, rfl⟩, hs⟩⟩
theorem src_tup (l : Addr) (items : Array Value) : SetSrc l items "tuple" "tuple_iterator" (fun h => h.IsTuple l items) where
  ob := fun h x => x
  keep := fun h h' x k => x.at k
  s1 := PySem.F.sub_tuple_set
  s2 := PySem.F.sub_tuple_frozenset
  nd := by decide
  it := fun prog w A E s Q hl h => wpAny_pyIter_tuple hl h
  wk := fun prog w A I hh hne => ⟨_, _, _, _, (Walks.tuple hh I l hne items).toS, fun b hb => by simpa using hb, fun b hb => by simpa using hb, fun _ _ e => e, fun s e hs => ⟨⟨_, e, rfl, rfl⟩, hs⟩⟩
def tLenTx (K : PySem.W.Frag) (ta : TE) : TE := fun σ H Q => ta σ H fun x H1 => ∃ l, ∃ xs : List Str, x = .ref l ∧ (SqL K H1 l (xs.map V.str) ∨ SqT K H1 l (xs.map V.str)) ∧ xs.length < 1000 ∧ Q (.int (cntS xs)) H1
section
variable {X : Cx} {g : Gi} {U : XK} {Phi : Nat → List D → M D}
theorem pe_lenTx {a : Expr} {ta : TE} {p p2 q pos : Pos} (hc : X.calm = true) (hg : Gl X "len") (hm : X.mg "len" = none) (hg2 : Gl X "set") (hm2 : X.mg "set" = none) (ha : PE X a ta)
    (na : starEach [a] X.env = (false, eval a X.env) :: starEach [] X.env) : PE X (.Call (.Name "len" p) [.Call (.Name "set" p2) [a] [] q] [] pos) (tLenTx X.K ta) := by
  refine ⟨fun pins s σ H Q I h => ?_⟩
  refine Call_ (ld_blt I hg hm boot_len ?_)
  refine PyProof.Rows.callWith_builtin1 (PyProof.Rows.args_cons ?_ rfl) rfl rfl
  refine Call_ (ld_blt I hg2 hm2 boot_set ?_)
  refine PyProof.Rows.callWith_type1 (PyProof.Rows.args_cons (thn (ha.run pins s σ H _ I h) fun v s1 ⟨x, H1, I1, r1, q1⟩ => PyProof.Rows.args_nil ?_) na) na rfl
  obtain ⟨l, xs, rfl, hq, h1, q1⟩ := q1
  cases r1
  have fin : ∀ (its : List Value), Vals (xs.map V.str) its → ∀ (h' : Heap) (tk : Nat), h'.SetOf (PySem.strKind X.prog X.w) s1.heap.objs.size (fun k' => (xs.take its.toArray.size).any (· == k')) (cntS xs) →
      (∀ b o, b < s1.heap.objs.size → s1.heap.get? b = some o → h'.get? b = some o) →
      wpAny (model X.prog X.w) X.A (spliced (backTo pos (starEach [] X.env))) (fun vs s₂ => wpAny (model X.prog X.w) X.A (call (.builtin "len") (Value.ref s1.heap.objs.size :: vs)) (EP X pins σ Q) X.xe s₂) X.xe { s1 with heap := h', toks := tk } := fun its r h' tk hS hk => by
    refine PyProof.Rows.args_nil ?_
    obtain ⟨o, es, ep, t, ho, hex, hd, _, _, _, hf, hn⟩ := hS
    have I2 : L2.Inv X pins σ H1 { s1 with heap := h', toks := tk } := I1.kept fun b o e => hk b o (Heap.lt_size e) e
    have hle := cntS_le xs
    refine call_len_set ho hex hd hf (by rw [hn] <;> omega) ⟨.int (cntS xs), H1, I2.tok _, ⟨_, by rw [hn]⟩, q1⟩
  rcases hq with hq | hq
  · obtain ⟨its, r, pl, hz⟩ := I1.list hq
    exact call_set_tx (src_list l its.toArray) (I1.ok.hd hc) pl.isList (by simpa using strsAre_of r) h1 fun h' tk hS hk => fin its r h' tk hS hk
  · obtain ⟨its, r, pl, hz⟩ := I1.tuple hq
    exact call_set_tx (src_tup l its.toArray) (I1.ok.hd hc) pl (by simpa using strsAre_of r) h1 fun h' tk hS hk => fin its r h' tk hS hk
theorem se_lenset {e : Expr} {a : E} {p p2 q pos : Pos} (hK : g.K = X.K) (hc : X.calm = true) (hg : Gl X "len") (hm : X.mg "len" = none) (hg2 : Gl X "set") (hm2 : X.mg "set" = none) (he : SE X g U e (a.ev Phi))
    (na : starEach [e] X.env = (false, eval e X.env) :: starEach [] X.env) : SE X g U (.Call (.Name "len" p) [.Call (.Name "set" p2) [e] [] q] [] pos) ((E.op .lenset [a]).ev Phi) :=
  PE.to (pe_lenTx hc hg hm hg2 hm2 he na) fun σ H Q ⟨W, r, h, R, Er, p⟩ => by
    rw [ev_one] at p
    refine ⟨W, r, h, R, Er, Pst.bnd p fun d h1 W1 v H1 e1 x1 R1 r1 p1 => ?_⟩
    replace p1 : Pst g U (Rp g) W1 H1 (pLenset d h1) Q := p1
    unfold pLenset at p1
    split at p1
    case h_2 => exact p1.elim
    rename_i ss hss
    split at p1
    case isFalse => exact p1.elim
    rename_i hl
    obtain ⟨l, hl1, hl2⟩ := Option.bind_eq_some_iff.mp hss
    obtain ⟨aa, vs, rfl, hs, rl⟩ := seq_sq hK R1 r1 hl1
    rw [strs_rps hl2 rl] at hs
    exact ⟨aa, ss, rfl, hs, hl, p1 W1 _ H1 (Ex.refl _ _) R1 (.int _)⟩
/-! ### products -/
def rMulA : R2 := fun x y H Q => rI CMul (fun i j => .int (i * j)) x y H Q ∨ rRep x y H Q
theorem op_mulA : OpR X (binaryOp .Mult) rMulA := by
  intro pins s σ H x y v u Q I rx ry h
  rcases h with h | h
  · exact op_mul pins s σ H x y v u Q I rx ry h
  · exact op_rep pins s σ H x y v u Q I rx ry h
theorem pr_mul (m : Bool) : Prim2 g U rMulA (prim Phi (.mul m)) := by
  intro d e x y W h H Q R r1 r2 p
  replace p : Pst g U (Rp g) W H (mulD m d e h) Q := p
  by_cases hi : ∃ k, e = .int k
  case neg =>
    unfold mulD at p
    cases e with
    | int k => exact absurd ⟨k, rfl⟩ hi
    | _ => cases d <;> exact p.elim
  obtain ⟨k, rfl⟩ := hi
  cases r2
  by_cases hd : ∃ i, d = .int i
  · obtain ⟨i, rfl⟩ := hd
    cases r1
    unfold mulD at p
    dsimp only at p
    split at p
    case isFalse => exact p.elim
    rename_i hb
    left
    refine ⟨i, k, rfl, rfl, ?_, p W _ H (Ex.refl W H) R (.int _)⟩
    simp only [big, Bool.or_eq_true, Bool.and_eq_true, decide_eq_true_eq] at hb
    exact hb
  · have e0 : mulD m d (.int k) h = (match lstT h d with
        | some l => if l.length ≤ 1000 ∧ 0 ≤ k ∧ k ≤ 100 then mkL m (List.replicate k.toNat l).flatten h else .bad
        | none => .bad) := by
      cases d with
      | int i => exact absurd ⟨i, rfl⟩ hd
      | _ => rfl
    rw [e0] at p
    cases hl : lstT h d with
    | none => rw [hl] at p; exact p.elim
    | some l =>
      rw [hl] at p
      dsimp only at p
      split at p
      case isFalse => exact p.elim
      rename_i hb
      obtain ⟨a, vs, rfl, hH, rl⟩ := lstT_sq R r1 hl
      right
      refine ⟨a, k, vs, rfl, rfl, hH, by omega, by omega, ?_, fun q hq => (pst_lst R hq (rl.rep k.toNat) p).2⟩
      rw [← rl.length]
      refine Nat.le_trans (Nat.mul_le_mul hb.1 (show k.toNat ≤ 100 by omega)) (by decide)
theorem se_mul {e1 e2 : Expr} {a b : E} {m : Bool} {pos : Pos} (h1 : SE X g U e1 (a.ev Phi)) (h2 : SE X g U e2 (b.ev Phi)) : SE X g U (.BinOp e1 .Mult e2 pos) ((E.op (.mul m) [a, b]).ev Phi) :=
  se_op2 (fun p q => pe_op op_mulA p q) h1 h2 (pr_mul m)
end
end TS

set_option Elab.async false
set_option linter.all false
set_option maxRecDepth 100000
set_option maxHeartbeats 4000000
/-! TS15b: .get of a written dict of texts to ints. -/
namespace TS
open PySem L2 PySem.Spec PyProof.Rows
def dictB : List DictEntry → List (Str × Int) → Bool
  | [], [] => true
  | e :: es, kv :: kvs => (match e.key, e.val with
    | .str k _, .int i _ => decide (k = kv.1) && decide (i = kv.2)
    | _, _ => false) && dictB es kvs
  | _, _ => false
theorem dictB_find : ∀ {es : List DictEntry} {kvs : List (Str × Int)}, dictB es kvs = true → ∀ k : Str, match kvs.find? fun kv => decide (kv.1 = k) with
    | some kv => ∃ t, (es.find? fun e => Value.isStrOf k e.key).map (·.val) = some (.int kv.2 t)
    | none => (es.find? fun e => Value.isStrOf k e.key).map (·.val) = none
  | [], [], _, k => rfl
  | [], _ :: _, h, _ => by cases h
  | _ :: _, [], h, _ => by cases h
  | e :: es, kv :: kvs, h, k => by
    rw [dictB, Bool.and_eq_true] at h
    obtain ⟨h1, h2⟩ := h
    have ih := dictB_find h2 k
    split at h1
    · rename_i k' t' i t hk hv
      rw [Bool.and_eq_true] at h1
      have e1 := of_decide_eq_true h1.1
      have e2 := of_decide_eq_true h1.2
      have es1 : Value.isStrOf k e.key = decide (kv.1 = k) := by
        rw [hk, e1]
        by_cases q : kv.1 = k
        · rw [decide_eq_true q, ← q]; simp [Value.isStrOf]
        · rw [decide_eq_false q]
          cases z : Value.isStrOf k (.str kv.1 t') with
          | false => rfl
          | true =>
            obtain ⟨u, z2⟩ := Value.isStrOf_shape z
            cases z2
            exact absurd rfl q
      rw [List.find?_cons, List.find?_cons, es1]
      by_cases q : kv.1 = k
      · rw [decide_eq_true q]
        exact ⟨t, by rw [← e2, ← hv]; rfl⟩
      · rw [decide_eq_false q]
        exact ih
    · cases h1
/-- a written dict of texts to ints -/
def DctK (K : PySem.W.Frag) (w : World) (a : Addr) (kvs : List (Str × Int)) : Prop := ∃ es n, K.lookup a = some ⟨.type "dict", none, .dict es n, #[]⟩ ∧ PySem.W.KeysLit w.params es.toList ∧ (a == sysModules) = false ∧ dictB es.toList kvs = true
def rKGet (K : PySem.W.Frag) (w : World) : V → List V → Hp → VK → Prop := fun x xs H Q => ∃ (a : Addr) (kvs : List (Str × Int)) (k : Str) (d : V), x = .ref a ∧ xs = [.str k, d] ∧ DctK K w a kvs ∧ Q (match kvs.find? fun kv => decide (kv.1 = k) with
  | some kv => .int kv.2
  | none => d) H
section
variable {X : Cx} {g : Gi} {U : XK} {Phi : Nat → List D → M D}
theorem mt_kget : MtR X "dict.get" (rKGet X.K X.w) := by
  intro pins s σ H x xs v us Q I rx rxs hh
  obtain ⟨a, kvs, k, d, rfl, rfl, ⟨es, n, hl, hk, low, hb⟩, q⟩ := hh
  obtain rfl : v = Value.ref a := rx
  cases rxs with
  | cons r1 rr =>
    cases rr with
    | cons r2 rr =>
      cases rr
      obtain ⟨t, rfl⟩ := r1
      rename_i dv
      have hm := PySem.W.mapOf_K (prog := X.prog) (w := X.w) I.kIn hl hk
      refine call_meetsIn PySem.F.slot_dict_get hm.typeIs PySem.F.entry_dict_get (PySem.F.args_dict_get_3 _ _ _) (meets_dict_get_default (strKind X.prog X.w) a (strKind_is X.prog X.w k t) low dv) ⟨_, hm, ?_⟩
      have fnd := dictB_find hb k
      have ef : findBy Value.isStrOf es k = (es.toList.find? fun e => Value.isStrOf k e.key).map (·.val) := by
        obtain ⟨l⟩ := es
        simp only [findBy, List.find?_toArray]
      cases e : kvs.find? fun kv => decide (kv.1 = k) with
      | none =>
        rw [e] at fnd q
        refine ⟨d, H, I.tok _, ?_, q⟩
        rw [ef, fnd]
        exact r2
      | some kv =>
        rw [e] at fnd q
        obtain ⟨t2, f2⟩ := fnd
        refine ⟨.int kv.2, H, I.tok _, ?_, q⟩
        rw [ef, f2]
        exact ⟨t2, rfl⟩
theorem se_gget {o e1 e2 : Expr} {a : Addr} {kvs : List (Str × Int)} {x b : E} {apos cpos : Pos} (ho : PE X o (tC (.ref a))) (hD : DctK X.K X.w a kvs) (ha : SA X g U [e1, e2] (E.evs Phi [x, b]))
    (hbase : attributeBase o "get" X.env (eval o X.env) = eval o X.env)
    (hfew : ((backTo cpos (starEach [e1, e2] X.env)).all (fun x => !x.1) && (backToKw cpos (keywordEach [] X.env)).all (fun x => x.1.isSome)
      && decide (([e1, e2] : List Expr).length + ([] : List Keyword).length + (if ([] : List Keyword).isEmpty then 0 else 1) < 30)) = true)
    (hline : (apos.endLine == cpos.line) = true) (hs : starEach [e1, e2] X.env = (false, eval e1 X.env) :: starEach [e2] X.env) (hplain : (backTo cpos (starEach [e2] X.env)).any (·.1) = false) :
    SE X g U (.Call (.Attribute o "get" apos) [e1, e2] [] cpos) ((E.op (.gget kvs) [x, b]).ev Phi) :=
  PE.to (pe_md ho ha hbase hfew hline hs hplain) fun σ H Q ⟨W, r, h, R, Er, p⟩ => by
    rw [E.ev] at p
    refine ⟨fun vs H Q => rKGet X.K X.w (.ref a) vs H Q, ⟨"dict", "dict.get", rKGet X.K X.w, PySem.F.plainAttrs_dict, PySem.F.slot_dict_get, PySem.F.type_dict_get, ?_, mt_kget, fun _ _ _ k => k⟩, W, r, h, R, Er, Pst.bnd p fun ds h1 W1 vs H1 e1 x1 R1 r1 p1 => ?_⟩
    · intro pins σ s v I rv
      obtain rfl : v = Value.ref a := rv
      obtain ⟨es, n, hl, hk, low, hb⟩ := hD
      exact ⟨⟨_, I.kIn _ _ hl, rfl⟩, fun a' e => by cases e; exact ⟨_, I.kIn _ _ hl, rfl⟩⟩
    · cases r1 with
      | nil => exact p1.elim
      | cons ra r1 =>
        cases r1 with
        | nil => exact p1.elim
        | cons rb r1 =>
          cases r1 with
          | cons _ _ => exact p1.elim
          | nil =>
            rename_i d1 v1 d2 v2
            replace p1 : Pst g U (Rp g) W1 H1 (pGget kvs d1 d2 h1) Q := p1
            unfold pGget at p1
            cases d1 with
            | str k =>
              cases ra
              refine ⟨a, kvs, k, v2, rfl, rfl, hD, ?_⟩
              dsimp only at p1
              cases e : kvs.find? fun kv => decide (kv.1 = k) with
              | none =>
                rw [e] at p1
                exact p1 W1 _ H1 (Ex.refl _ _) R1 rb
              | some kv =>
                rw [e] at p1
                exact p1 W1 _ H1 (Ex.refl _ _) R1 (.int _)
            | _ => exact p1.elim
end
end TS

set_option Elab.async false
set_option linter.all false
set_option maxRecDepth 100000
set_option maxHeartbeats 4000000
/-! TS16: a look at a text beside its meaning: expressions. -/
namespace TS
open PySem L2
/-! ### the text's small shapes -/
def isStar : Expr → Bool
  | .Starred _ _ => true
  | _ => false
theorem star_one {e : Expr} (h : isStar e = false) (es : List Expr) (env : PySem.Env) : starEach (e :: es) env = (false, eval e env) :: starEach es env := by
  cases e <;> first | rfl | cases h
def noStars (es : List Expr) : Bool := es.all fun e => !isStar e
theorem noStars_cons {e : Expr} {es : List Expr} (h : noStars (e :: es) = true) : isStar e = false ∧ noStars es = true := by
  unfold noStars at h ⊢
  rw [List.all_cons, Bool.and_eq_true] at h
  exact ⟨by simpa using h.1, h.2⟩
theorem star_any {es : List Expr} (pos : Pos) (env : PySem.Env) (h : noStars es = true) : (backTo pos (starEach es env)).any (·.1) = false := by
  induction es with
  | nil => rfl
  | cons e es ih =>
    obtain ⟨h1, h2⟩ := noStars_cons h
    rw [star_one h1]
    show (false || (backTo pos (starEach es env)).any (·.1)) = false
    rw [ih h2]; rfl
theorem star_all {es : List Expr} (pos : Pos) (env : PySem.Env) (h : noStars es = true) : (backTo pos (starEach es env)).all (fun x => !x.1) = true := by
  induction es with
  | nil => rfl
  | cons e es ih =>
    obtain ⟨h1, h2⟩ := noStars_cons h
    rw [star_one h1]
    show (true && (backTo pos (starEach es env)).all (fun x => !x.1)) = true
    rw [ih h2]; rfl
theorem star_len {es : List Expr} (env : PySem.Env) : (starEach es env).length = es.length := by
  induction es with
  | nil => rfl
  | cons e es ih =>
    cases e <;> (show (starEach es env).length + 1 = es.length + 1; rw [ih])
def isComp : Expr → Bool
  | .ListComp .. => true
  | .SetComp .. => true
  | .DictComp .. => true
  | _ => false
theorem swaps_no {e : Expr} (h : isComp e = false) (t : Option Expr) (l : Nat) (env : PySem.Env) : swapsWith e t l env = pure false := by
  cases e <;> first | rfl | cases h
def ownCall : Expr → Bool
  | .Call _ [] [] _ => true
  | _ => false
theorem base_plain {o : Expr} (h : ownCall o = false) (attr : Str) (env : PySem.Env) (w : Sem Value) : attributeBase o attr env w = w := by
  cases o with
  | Call f args kws pos =>
    cases args with
    | nil =>
      cases kws with
      | nil => cases h
      | cons _ _ =>
        cases f <;> rfl
    | cons _ _ => cases f <;> rfl
  | _ => rfl
def isSlice : Expr → Bool
  | .Slice .. => true
  | _ => false
theorem ix_plain {e : Expr} (h : isSlice e = false) : PlainIx e := by
  intro o i
  cases e <;> first | rfl | cases h
def isSetD : Expr → Bool
  | .Set .. => true
  | _ => false
theorem folded_no {e : Expr} (h : isSetD e = false) (env : PySem.Env) (x : Value) : foldedSetIterable e env x = pure x := by
  cases e <;> first | rfl | cases h
theorem marks_no {e : Expr} (h : isSetD e = false) (op : CmpOp) : behindInMarks op e = false := by
  cases e <;> first | rfl | cases h
def isTestish : Expr → Bool
  | .UnaryOp .Not _ _ => true
  | .BoolOp .. => true
  | .IfExp .. => true
  | .Compare .. => true
  | _ => false
theorem isTrue_plain {e : Expr} (h : isTestish e = false) (env : PySem.Env) (whole : Sem Value) : isTrue e env whole = (do let v ← whole; standAt e.pos; holding [v] (truthy v)) := by
  cases e with
  | UnaryOp op x pos => cases op <;> first | rfl | cases h
  | BoolOp => cases h
  | IfExp => cases h
  | Compare => cases h
  | _ => rfl

/-! ### the context -/
inductive GK where | fn (n : Nat) | cst (d : D) | dict (kvs : List (Str × Int))
structure CC where
  N : List Str
  sc : Scope
  fn : Str → Bool
  gl : List (Str × GK)
  bi : List Str
def CC.blk (cc : CC) (scope : Scope) : CC := { cc with sc := relS scope cc.sc, fn := fun x => scope.names.lookup x == some .cell }
/-- what a call of the function n promises -/
def spD (g : Gi) (Phi : Nat → List D → M D) (np : Nat) (n : Nat) : Sp := fun vs H Q _ => vs.length = np ∧ ∃ W h ds, HR g W h H ∧ Rps g W H ds vs ∧ Pst g UF (Rp g) W H (Phi n ds h) Q
structure FnAt (P : Program) (w : World) (K : PySem.W.Frag) (mg : Str → Option Value) (base : Heap) (g : Gi) (Phi : Nat → List D → M D) (k : Nat) (n : Nat) (f : Addr) : Prop where
  ok : ∃ fd ps, FnOk P w K mg base CX0 k f fd ps (spD g Phi ps.length n) ∧ Binds K fd ps [] ∧ (∀ ds h, ds.length ≠ ps.length → Phi n ds h = .bad)
  kp : PySem.W.keepIn K (.ref f) = true
structure GE (P : Program) (w : World) (K : PySem.W.Frag) (mg : Str → Option Value) (base : Heap) (g : Gi) (Phi : Nat → List D → M D) (k : Nat) (gl : List (Str × GK)) (bi : List Str) : Prop where
  fns : ∀ x n, gl.lookup x = some (.fn n) → ∃ f, mg x = some (.ref f) ∧ g.fa n = some f ∧ FnAt P w K mg base g Phi k n f
  csts : ∀ x d, gl.lookup x = some (.cst d) → ∃ v u, mg x = some u ∧ RelV v u ∧ ∀ W H, Rp g W H d v
  dcts : ∀ x kvs, gl.lookup x = some (.dict kvs) → ∃ a, mg x = some (.ref a) ∧ DctK K w a kvs
  bis : ∀ x, x ∈ bi → mg x = none
structure Good (g : Gi) (Phi : Nat → List D → M D) (k : Nat) (X : Cx) (cc : CC) : Prop where
  sc : X.env.scope = cc.sc
  fn : X.fn = cc.fn
  N : X.N = cc.N
  nd : X.N.Nodup
  calm : X.calm = true
  hK : g.K = X.K
  xe : X.xe = fun _ _ => False
  room : Room k X.A
  ge : GE X.prog X.w X.K X.mg X.base g Phi k cc.gl cc.bi
section
variable {X : Cx} {g : Gi} {Phi : Nat → List D → M D} {k : Nat} {cc : CC}
theorem Good.hu (G : Good g Phi k X cc) : X.A.units + 64 < cLine := by
  have := G.room.un
  omega
theorem Good.hu1 (G : Good g Phi k X cc) : X.A.units + 1 < cLine := by
  have := G.room.un
  omega
theorem Good.blk (G : Good g Phi k X cc) (s : Shared) (H : Hp) (scope : Scope) (C : Addr) (cl : List (Str × Addr)) (fp : List Addr) : Good g Phi k (X.blk s H scope (compEnvC scope cl C X.env) fp) (cc.blk scope) where
  sc := by
    show relS scope X.env.scope = relS scope cc.sc
    rw [G.sc]
  fn := rfl
  N := G.N
  nd := G.nd
  calm := G.calm
  hK := G.hK
  xe := rfl
  room := G.room
  ge := G.ge
def visB (cc : CC) (x : Str) : Bool := match cc.sc.names.lookup x with
  | some .local => true
  | some .cell => true
  | some .free => true
  | _ => false
def locB (cc : CC) (x : Str) : Bool := match cc.sc.names.lookup x with
  | some .local => true
  | some .cell => cc.fn x
  | _ => false
def glB (cc : CC) (x : Str) : Bool := decide (cc.sc.names.lookup x = some .globalImplicit)
def plainN (x : Str) : Bool := decide (x ≠ "__debug__") && decide (x ≠ "__classdict__") && decide (x ≠ "__name__")
theorem plainN_d {x : Str} (h : plainN x = true) : (x == ("__debug__" : Str)) = false := by
  simp only [plainN, Bool.and_eq_true, decide_eq_true_eq] at h
  exact beq_eq_false_iff_ne.mpr h.1.1
theorem plainN_c {x : Str} (h : plainN x = true) : (x == ("__classdict__" : Str)) = false := by
  simp only [plainN, Bool.and_eq_true, decide_eq_true_eq] at h
  exact beq_eq_false_iff_ne.mpr h.1.2
theorem plainN_n {x : Str} (h : plainN x = true) : x ≠ "__name__" := by
  simp only [plainN, Bool.and_eq_true, decide_eq_true_eq] at h
  exact h.2
theorem Good.vis (G : Good g Phi k X cc) {x : Str} (h : visB cc x = true) : Vis X.env.scope x := by
  unfold visB at h
  unfold Vis
  rw [G.sc]
  split at h
  · rename_i q; exact .inl q
  · rename_i q; exact .inr (.inl q)
  · rename_i q; exact .inr (.inr q)
  · cases h
theorem Good.loc (G : Good g Phi k X cc) {x : Str} (h : locB cc x = true) : L2.Loc X.env.scope x ∧ (X.fn x = true ∨ X.env.scope.names.lookup x = some .local) := by
  unfold locB at h
  unfold L2.Loc
  rw [G.sc, G.fn]
  split at h
  · rename_i q; exact ⟨.inl q, .inr q⟩
  · rename_i q; exact ⟨.inr q, .inl h⟩
  · cases h
theorem Good.gl (G : Good g Phi k X cc) {x : Str} (h : glB cc x = true) : Gl X x := by
  unfold glB at h
  show X.env.scope.names.lookup x = some .globalImplicit
  rw [G.sc]
  exact of_decide_eq_true h
theorem Good.bi (G : Good g Phi k X cc) {x : Str} (h : cc.bi.contains x = true) : X.mg x = none := G.ge.bis x (by simpa using h)

/-! ### the checks -/
abbrev Ck := CC → Expr → E → Bool
def OkE (g : Gi) (Phi : Nat → List D → M D) (k : Nat) (c : Ck) : Prop := ∀ cc e a, c cc e a = true → ∀ X, Good g Phi k X cc → SE X g UF e (a.ev Phi)
def OkT (g : Gi) (Phi : Nat → List D → M D) (k : Nat) (c : Ck) : Prop := ∀ cc e a, c cc e a = true → ∀ X, Good g Phi k X cc → ST X g UF e (a.ev Phi)
def all2 (c : Expr → E → Bool) : List Expr → List E → Bool
  | [], [] => true
  | e :: es, a :: as => c e a && all2 c es as
  | _, _ => false
theorem OkE.sa {c : Ck} (h : OkE g Phi k c) (G : Good g Phi k X cc) : ∀ {es : List Expr} {as : List E}, all2 (c cc) es as = true → noStars es = true → SA X g UF es (E.evs Phi as)
  | [], [], _, _ => sa_nil
  | [], _ :: _, q, _ => by cases q
  | _ :: _, [], q, _ => by cases q
  | e :: es, a :: as, q, n => by
    simp only [all2, Bool.and_eq_true] at q
    obtain ⟨n1, n2⟩ := noStars_cons n
    exact sa_cons (h cc e a q.1 X G) (OkE.sa h G q.2 n2) (star_one n1 es X.env)
def cBad (a : E) : Bool := match a with
  | .op .callv [] => true
  | _ => false
theorem se_bad {e : Expr} {a : E} (h : cBad a = true) : SE X g UF e (a.ev Phi) := by
  unfold cBad at h
  split at h
  · exact ⟨fun pins s σ H Q I ⟨W, r, hh, R, Er, p⟩ => p.elim⟩
  · cases h
theorem st_bad {e : Expr} {a : E} (h : cBad a = true) : ST X g UF e (a.ev Phi) := by
  unfold cBad at h
  split at h
  · exact ⟨fun pins s σ H Q I ⟨W, r, hh, R, Er, p, _⟩ => p.elim⟩
  · cases h
def cFrz (c : Ck) : Ck := fun cc e a => match a with
  | .op .frz [b] => c cc e b
  | _ => false
theorem okFrz {c : Ck} (h : OkE g Phi k c) : OkE g Phi k (cFrz c) := by
  intro cc e a q X G
  unfold cFrz at q
  split at q
  case h_2 => cases q
  rename_i b
  refine PE.to (h cc e b q X G) fun σ H Q ⟨W, r, hh, R, Er, p⟩ => ?_
  rw [ev_one] at p
  refine ⟨W, r, hh, R, Er, Pst.bnd p fun d h1 W1 v H1 e1 x1 R1 r1 p1 => ?_⟩
  replace p1 : Pst g UF (Rp g) W1 H1 (pFrz d h1) Q := p1
  unfold pFrz onList at p1
  cases d with
  | ref n =>
    dsimp only at p1
    cases q2 : h1[n]? with
    | none => rw [q2] at p1; exact p1.elim
    | some cl =>
      rw [q2] at p1
      cases cl with
      | lst l =>
        obtain ⟨aa, vs, rfl, hph, hH, rl⟩ := ref_lst R1 r1 q2
        obtain ⟨hr, ex⟩ := hr_kill R1 hph q2
        exact p1 _ _ H1 ex hr (.lst (.inr rfl) hH (rl.mono ex))
      | _ => exact p1.elim
  | _ => exact p1.elim
def cName : Ck := fun cc e a => match e, a with
  | .Name x _, .var i => decide (cc.N[i]? = some x) && visB cc x && plainN x
  | _, _ => false
theorem okName : OkE g Phi k cName := by
  intro cc e a q X G
  unfold cName at q
  split at q
  case h_2 => cases q
  simp only [Bool.and_eq_true, decide_eq_true_eq] at q
  exact se_var (by rw [G.N]; exact q.1.1) (G.vis q.1.2) (plainN_d q.2) (plainN_c q.2)
def cGlob : Ck := fun cc e a => match e, a with
  | .Name x _, .cst d => glB cc x && plainN x && (match cc.gl.lookup x with
    | some (.cst d') => decide (d = d')
    | some (.fn n) => decide (d = .gl n)
    | _ => false)
  | _, _ => false
theorem okGlob : OkE g Phi k cGlob := by
  intro cc e a q X G
  unfold cGlob at q
  split at q
  case h_2 => cases q
  simp only [Bool.and_eq_true] at q
  obtain ⟨⟨q1, q2⟩, q3⟩ := q
  split at q3
  · rename_i d' hl
    have e0 := of_decide_eq_true q3
    subst e0
    obtain ⟨v, u, hm, rv, hr⟩ := G.ge.csts _ _ hl
    exact se_c (pe_glob (G.gl q1) hm rv (plainN_d q2)) hr
  · rename_i n hl
    have e0 := of_decide_eq_true q3
    subst e0
    obtain ⟨f, hm, hf, _⟩ := G.ge.fns _ _ hl
    exact se_c (pe_glob (v := .ref f) (G.gl q1) hm rfl (plainN_d q2)) fun W H => .gl hf
  · cases q3
def cConst : Ck := fun cc e a => match e, a with
  | .Constant (.int i) _ _, .cst (.int j) => decide (i = j)
  | .Constant (.str i) _ _, .cst (.str j) => decide (i = j)
  | .Constant (.bool i) _ _, .cst (.bl j) => decide (i = j)
  | .Constant .none _ _, .cst .non => true
  | _, _ => false
theorem okConst : OkE g Phi k cConst := by
  intro cc e a q X G
  unfold cConst at q
  split at q
  · have e0 := of_decide_eq_true q; subst e0; exact se_c pe_int fun _ _ => .int _
  · have e0 := of_decide_eq_true q; subst e0; exact se_c pe_str fun _ _ => .str _
  · have e0 := of_decide_eq_true q; subst e0; exact se_c pe_bl fun _ _ => .bl _
  · exact se_c pe_non fun _ _ => .non
  · cases q
def cSeq (c : Ck) : Ck := fun cc e a => match e, a with
  | .Tuple es _ _, .op .tup as => noStars es && all2 (c cc) es as
  | .List es _, .op (.lst _) as => noStars es && all2 (c cc) es as
  | _, _ => false
theorem okSeq {c : Ck} (h : OkE g Phi k c) : OkE g Phi k (cSeq c) := by
  intro cc e a q X G
  unfold cSeq at q
  split at q
  · rw [Bool.and_eq_true] at q; exact se_tup (h.sa G q.2 q.1)
  · rw [Bool.and_eq_true] at q; exact se_lst (h.sa G q.2 q.1)
  · cases q
def cBin (c : Ck) : Ck := fun cc e a => match e, a with
  | .BinOp e1 op e2 _, .op o [x, y] => (match op, o with
    | .Add, .add _ => true
    | .Sub, .sub => true
    | .Mult, .mul _ => true
    | .Mod, .mod => true
    | .Pow, .pow => true
    | _, _ => false) && c cc e1 x && c cc e2 y
  | .UnaryOp .USub e1 _, .op .neg [x] => c cc e1 x
  | .UnaryOp .Not e1 _, .op .not [x] => c cc e1 x
  | _, _ => false
theorem okBin {c : Ck} (h : OkE g Phi k c) : OkE g Phi k (cBin c) := by
  intro cc e a q X G
  unfold cBin at q
  split at q
  · rename_i e1 op e2 p o x y
    simp only [Bool.and_eq_true] at q
    obtain ⟨⟨q1, q2⟩, q3⟩ := q
    have s1 := h cc e1 x q2 X G
    have s2 := h cc e2 y q3 X G
    split at q1
    · exact se_add G.hK s1 s2
    · exact se_sub s1 s2
    · exact se_mul s1 s2
    · exact se_mod s1 s2
    · exact se_pow s1 s2
    · cases q1
  · exact se_neg (h cc _ _ q X G)
  · exact se_not (h cc _ _ q X G)
  · cases q
def opIs : Op → Op → Bool
  | .eq, .eq => true
  | .ne, .ne => true
  | .lt, .lt => true
  | .le, .le => true
  | .gt, .gt => true
  | .ge, .ge => true
  | .inn, .inn => true
  | .nin, .nin => true
  | _, _ => false
theorem opIs_eq {a b : Op} (h : opIs a b = true) : a = b := by
  unfold opIs at h
  split at h <;> first | rfl | cases h
def cmpB (op : CmpOp) (o : Op) : Bool := match cmpOp op with
  | some o' => opIs o' o
  | none => false
def cCmp (c : Ck) : Ck := fun cc e a => match e, a with
  | .Compare e1 [op] [e2] _, .op o [x, y] => cmpB op o && !isSetD e2 && c cc e1 x && c cc e2 y
  | .Compare e1 [.Is] [.Constant .none _ _] _, .op .isN [x] => c cc e1 x
  | .Compare e1 [.IsNot] [.Constant .none _ _] _, .op .isnN [x] => c cc e1 x
  | .Compare e1 [.LtE, .LtE] [e2, e3] _, .chain x y z => c cc e1 x && c cc e2 y && c cc e3 z
  | _, _ => false
theorem cmpB_eq {op : CmpOp} {o : Op} (h : cmpB op o = true) : cmpOp op = some o := by
  unfold cmpB at h
  split at h
  · rename_i o' q
    rw [q, opIs_eq h]
  · cases h
theorem okCmp {c : Ck} (h : OkE g Phi k c) : OkE g Phi k (cCmp c) := by
  intro cc e a q X G
  unfold cCmp at q
  split at q
  · simp only [Bool.and_eq_true, Bool.not_eq_true'] at q
    obtain ⟨⟨⟨q0, q1⟩, q2⟩, q3⟩ := q
    obtain ⟨r, ck⟩ := cmp_ok (X := X) (g := g) (U := UF) (Phi := Phi) G.hK G.hu (cmpB_eq q0)
    exact ck.se (marks_no q1 _) (h cc _ _ q2 X G) (h cc _ _ q3 X G)
  · exact se_isN (h cc _ _ q X G)
  · exact se_isnN (h cc _ _ q X G)
  · simp only [Bool.and_eq_true] at q
    exact se_chain (h cc _ _ q.1.1 X G) (h cc _ _ q.1.2 X G) (h cc _ _ q.2 X G)
  · cases q
theorem okCmpT {c : Ck} (h : OkE g Phi k c) : OkT g Phi k (cCmp c) := by
  intro cc e a q X G
  unfold cCmp at q
  split at q
  · simp only [Bool.and_eq_true, Bool.not_eq_true'] at q
    obtain ⟨⟨⟨q0, q1⟩, q2⟩, q3⟩ := q
    obtain ⟨r, ck⟩ := cmp_ok (X := X) (g := g) (U := UF) (Phi := Phi) G.hK G.hu (cmpB_eq q0)
    exact ck.st (marks_no q1 _) (h cc _ _ q2 X G) (h cc _ _ q3 X G)
  · exact st_isN (h cc _ _ q X G)
  · exact st_isnN (h cc _ _ q X G)
  · simp only [Bool.and_eq_true] at q
    exact st_chain (h cc _ _ q.1.1 X G) (h cc _ _ q.1.2 X G) (h cc _ _ q.2 X G)
  · cases q
def cIfe (c t : Ck) : Ck := fun cc e a => match e, a with
  | .IfExp e1 e2 e3 _, .ife x y z => t cc e1 x && c cc e2 y && c cc e3 z
  | _, _ => false
theorem okIfe {c t : Ck} (h : OkE g Phi k c) (ht : OkT g Phi k t) : OkE g Phi k (cIfe c t) := by
  intro cc e a q X G
  unfold cIfe at q
  split at q
  · simp only [Bool.and_eq_true] at q
    exact st_ifT (ht cc _ _ q.1.1 X G) (h cc _ _ q.1.2 X G) (h cc _ _ q.2 X G)
  · cases q
def cBoo (c : Ck) : Ck := fun cc e a => match e, a with
  | .BoolOp .And (e1 :: e2 :: es) p, .and x y => c cc e1 x && c cc (.BoolOp .And (e2 :: es) p) y
  | .BoolOp .Or (e1 :: e2 :: es) p, .or x y => c cc e1 x && c cc (.BoolOp .Or (e2 :: es) p) y
  | .BoolOp _ [e1] _, x => c cc e1 x
  | _, _ => false
theorem okBoo {c : Ck} (h : OkE g Phi k c) : OkE g Phi k (cBoo c) := by
  intro cc e a q X G
  unfold cBoo at q
  split at q
  · rw [Bool.and_eq_true] at q; exact se_and G.hK (h cc _ _ q.1 X G) (h cc _ _ q.2 X G)
  · rw [Bool.and_eq_true] at q; exact se_or G.hK (h cc _ _ q.1 X G) (h cc _ _ q.2 X G)
  · exact se_one (h cc _ _ q X G)
  · cases q
def cIx (c : Ck) : Ck := fun cc e a => match e, a with
  | .Subscript e1 (.Slice none none none _) _, .op (.sl false false) [x] => c cc e1 x
  | .Subscript e1 (.Slice (some e2) none none _) _, .op (.sl true false) [x, y] => c cc e1 x && c cc e2 y
  | .Subscript e1 (.Slice none (some e2) none _) _, .op (.sl false true) [x, y] => c cc e1 x && c cc e2 y
  | .Subscript e1 (.Slice (some e2) (some e3) none _) _, .sl2 x y z => c cc e1 x && c cc e2 y && c cc e3 z
  | .Subscript e1 e2 _, .op .ix [x, y] => !isSlice e2 && c cc e1 x && c cc e2 y
  | _, _ => false
theorem okIx {c : Ck} (h : OkE g Phi k c) : OkE g Phi k (cIx c) := by
  intro cc e a q X G
  unfold cIx at q
  split at q
  · exact se_sl00 G.hK (h cc _ _ q X G)
  · rw [Bool.and_eq_true] at q; exact se_sl10 G.hK (h cc _ _ q.1 X G) (h cc _ _ q.2 X G)
  · rw [Bool.and_eq_true] at q; exact se_sl01 G.hK (h cc _ _ q.1 X G) (h cc _ _ q.2 X G)
  · simp only [Bool.and_eq_true] at q; exact se_sl11 G.hK (h cc _ _ q.1.1 X G) (h cc _ _ q.1.2 X G) (h cc _ _ q.2 X G)
  · simp only [Bool.and_eq_true, Bool.not_eq_true'] at q
    exact se_ix G.hK G.hu1 (ix_plain q.1.1) (h cc _ _ q.1.2 X G) (h cc _ _ q.2 X G)
  · cases q
/-! ### methods -/
def mtB (o : Op) (name : Str) : Bool := match o with
  | .index => decide (name = "index")
  | .count => decide (name = "count")
  | .append => decide (name = "append")
  | .extend => decide (name = "extend")
  | .pop0 => decide (name = "pop")
  | .pop1 => decide (name = "pop")
  | .insert => decide (name = "insert")
  | .remove => decide (name = "remove")
  | .strip => decide (name = "strip")
  | _ => false
theorem mtB_ok (G : Good g Phi k X cc) {o : Op} {name : Str} (h : mtB o name = true) : MtOk X g UF Phi o name := by
  unfold mtB at h
  split at h
  · rw [of_decide_eq_true h]; exact mk_index G.hK G.hu
  · rw [of_decide_eq_true h]; exact mk_count G.hK G.hu
  · rw [of_decide_eq_true h]; exact mk_append
  · rw [of_decide_eq_true h]; exact mk_extend
  · rw [of_decide_eq_true h]; exact mk_pop0
  · rw [of_decide_eq_true h]; exact mk_pop1
  · rw [of_decide_eq_true h]; exact mk_insert
  · rw [of_decide_eq_true h]; exact mk_remove G.hK G.hu
  · rw [of_decide_eq_true h]; exact mk_strip
  · cases h
def cMth (c : Ck) : Ck := fun cc e a => match e, a with
  | .Call (.Attribute o name ap) [] [] cp, .mth op x [] => mtB op name && !ownCall o && (ap.endLine == cp.line) && c cc o x
  | .Call (.Attribute o name ap) (e :: es) [] cp, .mth op x as => mtB op name && !ownCall o && (ap.endLine == cp.line) && decide (es.length < 20) && noStars (e :: es) && c cc o x && all2 (c cc) (e :: es) as
  | _, _ => false
theorem okMth {c : Ck} (h : OkE g Phi k c) : OkE g Phi k (cMth c) := by
  intro cc e a q X G
  unfold cMth at q
  split at q
  · simp only [Bool.and_eq_true, Bool.not_eq_true'] at q
    obtain ⟨⟨⟨q1, q2⟩, q3⟩, q4⟩ := q
    exact se_mth0 (h cc _ _ q4 X G) (mtB_ok G q1) (base_plain q2 _ _ _) q3
  · simp only [Bool.and_eq_true, Bool.not_eq_true', decide_eq_true_eq] at q
    obtain ⟨⟨⟨⟨⟨⟨q1, q2⟩, q3⟩, q4⟩, q5⟩, q6⟩, q7⟩ := q
    obtain ⟨n1, n2⟩ := noStars_cons q5
    refine se_mth (h cc _ _ q6 X G) (h.sa G q7 q5) (mtB_ok G q1) (base_plain q2 _ _ _) ?_ q3 (star_one n1 _ _) (star_any _ _ n2)
    rw [star_all _ _ q5]
    show (true && true && decide _) = true
    simp only [Bool.true_and, decide_eq_true_eq, List.length_cons, List.length_nil, List.isEmpty_nil, if_true]
    omega
  · cases q
/-! ### calls -/
def bltB (x : Str) (o : Op) : Bool := match o with
  | .len => decide (x = "len")
  | .all => decide (x = "all")
  | .any => decide (x = "any")
  | .tuple => decide (x = "tuple")
  | .list _ => decide (x = "list")
  | .toInt => decide (x = "int")
  | _ => false
def cBlt (c : Ck) : Ck := fun cc e a => match e, a with
  | .Call (.Name x _) (e :: es) [] _, .op o as => bltB x o && glB cc x && cc.bi.contains x && noStars (e :: es) && all2 (c cc) (e :: es) as
  | _, _ => false
theorem okBlt {c : Ck} (h : OkE g Phi k c) : OkE g Phi k (cBlt c) := by
  intro cc e a q X G
  unfold cBlt at q
  split at q
  case h_2 => cases q
  simp only [Bool.and_eq_true] at q
  obtain ⟨⟨⟨⟨q1, q2⟩, q3⟩, q4⟩, q5⟩ := q
  obtain ⟨n1, n2⟩ := noStars_cons q4
  have sa := h.sa G q5 q4
  have hs := star_one n1 (env := X.env)
  have hp := fun pos => star_any pos X.env n2
  have gl := G.gl q2
  have bi := G.bi q3
  unfold bltB at q1
  split at q1
  · have e0 := of_decide_eq_true q1; subst e0
    exact se_callB (r := rLenA X.K) call_len gl bi (by decide +kernel) sa (pr_len G.hK) (by decide) (by decide) (hs _) (hp _)
  · have e0 := of_decide_eq_true q1; subst e0
    exact se_callB (cr_all G.calm) gl bi (by decide +kernel) sa (pr_all G.hK) (by decide) (by decide) (hs _) (hp _)
  · have e0 := of_decide_eq_true q1; subst e0
    exact se_callB (cr_any G.calm) gl bi (by decide +kernel) sa (pr_any G.hK) (by decide) (by decide) (hs _) (hp _)
  · have e0 := of_decide_eq_true q1; subst e0
    exact se_callTy call_tupF gl bi (by decide +kernel) sa (pr_tuple G.hK) (by decide) (by decide) (hs _) (hp _)
  · have e0 := of_decide_eq_true q1; subst e0
    exact se_callTy (r := rListA X.K) call_list_of gl bi (by decide +kernel) sa (pr_list G.hK _) (by decide) (by decide) (hs _) (hp _)
  · have e0 := of_decide_eq_true q1; subst e0
    exact se_callTy (r := rIntA) call_int1 gl bi (by decide +kernel) sa pr_int (by decide) (by decide) (hs _) (hp _)
  · cases q1
def tyOfN (y : Str) (t : Ty) : Bool := match t with
  | .tInt => decide (y = "int")
  | .tStr => decide (y = "str")
  | .tBool => decide (y = "bool")
  | .tTup => decide (y = "tuple")
  | .tLst => decide (y = "list")
def cIsi (c : Ck) : Ck := fun cc e a => match e, a with
  | .Call (.Name x _) [e1, .Name y _] [] _, .op (.isi t) [b] => decide (x = "isinstance") && glB cc x && cc.bi.contains x && tyOfN y t && glB cc y && cc.bi.contains y && !isStar e1 && c cc e1 b
  | _, _ => false
theorem okIsi {c : Ck} (h : OkE g Phi k c) : OkE g Phi k (cIsi c) := by
  intro cc e a q X G
  unfold cIsi at q
  split at q
  case h_2 => cases q
  rename_i y _ _ t b
  simp only [Bool.and_eq_true, Bool.not_eq_true'] at q
  obtain ⟨⟨⟨⟨⟨⟨⟨q1, q2⟩, q3⟩, q4⟩, q5⟩, q6⟩, q7⟩, q8⟩ := q
  have e0 := of_decide_eq_true q1
  subst e0
  have hy : bootBuiltins y = some (.type (tyName t)) ∧ y ≠ "__name__" ∧ (y == ("__debug__" : Str)) = false := by
    unfold tyOfN at q4
    split at q4 <;> (rw [of_decide_eq_true q4]; exact ⟨by decide +kernel, by decide, by decide⟩)
  exact se_isi G.hK (h cc _ _ q8 X G) (G.gl q2) (G.bi q3) (G.gl q5) (G.bi q6) hy.1 hy.2.1 hy.2.2 fun es => star_one q7 es X.env
def kvsB : List (Str × Int) → List (Str × Int) → Bool
  | [], [] => true
  | a :: l, b :: m => decide (a.1 = b.1) && decide (a.2 = b.2) && kvsB l m
  | _, _ => false
theorem kvsB_eq : ∀ {l m : List (Str × Int)}, kvsB l m = true → l = m
  | [], [], _ => rfl
  | [], _ :: _, h => by cases h
  | _ :: _, [], h => by cases h
  | (a1, a2) :: l, (b1, b2) :: m, h => by
    simp only [kvsB, Bool.and_eq_true, decide_eq_true_eq] at h
    rw [h.1.1, h.1.2, kvsB_eq h.2]
def cGget (c : Ck) : Ck := fun cc e a => match e, a with
  | .Call (.Attribute (.Name x _) name ap) [e1, e2] [] cp, .op (.gget kvs) [b, d] => decide (name = "get") && glB cc x && plainN x && (match cc.gl.lookup x with
    | some (.dict kvs') => kvsB kvs kvs'
    | _ => false) && (ap.endLine == cp.line) && !isStar e1 && !isStar e2 && c cc e1 b && c cc e2 d
  | _, _ => false
theorem okGget {c : Ck} (h : OkE g Phi k c) : OkE g Phi k (cGget c) := by
  intro cc e a q X G
  unfold cGget at q
  split at q
  case h_2 => cases q
  rename_i x px name ap e1 e2 cp kvs b d
  simp only [Bool.and_eq_true, Bool.not_eq_true'] at q
  obtain ⟨⟨⟨⟨⟨⟨⟨⟨q0, q1⟩, q2⟩, q3⟩, q4⟩, q5⟩, q6⟩, q7⟩, q8⟩ := q
  have e0 := of_decide_eq_true q0
  subst e0
  split at q3
  case h_2 => cases q3
  rename_i kvs' hl
  have ek := kvsB_eq q3
  subst ek
  obtain ⟨ad, hm, hD⟩ := G.ge.dcts _ _ hl
  have n2 : noStars [e1, e2] = true := by simp only [noStars, List.all_cons, List.all_nil, q5, q6, Bool.not_false, Bool.and_self]
  refine se_gget (pe_glob (v := .ref ad) (G.gl q1) hm rfl (plainN_d q2)) hD (sa_cons (h cc _ _ q7 X G) (sa_cons (h cc _ _ q8 X G) sa_nil (star_one q6 [] _)) (star_one q5 _ _)) (base_plain rfl _ _ _) ?_ q4 (star_one q5 _ _) (star_any _ _ (by simp only [noStars, List.all_cons, List.all_nil, q6, Bool.not_false, Bool.and_self]))
  rw [star_all _ _ n2]
  rfl
def cLset (c : Ck) : Ck := fun cc e a => match e, a with
  | .Call (.Name x _) [.Call (.Name y _) [e1] [] _] [] _, .op .lenset [b] => decide (x = "len") && decide (y = "set") && glB cc x && cc.bi.contains x && glB cc y && cc.bi.contains y && !isStar e1 && c cc e1 b
  | _, _ => false
theorem okLset {c : Ck} (h : OkE g Phi k c) : OkE g Phi k (cLset c) := by
  intro cc e a q X G
  unfold cLset at q
  split at q
  case h_2 => cases q
  simp only [Bool.and_eq_true, Bool.not_eq_true'] at q
  obtain ⟨⟨⟨⟨⟨⟨⟨q1, q2⟩, q3⟩, q4⟩, q5⟩, q6⟩, q7⟩, q8⟩ := q
  have e0 := of_decide_eq_true q1
  have e1 := of_decide_eq_true q2
  subst e0 e1
  exact se_lenset G.hK G.calm (G.gl q3) (G.bi q4) (G.gl q5) (G.bi q6) (h cc _ _ q8 X G) (star_one q7 [] X.env)
/-- a def of the text is called -/
def cFn (c : Ck) : Ck := fun cc e a => match e, a with
  | .Call (.Name x _) (e1 :: es) [] _, .op (.call n) as => (match cc.gl.lookup x with
    | some (.fn m) => decide (n = m)
    | _ => false) && glB cc x && plainN x && noStars (e1 :: es) && all2 (c cc) (e1 :: es) as
  | _, _ => false
theorem okFn {c : Ck} (h : OkE g Phi k c) : OkE g Phi k (cFn c) := by
  intro cc e a q X G
  unfold cFn at q
  split at q
  case h_2 => cases q
  simp only [Bool.and_eq_true] at q
  obtain ⟨⟨⟨⟨q1, q2⟩, q3⟩, q4⟩, q5⟩ := q
  split at q1
  case h_2 => cases q1
  rename_i m hl
  have e0 := of_decide_eq_true q1
  subst e0
  obtain ⟨f, hm, hf, F⟩ := G.ge.fns _ _ hl
  obtain ⟨fd, ps, F1, F2, F3⟩ := F.ok
  obtain ⟨n1, n2⟩ := noStars_cons q4
  refine PE.to (pe_call F1 G.room (G.gl q2) hm F.kp F2 .nil pass0 (h.sa G q5 q4) (plainN_d q3) (star_one n1 _ _) (star_any _ _ n2)) fun σ H Q ⟨W, r, hh, R, Er, p⟩ => ?_
  rw [E.ev] at p
  refine ⟨W, r, hh, R, Er, Pst.bnd p fun ds h1 W1 vs H1 e1 x1 R1 r1 p1 => ?_⟩
  replace p1 : Pst g UF (Rp g) W1 H1 (Phi _ ds h1) Q := p1
  rw [List.append_nil]
  refine ⟨?_, W1, h1, ds, R1, r1, p1⟩
  rw [← r1.length]
  by_cases hl : ds.length = ps.length
  · exact hl
  · rw [F3 ds h1 hl] at p1
    exact p1.elim
/-! ### what is walked -/
def cTg (cc : CC) : Expr → Tg → Bool
  | .Name x _, .one i => decide (cc.N[i]? = some x) && locB cc x
  | .Tuple es _ _, .many l => go es l
  | _, _ => false
where go : List Expr → List Nat → Bool
  | [], [] => true
  | .Name x _ :: es, i :: l => decide (cc.N[i]? = some x) && locB cc x && go es l
  | _, _ => false
theorem tg_len {es : List Expr} {l : List Nat} (h : cTg.go cc es l = true) (env : PySem.Env) : (assignEach es env).length = l.length ∧ (assignEach es env).findIdx? (·.1) = none := by
  induction es generalizing l with
  | nil => cases l with
    | nil => exact ⟨rfl, rfl⟩
    | cons _ _ => cases h
  | cons e es ih =>
    cases l with
    | nil => cases e <;> cases h
    | cons i l =>
      cases e with
      | Name x p =>
        simp only [cTg.go, Bool.and_eq_true] at h
        obtain ⟨h1, h2⟩ := ih h.2
        refine ⟨?_, ?_⟩
        · show (assignEach es env).length + 1 = l.length + 1
          rw [h1]
        · show List.findIdx? (·.1) ((false, assign (.Name x p) env) :: assignEach es env) = none
          rw [List.findIdx?_cons, h2]
          rfl
      | _ => cases h
theorem tg_go (G : Good g Phi k X cc) : ∀ {es : List Expr} {l : List Nat}, cTg.go cc es l = true → PGs X es (tGs g l)
  | [], [], _ => sgs_nil
  | [], _ :: _, h => by cases h
  | e :: _, [], h => by cases e <;> cases h
  | e :: es, i :: l, h => by
    cases e with
    | Name x p =>
      simp only [cTg.go, Bool.and_eq_true, decide_eq_true_eq] at h
      obtain ⟨lo, fo⟩ := G.loc h.1.2
      exact sgs_cons (sg_one G.nd (by rw [G.N]; exact h.1.1) lo fo) (tg_go G h.2) rfl
    | _ => cases h
theorem tg_ok (G : Good g Phi k X cc) {e : Expr} {t : Tg} (h : cTg cc e t = true) : PG X e (tG g false t) := by
  unfold cTg at h
  split at h
  · simp only [Bool.and_eq_true, decide_eq_true_eq] at h
    obtain ⟨lo, fo⟩ := G.loc h.2
    exact sg_one G.nd (by rw [G.N]; exact h.1) lo fo
  · exact sg_many G.hK G.calm (tg_go G h) (tg_len h _).1 (tg_len h _).2
  · cases h
theorem tg_okP (G : Good g Phi k X cc) {es : List Expr} {kk : Nat} {p : Pos} {t : Tg} (h : cTg cc (.Tuple es kk p) t = true) : PG X (.Tuple es kk p) (tG g true t) := by
  cases t with
  | one i => cases h
  | many l =>
    have h' : cTg.go cc es l = true := h
    exact sg_many G.hK G.calm (tg_go G h') (tg_len h' _).1 (tg_len h' _).2
/-- the source, and whether it makes pairs -/
def cSrc (c : Ck) (cc : CC) (tg e : Expr) (kd : IK) (its : List E) : Bool := match kd, e, its with
  | .seq, e, [a] => !isSetD e && c cc e a
  | .rng1, .Call (.Name x _) [e1] [] _, [a] => decide (x = "range") && glB cc x && cc.bi.contains x && !isStar e1 && c cc e1 a
  | .rng2, .Call (.Name x _) [e1, e2] [] _, [a, b] => decide (x = "range") && glB cc x && cc.bi.contains x && !isStar e1 && !isStar e2 && c cc e1 a && c cc e2 b
  | .enm, .Call (.Name x _) [e1] [] _, [a] => (match tg with
    | .Tuple _ _ _ => true
    | _ => false) && decide (x = "enumerate") && glB cc x && cc.bi.contains x && !isStar e1 && c cc e1 a
  | .zip, .Call (.Name x _) [e1, e2] [] _, [a, b] => (match tg with
    | .Tuple _ _ _ => true
    | _ => false) && decide (x = "zip") && glB cc x && cc.bi.contains x && !isStar e1 && !isStar e2 && c cc e1 a && c cc e2 b
  | _, _, _ => false
def pairy : IK → Bool
  | .enm => true
  | .zip => true
  | _ => false
theorem src_ok {c : Ck} (h : OkE g Phi k c) (G : Good g Phi k X cc) {tg e : Expr} {kd : IK} {its : List E} (q : cSrc c cc tg e kd its = true) :
    SI X g UF (pairy kd) tg e (srcM Phi kd its) ∧ (∀ x, foldedSetIterable e X.env x = pure x) ∧ (pairy kd = true → ∃ es kk p, tg = .Tuple es kk p) := by
  unfold cSrc at q
  split at q
  · simp only [Bool.and_eq_true, Bool.not_eq_true'] at q
    exact ⟨si_seq G.hK (h cc _ _ q.2 X G), folded_no q.1 X.env, fun z => nomatch z⟩
  · simp only [Bool.and_eq_true, Bool.not_eq_true'] at q
    obtain ⟨⟨⟨⟨q1, q2⟩, q3⟩, q4⟩, q5⟩ := q
    have e0 := of_decide_eq_true q1
    subst e0
    exact ⟨si_rng1 (sa_cons (h cc _ _ q5 X G) sa_nil (star_one q4 [] X.env)) (G.gl q2) (G.bi q3) (star_one q4 [] X.env), fun _ => rfl, fun z => nomatch z⟩
  · simp only [Bool.and_eq_true, Bool.not_eq_true'] at q
    obtain ⟨⟨⟨⟨⟨⟨q1, q2⟩, q3⟩, q4⟩, q5⟩, q6⟩, q7⟩ := q
    have e0 := of_decide_eq_true q1
    subst e0
    refine ⟨si_rng2 (sa_cons (h cc _ _ q6 X G) (sa_cons (h cc _ _ q7 X G) sa_nil (star_one q5 [] X.env)) (star_one q4 _ X.env)) (G.gl q2) (G.bi q3) ?_ (star_one q5 [] X.env), fun _ => rfl, fun z => nomatch z⟩
    rw [star_one q4 _ X.env, star_one q5 [] X.env]
    rfl
  · simp only [Bool.and_eq_true, Bool.not_eq_true'] at q
    obtain ⟨⟨⟨⟨⟨q0, q1⟩, q2⟩, q3⟩, q4⟩, q5⟩ := q
    have e0 := of_decide_eq_true q1
    subst e0
    split at q0
    case h_2 => cases q0
    exact ⟨si_enm G.hK (sa_cons (h cc _ _ q5 X G) sa_nil (star_one q4 [] X.env)) (G.gl q2) (G.bi q3) (star_one q4 [] X.env), fun _ => rfl, fun _ => ⟨_, _, _, rfl⟩⟩
  · simp only [Bool.and_eq_true, Bool.not_eq_true'] at q
    obtain ⟨⟨⟨⟨⟨⟨⟨q0, q1⟩, q2⟩, q3⟩, q4⟩, q5⟩, q6⟩, q7⟩ := q
    have e0 := of_decide_eq_true q1
    subst e0
    split at q0
    case h_2 => cases q0
    refine ⟨si_zip G.hK (sa_cons (h cc _ _ q6 X G) (sa_cons (h cc _ _ q7 X G) sa_nil (star_one q5 [] X.env)) (star_one q4 _ X.env)) (G.gl q2) (G.bi q3) (star_one q4 _ X.env) ?_, fun _ => rfl, fun _ => ⟨_, _, _, rfl⟩⟩
    rw [star_one q5 [] X.env]
    rfl
  · cases q
theorem tg_any (G : Good g Phi k X cc) {tg : Expr} {t : Tg} {pr : Bool} (h : cTg cc tg t = true) (hp : pr = true → ∃ es kk p, tg = .Tuple es kk p) : PG X tg (tG g pr t) := by
  cases pr with
  | false => exact tg_ok G h
  | true =>
    obtain ⟨es, kk, p, rfl⟩ := hp rfl
    exact tg_okP G h
/-! ### comprehensions -/
def ownOf (cc : CC) (own : List Nat) : List (Str × Nat) := own.map fun i => ((cc.N[i]?).getD "", i)
theorem ownOf_snd (cc : CC) (own : List Nat) : (ownOf cc own).map (·.2) = own := by
  unfold ownOf
  rw [List.map_map]
  induction own with
  | nil => rfl
  | cons i l ih => rw [List.map_cons, ih]; rfl
def cComp (c t : Ck) : Ck := fun cc e a => match e, a with
  | .ListComp elt [⟨tg, iter, ifs, as_⟩] scope _, .comp _ ea tt kd its cond own =>
    decide (as_ = 0) && cSrc c cc tg iter kd its && blkC cc.N cc.sc scope (ownOf cc own) && tgIn tt own && cTg (cc.blk scope) tg tt && c (cc.blk scope) elt ea &&
      (match ifs, cond with
      | [], [] => true
      | [e1], [b] => t (cc.blk scope) e1 b
      | _, _ => false)
  | _, _ => false
theorem comp_parts {c t : Ck} (h : OkE g Phi k c) (ht : OkT g Phi k t) (G : Good g Phi k X cc) {elt tg iter : Expr} {ifs : List Expr} {as_ : Int} {scope : Scope} {pos : Pos} {m : Bool} {ea : E} {tt : Tg} {kd : IK} {its cond : List E} {own : List Nat}
    (q : cComp c t cc (.ListComp elt [⟨tg, iter, ifs, as_⟩] scope pos) (.comp m ea tt kd its cond own) = true) :
    as_ = 0 ∧ SI X g UF (pairy kd) tg iter (srcM Phi kd its) ∧ BlkOk X.N X.env.scope scope (ownOf cc own) ∧ tgIn tt ((ownOf cc own).map (·.2)) = true ∧
    (∀ (s : Shared) (H : Hp) (C : Addr) (cl : List (Str × Addr)) (fp : List Addr), PG (X.blk s H scope (compEnvC scope cl C X.env) fp) tg (tG g (pairy kd) tt)) ∧
    (∀ (s : Shared) (H : Hp) (C : Addr) (cl : List (Str × Addr)) (fp : List Addr), PTs (X.blk s H scope (compEnvC scope cl C X.env) fp) ifs (tTs g UF (E.conds Phi cond))) ∧
    (∀ (s : Shared) (H : Hp) (C : Addr) (cl : List (Str × Addr)) (fp : List Addr), SE (X.blk s H scope (compEnvC scope cl C X.env) fp) g UF elt (ea.ev Phi)) ∧ ∀ x, foldedSetIterable iter X.env x = pure x := by
  simp only [cComp, Bool.and_eq_true, decide_eq_true_eq] at q
  obtain ⟨⟨⟨⟨⟨⟨q1, q2⟩, q3⟩, q4⟩, q5⟩, q6⟩, q7⟩ := q
  obtain ⟨s1, s2, s3⟩ := src_ok h G q2
  refine ⟨q1, s1, by rw [G.N, G.sc]; exact blkOk_by q3, by rw [ownOf_snd]; exact q4, fun s H C cl fp => tg_any (G.blk s H scope C cl fp) q5 s3, fun s H C cl fp => ?_, fun s H C cl fp => h _ _ _ q6 _ (G.blk s H scope C cl fp), s2⟩
  split at q7
  · exact sts_nil
  · exact sts_one (ht _ _ _ q7 _ (G.blk s H scope C cl fp))
  · cases q7
theorem okComp {c t : Ck} (h : OkE g Phi k c) (ht : OkT g Phi k t) : OkE g Phi k (cComp c t) := by
  intro cc e a q X G
  have q0 := q
  unfold cComp at q
  split at q
  case h_2 => cases q
  rename_i elt tg iter ifs as_ scope pos m ea tt kd its cond own
  obtain ⟨rfl, p1, p2, p3, p4, p5, p6, p7⟩ := comp_parts h ht G q0
  have := se_comp (m := m) (pos := pos) G.calm G.nd p1 p2 p3 p4 p5 p6 p7
  rw [ownOf_snd] at this
  exact this
/-! ### tests -/
def cTst (c t : Ck) : Ck := fun cc e a => match e, a with
  | .UnaryOp .Not e1 _, .op .not [x] => t cc e1 x
  | .BoolOp .And (e1 :: e2 :: es) p, .andB x y => t cc e1 x && t cc (.BoolOp .And (e2 :: es) p) y
  | .BoolOp .Or (e1 :: e2 :: es) p, .orB x y => t cc e1 x && t cc (.BoolOp .Or (e2 :: es) p) y
  | .BoolOp .And [e1] _, x => t cc e1 x
  | .BoolOp .Or [e1] _, x => t cc e1 x
  | e, x => !isTestish e && c cc e x
theorem sw_of {op : BoolOp} {es : List Expr} {p : Pos} {f : Env → M D} (h : ST X g UF (.BoolOp op es p) f) : SW X g UF (.BoolOp op es p) f := ⟨fun whole pins s σ H Q I w => h.run pins s σ H Q I w⟩
theorem okTst {c t : Ck} (h : OkE g Phi k c) (ht : OkT g Phi k t) : OkT g Phi k (cTst c t) := by
  intro cc e a q X G
  unfold cTst at q
  split at q
  · exact st_not (ht cc _ _ q X G)
  · rw [Bool.and_eq_true] at q; exact (sw_and (ht cc _ _ q.1 X G) (sw_of (ht cc _ _ q.2 X G))).pt
  · rw [Bool.and_eq_true] at q; exact (sw_or (ht cc _ _ q.1 X G) (sw_of (ht cc _ _ q.2 X G))).pt
  · exact (sw_and1 (ht cc _ _ q X G)).pt
  · exact (sw_or1 (ht cc _ _ q X G)).pt
  · simp only [Bool.and_eq_true, Bool.not_eq_true'] at q
    exact st_val (h cc _ _ q.2 X G) fun w => isTrue_plain q.1 _ w
/-! ### all of it -/
def ckE (c t : Ck) : Ck := fun cc e a => cBad a || (cName cc e a || (cConst cc e a || (cGlob cc e a || (cBin c cc e a || (cIx c cc e a || (cFn c cc e a || (cCmp c cc e a || (cMth c cc e a || (cBlt c cc e a || (cSeq c cc e a ||
  (cComp c t cc e a || (cIfe c t cc e a || (cBoo c cc e a || (cIsi c cc e a || (cLset c cc e a || (cGget c cc e a || cFrz c cc e a))))))))))))))))
def ckT (c t : Ck) : Ck := fun cc e a => cBad a || (cCmp c cc e a || cTst c t cc e a)
theorem ok_ckE {c t : Ck} (h : OkE g Phi k c) (ht : OkT g Phi k t) : OkE g Phi k (ckE c t) := by
  intro cc e a q X G
  simp only [ckE, Bool.or_eq_true] at q
  rcases q with q | q | q | q | q | q | q | q | q | q | q | q | q | q | q | q | q | q
  · exact se_bad q
  · exact okName cc e a q X G
  · exact okConst cc e a q X G
  · exact okGlob cc e a q X G
  · exact okBin h cc e a q X G
  · exact okIx h cc e a q X G
  · exact okFn h cc e a q X G
  · exact okCmp h cc e a q X G
  · exact okMth h cc e a q X G
  · exact okBlt h cc e a q X G
  · exact okSeq h cc e a q X G
  · exact okComp h ht cc e a q X G
  · exact okIfe h ht cc e a q X G
  · exact okBoo h cc e a q X G
  · exact okIsi h cc e a q X G
  · exact okLset h cc e a q X G
  · exact okGget h cc e a q X G
  · exact okFrz h cc e a q X G
theorem ok_ckT {c t : Ck} (h : OkE g Phi k c) (ht : OkT g Phi k t) : OkT g Phi k (ckT c t) := by
  intro cc e a q X G
  simp only [ckT, Bool.or_eq_true] at q
  rcases q with q | q | q
  · exact st_bad q
  · exact okCmpT h cc e a q X G
  · exact okTst h ht cc e a q X G
def ck : Nat → Bool → Ck
  | 0, _ => fun _ _ _ => false
  | n + 1, false => fun cc e a => ckE (ck n false) (ck n true) cc e a
  | n + 1, true => fun cc e a => ckT (ck n false) (ck n true) cc e a
theorem ck_ok : ∀ n, OkE g Phi k (ck n false) ∧ OkT g Phi k (ck n true)
  | 0 => ⟨fun _ _ _ q => (by cases q), fun _ _ _ q => (by cases q)⟩
  | n + 1 => by
    obtain ⟨h1, h2⟩ := ck_ok n
    exact ⟨fun cc e a q X G => ok_ckE h1 h2 cc e a q X G, fun cc e a q X G => ok_ckT h1 h2 cc e a q X G⟩
end
end TS

set_option Elab.async false
set_option linter.all false
set_option maxRecDepth 100000
set_option maxHeartbeats 4000000
/-! TS17: a look at a text beside its meaning: statements, defs. -/
namespace TS
open PySem L2
section
variable {X : Cx} {g : Gi} {Phi : Nat → List D → M D} {k : Nat} {cc : CC}
abbrev CkS := CC → Stmt → S → Bool
def OkS (g : Gi) (Phi : Nat → List D → M D) (k : Nat) (c : CkS) : Prop := ∀ cc e a, c cc e a = true → ∀ X, Good g Phi k X cc → SS X g UF e (a.ex Phi)
def allS (c : Stmt → S → Bool) : List Stmt → List S → Bool
  | [], [] => true
  | e :: es, a :: as => c e a && allS c es as
  | _, _ => false
theorem OkS.all {c : CkS} (h : OkS g Phi k c) (G : Good g Phi k X cc) : ∀ {es : List Stmt} {as : List S}, allS (c cc) es as = true → SSs X g UF es (S.exs Phi as)
  | [], [], _ => ss_nil
  | [], _ :: _, q => by cases q
  | _ :: _, [], q => by cases q
  | e :: es, a :: as, q => by
    simp only [allS, Bool.and_eq_true] at q
    exact ss_cons (h cc e a q.1 X G) (OkS.all h G q.2)
theorem Good.passes (G : Good g Phi k X cc) : PassesOwn (model X.prog X.w) X.A X.env X.xe := by
  rw [G.xe]
  intro e s h
  exact h.elim
/-- a statement that is never met -/
def cNev (a : S) : Bool := match a with
  | .never => true
  | _ => false
theorem ok_never {st : Stmt} {a : S} (h : cNev a = true) : SS X g UF st (a.ex Phi) := by
  unfold cNev at h
  split at h
  · exact ss_bad fun r h => rfl
  · cases h
def cAsg (c t : Ck) : CkS := fun cc st a => match st, a with
  | .Assign [.Name x py] e pos, .asg i b => decide (cc.N[i]? = some x) && locB cc x && (if isComp e = true then
      (match e, b with
      | .ListComp elt [⟨tg, iter, ifs, as_⟩] scope p, .comp m ea tt kd its cond own => decide (cc.sc.kind = .function) && (py.line == p.line) && !(scope.names.any fun (n, k) => n == x && (k == .local || k == .cell)) && decide (cc.sc.names.lookup x = some .local) && cComp c t cc e b
      | _, _ => false) else c cc e b)
  | _, _ => false
theorem okAsg {c t : Ck} (h : OkE g Phi k c) (ht : OkT g Phi k t) : OkS g Phi k (cAsg c t) := by
  intro cc st a q X G
  unfold cAsg at q
  split at q
  case h_2 => cases q
  rename_i x py e pos i b
  simp only [Bool.and_eq_true, decide_eq_true_eq] at q
  obtain ⟨⟨q1, q2⟩, q3⟩ := q
  have hN : X.N[i]? = some x := by rw [G.N]; exact q1
  obtain ⟨lo, fo⟩ := G.loc q2
  split at q3
  · rename_i hcomp
    split at q3
    case h_2 => cases q3
    rename_i elt tg iter ifs as_ scope p m ea tt kd its cond own
    simp only [Bool.and_eq_true, decide_eq_true_eq, Bool.not_eq_true'] at q3
    obtain ⟨⟨⟨⟨r1, r2⟩, r3⟩, r4⟩, r5⟩ := q3
    obtain ⟨rfl, p1, p2, p3, p4, p5, p6, p7⟩ := comp_parts h ht G r5
    have hl : X.env.scope.names.lookup x = some .local := by rw [G.sc]; exact r4
    have := ss_asgLc (m := m) (spos := pos) (pos := p) G.calm G.nd hN hl (sw_true (by rw [G.sc]; exact r1) hl r2 r3) p1 p2 p3 p4 p5 p6 p7
    rw [ownOf_snd] at this
    exact this
  · rename_i hcomp
    exact ss_asg G.nd hN lo (h cc _ _ q3 X G) (swaps_no (by simpa using hcomp) _ _ _) fo
/-- what is stored from the right -/
theorem sw_two {x y : Str} {px py pt p2 : Pos} {kt k2 : Nat} {e1 e2 : Expr} {env : PySem.Env} (hk : env.blockKind = .function) (h1 : isStar e1 = false) (h2 : isStar e2 = false) (hx : env.scope.names.lookup x = some .local) (hy : env.scope.names.lookup y = some .local)
    (hl : (py.line == px.line) = true) (hxy : x ≠ y) (hf : [e1, e2].all (foldedForSure 8) = false) (hc : [e1, e2].all (constantsAlone 8) = false) :
    swappedStores [.Tuple [.Name x px, .Name y py] kt pt] (.Tuple [e1, e2] k2 p2) env = pure (some [x, y]) := by
  have kx : env.kindOf x = some .local := hx
  have ky : env.kindOf y = some .local := hy
  have ed : ([x, y] : List Str).eraseDups = [x, y] := by
    rw [List.eraseDups_cons]
    have : (List.filter (fun b => !b == x) [y]) = [y] := by
      simp [Ne.symm hxy]
    rw [this]
    rfl
  unfold swappedStores
  simp only [hk, kx, ky, Expr.pos, List.head?_cons, Option.map_some, Option.getD_some, List.filterMap_cons, List.filterMap_nil, beq_self_eq_true, hl, Bool.and_self, if_true, ed, hf, hc]
  refine (if_neg (by simp)).trans ?_
  refine (if_neg (fun z => ?_)).trans ?_
  · simp only [List.any_cons, List.any_nil, Bool.or_false, Bool.or_eq_true] at z
    rcases z with z | z
    · cases e1 <;> first | exact (show false = true → False from fun q => nomatch q) z | exact (show true = false → False from fun q => nomatch q) h1
    · cases e2 <;> first | exact (show false = true → False from fun q => nomatch q) z | exact (show true = false → False from fun q => nomatch q) h2
  · rfl
def cPar (c : Ck) : CkS := fun cc st a => match st, a with
  | .Assign [.Tuple [.Name x px, .Name y py] _ _] (.Tuple [e1, e2] _ _) _, .par i j b d => decide (cc.N[i]? = some x) && decide (cc.N[j]? = some y) && decide (i ≠ j) && decide (x ≠ y) && decide (cc.sc.kind = .function) && decide (cc.sc.names.lookup x = some .local) && decide (cc.sc.names.lookup y = some .local)
      && !isStar e1 && !isStar e2 && (py.line == px.line) && !([e1, e2].all (foldedForSure 8)) && !([e1, e2].all (constantsAlone 8)) && c cc e1 b && c cc e2 d
  | _, _ => false
theorem okPar {c : Ck} (h : OkE g Phi k c) : OkS g Phi k (cPar c) := by
  intro cc st a q X G
  unfold cPar at q
  split at q
  case h_2 => cases q
  rename_i x px y py kt pt e1 e2 k2 p2 pos i j b d
  simp only [Bool.and_eq_true, decide_eq_true_eq, Bool.not_eq_true'] at q
  obtain ⟨⟨⟨⟨⟨⟨⟨⟨⟨⟨⟨⟨⟨q1, q2⟩, q3⟩, q4⟩, q5⟩, q6⟩, q7⟩, q8⟩, q9⟩, q10⟩, q11⟩, q12⟩, q13⟩, q14⟩ := q
  have hx : X.env.scope.names.lookup x = some .local := by rw [G.sc]; exact q6
  have hy : X.env.scope.names.lookup y = some .local := by rw [G.sc]; exact q7
  have hk : X.env.blockKind = .function := by
    unfold PySem.Env.blockKind
    rw [G.sc, q5]
    rfl
  exact ss_par G.calm G.nd (by rw [G.N]; exact q1) (by rw [G.N]; exact q2) q3 hx hy (sa_cons (h cc _ _ q13 X G) (sa_cons (h cc _ _ q14 X G) sa_nil (star_one q9 [] _)) (star_one q8 _ _)) (sw_two hk q8 q9 hx hy q10 q4 q11 q12) rfl
def isTupE : Expr → Bool
  | .Tuple .. => true
  | _ => false
def cAsgT (c : Ck) : CkS := fun cc st a => match st, a with
  | .Assign [.Tuple es kk p] e _, .asgT l b => !isComp e && !isTupE e && cTg cc (.Tuple es kk p) (.many l) && c cc e b
  | _, _ => false
theorem sole_no {e tg : Expr} (h : isComp e = false) (l : Nat) (env : PySem.Env) : swapsWithSole [tg] e l env = pure false := swaps_no h (some tg) l env
theorem okAsgT {c : Ck} (h : OkE g Phi k c) : OkS g Phi k (cAsgT c) := by
  intro cc st a q X G
  unfold cAsgT at q
  split at q
  case h_2 => cases q
  rename_i es kk p e pos l b
  simp only [Bool.and_eq_true, Bool.not_eq_true'] at q
  obtain ⟨⟨⟨q1, q2⟩, q3⟩, q4⟩ := q
  refine ss_asgT (h cc _ _ q4 X G) (tg_ok G q3) (sole_no q1 _ _) ?_ rfl
  cases e <;> first | rfl | cases q2
/-- a, b = x, y where a name is no plain local: not stored from the right -/
theorem sw_none {x y : Str} {px py pt p2 : Pos} {kt k2 : Nat} {e1 e2 : Expr} {env : PySem.Env} (h : ¬ (env.scope.names.lookup x = some .local ∧ env.scope.names.lookup y = some .local)) :
    swappedStores [.Tuple [.Name x px, .Name y py] kt pt] (.Tuple [e1, e2] k2 p2) env = pure none := by
  have hh : ¬ (env.kindOf x = some .local ∧ env.kindOf y = some .local) := h
  unfold swappedStores
  simp only [Expr.pos, List.head?_cons, Option.map_some, Option.getD_some, List.filterMap_cons, List.filterMap_nil, beq_self_eq_true, Bool.and_true]
  split
  · rfl
  · split
    · rfl
    · by_cases hx : env.kindOf x = some .local
      · have hy : ¬ env.kindOf y = some .local := fun z => hh ⟨hx, z⟩
        have b1 : (env.kindOf x == some NameKind.local) = true := by rw [hx]; rfl
        have b2 : (env.kindOf y == some NameKind.local) = false := beq_eq_false_iff_ne.mpr hy
        simp only [b1, b2, if_true, Bool.false_and, Bool.false_eq_true, if_false]
        rfl
      · have b1 : (env.kindOf x == some NameKind.local) = false := beq_eq_false_iff_ne.mpr hx
        simp only [b1, Bool.false_eq_true, if_false]
        by_cases hy : (env.kindOf y == some NameKind.local && py.line == px.line) = true
        · simp only [hy, if_true]
          rfl
        · simp only [hy, if_false]
          rfl
def cPar2 (c : Ck) : CkS := fun cc st a => match st, a with
  | .Assign [.Tuple [.Name x px, .Name y py] kk p] (.Tuple [e1, e2] k2 p2) _, .asgT l b => !(decide (cc.sc.names.lookup x = some .local) && decide (cc.sc.names.lookup y = some .local)) && cTg cc (.Tuple [.Name x px, .Name y py] kk p) (.many l) && c cc (.Tuple [e1, e2] k2 p2) b
  | _, _ => false
theorem okPar2 {c : Ck} (h : OkE g Phi k c) : OkS g Phi k (cPar2 c) := by
  intro cc st a q X G
  unfold cPar2 at q
  split at q
  case h_2 => cases q
  simp only [Bool.and_eq_true, Bool.not_eq_true', Bool.and_eq_false_iff, decide_eq_false_iff_not] at q
  obtain ⟨⟨q1, q2⟩, q3⟩ := q
  refine ss_asgT (h cc _ _ q3 X G) (tg_ok G q2) rfl (sw_none fun z => ?_) rfl
  rw [G.sc] at z
  rcases q1 with q | q
  · exact q z.1
  · exact q z.2
def cPut (c : Ck) : CkS := fun cc st a => match st, a with
  | .Assign [.Subscript o i _] e _, .put x y z => !isComp e && !isSlice i && c cc o x && c cc i y && c cc e z
  | _, _ => false
theorem okPut {c : Ck} (h : OkE g Phi k c) : OkS g Phi k (cPut c) := by
  intro cc st a q X G
  unfold cPut at q
  split at q
  case h_2 => cases q
  rename_i o i p e pos x y z
  simp only [Bool.and_eq_true, Bool.not_eq_true'] at q
  obtain ⟨⟨⟨⟨q1, q2⟩, q3⟩, q4⟩, q5⟩ := q
  refine ss_put G.hu1 (h cc _ _ q3 X G) (h cc _ _ q4 X G) (h cc _ _ q5 X G) (fun v => ?_) (sole_no q1 _ _) rfl rfl
  cases i <;> first | rfl | cases q2
def cMisc (c t : Ck) (s : CkS) : CkS := fun cc st a => match st, a with
  | .Expr (.Constant (.str _) _ _) _, .pass => true
  | .Pass _, .pass => true
  | .Return none _, .rtn (.cst .non) => true
  | .Expr e _, .exp b => !isComp e && c cc e b
  | .Return (some e) _, .rtn b => c cc e b
  | .If e sa sb _, .ite b x y => t cc e b && allS (s cc) sa x && allS (s cc) sb y
  | .While e sa [] _, .while_ b x => t cc e b && allS (s cc) sa x
  | .For tg e sa [] _, .for_ tt kd its x => cSrc c cc tg e kd its && cTg cc tg tt && allS (s cc) sa x
  | _, _ => false
theorem okMisc {c t : Ck} {s : CkS} (h : OkE g Phi k c) (ht : OkT g Phi k t) (hs : OkS g Phi k s) : OkS g Phi k (cMisc c t s) := by
  intro cc st a q X G
  unfold cMisc at q
  split at q
  · exact ss_doc
  · exact ss_pass
  · exact ss_rtnN
  · simp only [Bool.and_eq_true, Bool.not_eq_true'] at q
    exact ss_exp (h cc _ _ q.2 X G) (swaps_no q.1 _ _ _)
  · exact ss_rtn (h cc _ _ q X G)
  · simp only [Bool.and_eq_true] at q
    exact ss_ite (ht cc _ _ q.1.1 X G) (hs.all G q.1.2) (hs.all G q.2)
  · simp only [Bool.and_eq_true] at q
    exact ss_while G.passes (ht cc _ _ q.1 X G) (hs.all G q.2)
  · simp only [Bool.and_eq_true] at q
    obtain ⟨⟨q1, q2⟩, q3⟩ := q
    obtain ⟨s1, s2, s3⟩ := src_ok h G q1
    exact ss_for G.passes G.calm s1 (tg_any G q2 s3) (hs.all G q3) s2
  · cases q
def ckSt (m : Nat) : Nat → CkS
  | 0 => fun _ _ _ => false
  | n + 1 => fun cc st a => cNev a || (cMisc (ck m false) (ck m true) (ckSt m n) cc st a || (cAsg (ck m false) (ck m true) cc st a || (cPar (ck m false) cc st a || (cAsgT (ck m false) cc st a || (cPut (ck m false) cc st a || cPar2 (ck m false) cc st a)))))
theorem ckSt_ok (m : Nat) : ∀ n, OkS g Phi k (ckSt m n)
  | 0 => fun _ _ _ q => (by cases q)
  | n + 1 => by
    intro cc st a q X G
    obtain ⟨h1, h2⟩ := ck_ok (g := g) (Phi := Phi) (k := k) m
    simp only [ckSt, Bool.or_eq_true] at q
    rcases q with q | q | q | q | q | q | q
    · exact ok_never q
    · exact okMisc h1 h2 (ckSt_ok m n) cc st a q X G
    · exact okAsg h1 h2 cc st a q X G
    · exact okPar h1 cc st a q X G
    · exact okAsgT h1 cc st a q X G
    · exact okPut h1 cc st a q X G
    · exact okPar2 h1 cc st a q X G
end
end TS

set_option Elab.async false
set_option linter.all false
set_option maxRecDepth 100000
set_option maxHeartbeats 4000000
/-! TS18: defs: a body beside its meaning keeps what a call promises; the law's head. -/
namespace TS
open PySem L2
section
variable {g : Gi} {W : Wd} {h : Hh} {H : Hp}
theorem er_start {N : List Str} {vs : List V} {ds : List D} {np ns : Nat} (r : Rps g W H ds vs) (h1 : ds.length = np) (h2 : ns = N.length) : ER g W H (startE np ns ds) (L2.start N vs) := by
  subst h1 h2
  have hl := r.length
  refine ⟨by simp [startE, L2.start, hl], fun i d q => ?_⟩
  unfold startE at q
  unfold L2.start
  by_cases hi : i < ds.length
  · rw [List.getElem?_append_left (by simpa using hi), List.getElem?_map] at q
    rw [List.getElem?_append_left (by simpa [← hl] using hi), List.getElem?_map]
    cases e : ds[i]? with
    | none => rw [e] at q; cases q
    | some d' =>
      rw [e] at q
      cases q
      obtain ⟨v, hv, rv⟩ := r.get e
      exact ⟨v, by rw [hv]; rfl, rv⟩
  · rw [List.getElem?_append_right (by simpa using hi)] at q
    rw [List.getElem?_replicate] at q
    split at q <;> cases q
/-! ### a call's own cells go -/
def cutW (W : Wd) (n : Nat) : Wd := ⟨W.ph.take n, W.fz⟩
mutual
theorem Rp.cut (n : Nat) : ∀ {d : D} {v : V}, Rp g W H d v → refLt n d = true → Rp g (cutW W n) H d v
  | _, _, .non, _ => .non
  | _, _, .bl b, _ => .bl b
  | _, _, .int i, _ => .int i
  | _, _, .str s, _ => .str s
  | _, _, .tup f t r, q => .tup f t (Rps.cut n r (by rw [refLt] at q; exact q))
  | _, _, .tupK t r, q => .tupK t (Rps.cut n r (by rw [refLt] at q; exact q))
  | _, _, .lst f t r, q => .lst f t (Rps.cut n r (by rw [refLt] at q; exact q))
  | _, _, .scr f t, _ => .scr f t
  | _, _, .scrK t, _ => .scrK t
  | _, _, .ref e, q => .ref (by
      rw [refLt] at q
      show (W.ph.take n)[_]? = _
      rw [List.getElem?_take, if_pos (of_decide_eq_true q)]
      exact e)
  | _, _, .gl e, _ => .gl e
theorem Rps.cut (n : Nat) : ∀ {d : List D} {v : List V}, Rps g W H d v → refLts n d = true → Rps g (cutW W n) H d v
  | _, _, .nil, _ => .nil
  | _, _, .cons a b, q => by
    rw [refLts, Bool.and_eq_true] at q
    exact .cons (Rp.cut n a q.1) (Rps.cut n b q.2)
end
theorem CellR.cut {n : Nat} {a : Addr} {c : Cell} (r : CellR g W H a c) (q : cellLt n c = true) : CellR g (cutW W n) H a c := by
  cases c with
  | dead => exact r
  | lst l =>
    obtain ⟨vs, e, z⟩ := r
    exact ⟨vs, e, z.cut n q⟩
  | dct kvs =>
    obtain ⟨vs, e, z⟩ := r
    refine ⟨vs, e, ?_⟩
    clear e
    replace q : (kvs.all fun kv => refLt n kv.2) = true := q
    induction z with
    | nil => exact .nil
    | cons x t ih =>
      rw [List.all_cons, Bool.and_eq_true] at q
      exact .cons ⟨x.1, x.2.cut n q.1⟩ (ih q.2)
  | ins cc fs =>
    obtain ⟨C, dx, fs', e, k, z⟩ := r
    refine ⟨C, dx, fs', e, k, ?_⟩
    clear e k
    replace q : (fs.all fun kv => refLt n kv.2) = true := q
    induction z with
    | nil => exact .nil
    | cons x t ih =>
      rw [List.all_cons, Bool.and_eq_true] at q
      exact .cons ⟨x.1, x.2.cut n q.1⟩ (ih q.2)
theorem hr_cut {W' : Wd} {h' : Hh} {H' : Hp} (R : HR g W h H) (e : Ex W W' H H') (R' : HR g W' h' H') (q : (h'.take h.length).all (cellLt h.length) = true) :
    Ex W (cutW W' h.length) H H' ∧ HR g (cutW W' h.length) (h'.take h.length) H' := by
  obtain ⟨l, el⟩ := e.ph
  have eq0 : W'.ph.take h.length = W.ph := by rw [el, ← R.len, List.take_left]
  have hle : h.length ≤ h'.length := by rw [← R'.len, el, List.length_append, R.len]; omega
  refine ⟨⟨⟨⟨[], ?_⟩, e.fz, e.keep⟩, fun a z => .inl ?_, e.old, e.nfz⟩, ?_, ?_, R'.fzs, fun n a c h1 h2 => ?_, fun n a c h1 h2 => ?_⟩
  · show W'.ph.take h.length = W.ph ++ []
    rw [eq0, List.append_nil]
  · have z' : a ∈ W'.ph.take h.length := z
    rw [eq0] at z'
    exact z'
  · show (W'.ph.take h.length).length = (h'.take h.length).length
    rw [List.length_take, List.length_take, R'.len]
  · exact R'.nd.sublist (List.take_sublist _ _)
  · have h1' : (W'.ph.take h.length)[n]? = some a := h1
    rw [List.getElem?_take] at h1' h2
    split at h2
    · rename_i hn
      rw [if_pos hn] at h1'
      exact R'.dis n a c h1' h2
    · cases h2
  · have h1' : (W'.ph.take h.length)[n]? = some a := h1
    have hc := List.mem_of_getElem? h2
    rw [List.getElem?_take] at h1' h2
    split at h2
    · rename_i hn
      rw [if_pos hn] at h1'
      exact (R'.cell n a c h1' h2).cut (List.all_eq_true.mp q c hc)
    · cases h2
theorem pst_trim {m : M D} {Q : VK} (R : HR g W h H) (p : Pst g UF (Rp g) W H (trimM m h) Q) : Pst g UF (Rp g) W H (m h) Q := by
  unfold trimM at p
  cases e : m h with
  | ok d h' =>
    rw [e] at p
    dsimp only at p
    split at p
    · rename_i hq
      intro W' b H' x y z
      obtain ⟨ex, hr⟩ := hr_cut R x y hq.2
      exact p (cutW W' h.length) b H' ex hr (z.cut _ hq.1)
    · exact p.elim
  | exc x h' => rw [e] at p; exact p
  | bad => rw [e] at p; exact p
theorem pst_out {m : M Fl} {Q : VK} (p : Pst g UF (Rp g) W H (outOf m h) Q) : Pst g UF (RelF g) W H (m h) (fun z H' => match z with
    | .inl _ => Q .non H'
    | .inr v => Q v H') := by
  unfold outOf bnd at p
  cases e : m h with
  | ok f h' =>
    rw [e] at p
    intro W' b H' x y z
    cases f with
    | next r =>
      cases b with
      | inl σ => exact p W' .non H' x y .non
      | inr v => exact z.elim
    | ret d =>
      cases b with
      | inl σ => exact z.elim
      | inr v => exact p W' v H' x y z
  | exc x h' => rw [e] at p; exact p
  | bad => rw [e] at p; exact p
end
/-! ### the defs of a text -/
structure Fact (K : PySem.W.Frag) (mg : Str → Option Value) (g : Gi) (gl : List (Str × GK)) (bi : List Str) (T : Nat → Option FnDef) (x : Str) (n : Nat) : Prop where
  ex : ∃ (f : Addr) (qual : Str) (st : Stmt) (fd : FuncData) (ps N : List Str) (d : FnDef), mg x = some (.ref f) ∧ g.fa n = some f ∧ T n = some d ∧ Fun K x qual st f fd ∧ Binds K fd ps [] ∧ FnScope N ps (defScope st) ∧ d.np = ps.length ∧ d.ns = N.length ∧
    allS (ckSt 80 80 ⟨N, defScope st, fun _ => true, gl, bi⟩) (defBody st) d.body = true
structure Facts (K : PySem.W.Frag) (w : World) (mg : Str → Option Value) (g : Gi) (gl : List (Str × GK)) (bi : List Str) (T : Nat → Option FnDef) : Prop where
  hK : g.K = K
  fns : ∀ x n, gl.lookup x = some (.fn n) → Fact K mg g gl bi T x n
  csts : ∀ x d, gl.lookup x = some (.cst d) → ∃ v u, mg x = some u ∧ RelV v u ∧ ∀ W H, Rp g W H d v
  dcts : ∀ x kvs, gl.lookup x = some (.dict kvs) → ∃ a, mg x = some (.ref a) ∧ DctK K w a kvs
  bis : ∀ x, x ∈ bi → mg x = none
section
variable {P : Program} {w : World} {K : PySem.W.Frag} {mg : Str → Option Value} {base : Heap} {g : Gi} {gl : List (Str × GK)} {bi : List Str} {T : Nat → Option FnDef}
theorem fn_ok (hK : g.K = K) {k : Nat} (G : GE P w K mg base g (runs T k) k gl bi) {x qual : Str} {st : Stmt} {f : Addr} {fd : FuncData} {ps N : List Str} {d : FnDef} {n : Nat} (hT : T n = some d) (hF : Fun K x qual st f fd) (hS : FnScope N ps (defScope st)) (hnp : d.np = ps.length) (hns : d.ns = N.length)
    (hck : allS (ckSt 80 80 ⟨N, defScope st, fun _ => true, gl, bi⟩) (defBody st) d.body = true) : FnOk P w K mg base CX0 (k + 1) f fd ps (spD g (runs T (k + 1)) ps.length n) := by
  refine hF.ok hS (fun vs H Q E q => q.1) fun cdv A outer s H vs Q E hr hsp => ?_
  obtain ⟨hl, W, h, ds, R, rs, p⟩ := hsp
  have good : Good g (runs T k) k (cxOf CX0 P w K mg base N qual (defScope st) f cdv A outer s H E).nox ⟨N, defScope st, fun _ => true, gl, bi⟩ :=
    ⟨rfl, rfl, rfl, hS.nd, rfl, hK, rfl, hr, G⟩
  refine ⟨_, (ckSt_ok 80 80).all good hck, ?_⟩
  have dl : ds.length = d.np := by rw [rs.length, hl, hnp]
  rw [runs] at p
  simp only [hT, FnDef.run] at p
  rw [if_pos dl] at p
  refine ⟨W, _, h, R, er_start rs dl hns, ?_⟩
  have p2 : Pst g UF (Rp g) W H (outOf (S.exs (runs T k) d.body (startE d.np d.ns ds)) h) Q := by
    cases ht : d.trim with
    | true =>
      rw [ht, if_pos rfl] at p
      exact pst_trim R p
    | false =>
      rw [ht, if_neg Bool.false_ne_true] at p
      exact p
  exact pst_out p2
theorem fn_at (F : Facts K w mg g gl bi T) (k : Nat) (G : GE P w K mg base g (runs T k) k gl bi) {x : Str} {n : Nat} (hx : gl.lookup x = some (.fn n)) :
    ∃ f, mg x = some (.ref f) ∧ g.fa n = some f ∧ FnAt P w K mg base g (runs T (k + 1)) (k + 1) n f := by
  obtain ⟨f, qual, st, fd, ps, N, d, hm, hf, hT, hF, hB, hS, hnp, hns, hck⟩ := (F.fns x n hx).ex
  refine ⟨f, hm, hf, ⟨fd, ps, fn_ok F.hK G hT hF hS hnp hns hck, hB, fun ds h hl => ?_⟩, hF.kp⟩
  rw [runs]
  simp only [hT, FnDef.run]
  rw [if_neg (by rw [hnp]; exact hl)]
  rfl
theorem ge_all (F : Facts K w mg g gl bi T) : ∀ k, GE P w K mg base g (runs T k) k gl bi
  | 0 => ⟨fun x n hx => by
      obtain ⟨f, qual, st, fd, ps, N, d, hm, hf, hT, hF, hB, hS, hnp, hns, hck⟩ := (F.fns x n hx).ex
      exact ⟨f, hm, hf, ⟨fd, ps, ⟨fun vs H Q E q => q.1, fun A outer s H args us vs Q E _ _ _ _ q => by
        obtain ⟨_, W, h, ds, R, rs, p⟩ := q
        exact p.elim⟩, hB, fun _ _ _ => rfl⟩, hF.kp⟩, F.csts, F.dcts, F.bis⟩
  | k + 1 => ⟨fun x n hx => fn_at F k (ge_all F k) hx, F.csts, F.dcts, F.bis⟩
/-- the law's promise -/
def spLaw (K : PySem.W.Frag) : Sp := fun vs H Q _ => ∃ (a : Addr) (ns : List Int), vs = [.ref a] ∧ SqL K H a (ns.map V.int) ∧ Only H ∧ ns.length ≤ 63 ∧ ∀ H', Q (.bl true) H'
theorem law_ok (F : Facts K w mg g gl bi T) {k n : Nat} {x qual : Str} {st : Stmt} {fa : Addr} {fd : FuncData} {p0 : Str} {N : List Str} {d : FnDef} (hT : T n = some d) (hF : Fun K x qual st fa fd) (hS : FnScope N [p0] (defScope st)) (hnp : d.np = 1) (hns : d.ns = N.length)
    (hck : allS (ckSt 80 80 ⟨N, defScope st, fun _ => true, gl, bi⟩) (defBody st) d.body = true)
    (hlaw : ∀ ns : List Int, ns.length ≤ 63 → ∃ h', runs T (k + 1) n [.scr ns] [] = .ok (.bl true) h') : ∀ base : Heap, FnOk P w K mg base CX0 (k + 1) fa fd [p0] (spLaw K) := by
  intro base
  refine (fn_ok (P := P) (w := w) (base := base) F.hK (ge_all F k) hT hF hS hnp hns hck).imp fun vs H Q E ⟨a, ns, e, hq, hO, h63, q⟩ => ?_
  subst e
  obtain ⟨h', e⟩ := hlaw ns h63
  have fin : ∀ (W : Wd), HR g W [] H → Rp g W H (.scr ns) (.ref a) → spD g (runs T (k + 1)) ([p0] : List Str).length n [.ref a] H Q E := fun W R r => by
    refine ⟨rfl, W, [], [.scr ns], R, .cons r .nil, ?_⟩
    rw [e]
    intro W' b H' x y z
    cases z
    exact q H'
  rcases hq with (hq | ⟨o, hq⟩) | hq
  · rcases hO a with z | ⟨o, xs, z⟩
    · rw [z] at hq; cases hq
    · rw [z] at hq; cases hq
  · refine fin ⟨[], fun b => b = a⟩ ⟨rfl, List.nodup_nil, fun b z => ?_, fun n b c z => ?_, fun n b c z => ?_⟩ (.scr rfl hq)
    · rw [show b = a from z, hq]; rfl
    · simp at z
    · simp at z
  · refine fin ⟨[], fun _ => False⟩ ⟨rfl, List.nodup_nil, fun b z => z.elim, fun n b c z => ?_, fun n b c z => ?_⟩ (.scrK (by rw [F.hK]; exact hq))
    · simp at z
    · simp at z
/-- the goal that k_head leaves -/
theorem walk {l : PySem.W.OpenLaw} {q : Program} {loose : List Str} {XP : (Str → Option Value) → Heap → Prop} {YP : World → Heap → Prop} {d : DefRec} {K : Params → PySem.W.Frag} {k : Nat} (hn : l.most = some 63) (hdf : d.params.defaults = []) (hr : Room k callerA)
    (hY : ∀ (w : World) (h : Heap), YP w h → (K w.params).In h)
    (F : ∀ (w : World) (mg : Str → Option Value) (fa : Addr) (h : Heap), (K w.params).In h → h.Ns mainGlobals mg → mg d.name = some (.ref fa) →
      ∃ fd : FuncData, (∀ (s : Shared) (u : Value), BindsTo s fd ⟨[u], []⟩ [("script", u)]) ∧ ∀ base : Heap, FnOk l.prog w (K w.params) mg base CX0 k fa fd ["script"] (spLaw (K w.params))) :
    PySem.W.WalkO q loose XP YP l.row.toRowW d [] (fun f vs => PySem.call f vs) :=
  L2.walk_of (n := 63) (k := k) (x := "script") (CX := fun _ => CX0) (sp := fun w => spLaw (K w.params)) hn (by decide) hdf hr hY (fun w mg fa h h1 h2 h3 => by
    obtain ⟨fd, b, f⟩ := F w mg fa h h1 h2 h3
    exact ⟨fd, b, fun base _ _ => f base⟩) (fun _ _ a ns hl hO hS => ⟨a, ns, rfl, hS, hO, hl, fun _ => rfl⟩) fun _ _ _ _ _ z => z
end
end TS

set_option Elab.async false
set_option linter.all false
set_option maxRecDepth 100000
set_option maxHeartbeats 4000000
/-! TS19: a law's facts, one an entry of its tables. -/
namespace TS
open PySem L2
def FactL (K : PySem.W.Frag) (w : World) (mg : Str → Option Value) (g : Gi) (gl : List (Str × GK)) (bi : List Str) (T : Nat → Option FnDef) : List (Str × GK) → Prop
  | [] => True
  | (x, .fn n) :: r => Fact K mg g gl bi T x n ∧ FactL K w mg g gl bi T r
  | (x, .cst d) :: r => (∃ v u, mg x = some u ∧ RelV v u ∧ ∀ W H, Rp g W H d v) ∧ FactL K w mg g gl bi T r
  | (x, .dict kvs) :: r => (∃ a, mg x = some (.ref a) ∧ DctK K w a kvs) ∧ FactL K w mg g gl bi T r
def BiL (mg : Str → Option Value) : List Str → Prop
  | [] => True
  | x :: r => mg x = none ∧ BiL mg r
section
variable {K : PySem.W.Frag} {w : World} {mg : Str → Option Value} {g : Gi} {gl : List (Str × GK)} {bi : List Str} {T : Nat → Option FnDef}
theorem factL_at : ∀ {l : List (Str × GK)}, FactL K w mg g gl bi T l → ∀ x v, l.lookup x = some v → match v with
    | .fn n => Fact K mg g gl bi T x n
    | .cst d => ∃ v u, mg x = some u ∧ RelV v u ∧ ∀ W H, Rp g W H d v
    | .dict kvs => ∃ a, mg x = some (.ref a) ∧ DctK K w a kvs
  | [], _, _, _, h => by simp at h
  | (y, u) :: l, F, x, v, h => by
    rw [List.lookup_cons] at h
    cases e : x == y with
    | true =>
      rw [e] at h
      have ey : x = y := eq_of_beq e
      subst ey
      cases h
      cases u with
      | fn n => exact F.1
      | cst d => exact F.1
      | dict kvs => exact F.1
    | false =>
      rw [e] at h
      cases u with
      | fn n => exact factL_at F.2 x v h
      | cst d => exact factL_at F.2 x v h
      | dict kvs => exact factL_at F.2 x v h
theorem biL_at : ∀ {l : List Str}, BiL mg l → ∀ x ∈ l, mg x = none
  | [], _, _, h => by simp at h
  | y :: l, F, x, h => by
    rcases List.mem_cons.mp h with e | e
    · rw [e]; exact F.1
    · exact biL_at F.2 x e
theorem facts_of (hK : g.K = K) (F : FactL K w mg g gl bi T gl) (B : BiL mg bi) : Facts K w mg g gl bi T :=
  ⟨hK, fun x n h => factL_at F x (.fn n) h, fun x d h => factL_at F x (.cst d) h, fun x kvs h => factL_at F x (.dict kvs) h, biL_at B⟩
end
end TS

set_option Elab.async false
set_option linter.all false
set_option maxRecDepth 100000
set_option maxHeartbeats 4000000
/-! TQ1: the pure meaning: lists of one's own by value, a count of draws as the only state. -/
namespace TS
open PySem
def Tn (c : Nat) : Cell := .lst (List.replicate c (.int 0))
inductive PR (α : Type) where
  | ok (a : α) (c : Nat) | exc (x : Exn) (c : Nat) | bad
abbrev PM (α : Type) := Nat → PR α
def pret {α : Type} (a : α) : PM α := fun c => .ok a c
def pbnd {α β : Type} (m : PM α) (f : α → PM β) : PM β := fun c => match m c with
  | .ok a c' => f a c'
  | .exc x c' => .exc x c'
  | .bad => .bad
def pbad {α : Type} : PM α := fun _ => .bad
/-- a step that reads only -/
def lft (m : M D) : PM D := fun c => match m [Tn c] with
  | .ok a _ => .ok a c
  | _ => .bad
def pprim (P : Nat → List D → PM D) : Op → List D → PM D
  | .call f => P f
  | .tup => fun ds => lft (mkT ds)
  | .lst _ => fun ds => lft (mkL false ds)
  | .add _ => fun ds => lft (a2 (addD false) ds)
  | .mul _ => fun ds => lft (a2 (mulD false) ds)
  | .list _ => fun ds => lft (a1 (pList false) ds)
  | .sorted _ => fun ds => lft (a1 (pSorted false) ds)
  | .append => fun _ => pbad
  | .extend => fun _ => pbad
  | .insert => fun _ => pbad
  | .pop0 => fun _ => pbad
  | .pop1 => fun _ => pbad
  | .remove => fun _ => pbad
  | .frz => fun ds => match ds with
    | [.lst l] => pret (.lst l)
    | _ => pbad
  | o => fun ds => lft (prim (fun _ _ => mbad) o ds)
def pcompL (bd : D → Option Env) (cond : Env → PM Bool) (elt : Env → PM D) : List D → PM (List D)
  | [] => pret []
  | x :: xs => match bd x with
    | some r => pbnd (cond r) fun b => if b = true then pbnd (elt r) (fun d => pbnd (pcompL bd cond elt xs) fun ds => pret (d :: ds)) else pcompL bd cond elt xs
    | none => pbad
def pnoexc {α : Type} (m : PM α) : PM α := fun c => match m c with
  | .exc _ _ => .bad
  | r => r
def notRef : D → Bool
  | .ref _ => false
  | _ => true
def pitems (k : IK) (ds : List D) : Option (List D) := if ds.all notRef = true then itemsOf k ds [] else none
mutual
def pe (P : Nat → List D → PM D) : E → Env → PM D
  | .var i, r => match r[i]? with
    | some (some d) => pret d
    | _ => pbad
  | .cst d, _ => pret d
  | .op o l, r => pbnd (pes P l r) (pprim P o)
  | .mth o a l, r => pbnd (pe P a r) fun d => if kindOk o d [] = true then pbnd (pes P l r) (fun ds => pprim P o (d :: ds)) else pbad
  | .and a b, r => pbnd (pe P a r) fun x => match truth [] x with
    | some true => pe P b r
    | some false => pret x
    | none => pbad
  | .or a b, r => pbnd (pe P a r) fun x => match truth [] x with
    | some true => pret x
    | some false => pe P b r
    | none => pbad
  | .andB a b, r => pbnd (pe P a r) fun x => match x with
    | .bl true => pe P b r
    | .bl false => pret (.bl false)
    | _ => pbad
  | .orB a b, r => pbnd (pe P a r) fun x => match x with
    | .bl true => pret (.bl true)
    | .bl false => pe P b r
    | _ => pbad
  | .ife c a b, r => pbnd (pe P c r) fun x => match x with
    | .bl true => pe P a r
    | .bl false => pe P b r
    | _ => pbad
  | .chain a b c, r => pbnd (pe P a r) fun x => pbnd (pe P b r) fun y => match x, y with
    | .int i, .int j => if i ≤ j then pbnd (pe P c r) fun z => (match z with
        | .int k => pret (.bl (decide (j ≤ k)))
        | _ => pbad) else pret (.bl false)
    | _, _ => pbad
  | .sl2 a b c, r => pbnd (pe P a r) fun x => pbnd (pe P b r) fun y => match y with
    | .int i => pbnd (pe P c r) fun z => lft (slD true true [x, .int i, z])
    | _ => pbad
  | .comp m elt tg k its cond own, r => pbnd (pes P its r) fun ds => match pitems k ds with
    | some xs => pbnd (pnoexc (pcompL (fun d => bindTg tg d (wipeE r own)) (pconds P cond) (pe P elt) xs)) fun l => lft (mkL false l)
    | none => pbad
def pes (P : Nat → List D → PM D) : List E → Env → PM (List D)
  | [], _ => pret []
  | e :: es, r => pbnd (pe P e r) fun d => pbnd (pes P es r) fun ds => pret (d :: ds)
def pconds (P : Nat → List D → PM D) : List E → Env → PM Bool
  | [], _ => pret true
  | e :: _, r => pbnd (pe P e r) fun d => match d with
    | .bl b => pret b
    | _ => pbad
end
/-- what a method does to a list of one's own -/
def pmut : Op → List D → List D → Option (D × List D)
  | .append, l, [x] => if l.length < 100000 then some (.non, l ++ [x]) else none
  | .extend, l, [.lst r] => if l.length + r.length ≤ 100000 then some (.non, l ++ r) else none
  | .insert, l, [.int i, x] => if 0 ≤ i ∧ i ≤ 100000 ∧ l.length < 100000 then some (.non, l.take i.toNat ++ x :: l.drop i.toNat) else none
  | .pop0, l, [] => match l.getLast? with
    | some x => some (x, l.dropLast)
    | none => none
  | .pop1, l, [.int i] => if 0 ≤ i ∧ i ≤ 100000 then (match l[i.toNat]? with
    | some x => some (x, l.eraseIdx i.toNat)
    | none => none) else none
  | .remove, l, [x] => if (pu 9 x && l.all (pu 9)) = true then (match l.findIdx? fun z => eqD z x with
    | some j => some (.non, l.eraseIdx j)
    | none => none) else none
  | _, _, _ => none
def isMut : Op → Bool
  | .append => true
  | .extend => true
  | .insert => true
  | .pop0 => true
  | .pop1 => true
  | .remove => true
  | _ => false
def doMut (own : List Nat) (o : Op) (i : Nat) (ds : List D) (r : Env) : PM (D × Env) := match r[i]? with
  | some (some (.lst l)) => if own.contains i = true then (match pmut o l ds with
    | some (d, l') => pret (d, r.set i (some (.lst l')))
    | none => pbad) else pbad
  | some (some (.ref 0)) => fun c => match o, ds with
    | .append, [.int 0] => if c < 100000 then .ok (.non, r) (c + 1) else .bad
    | _, _ => .bad
  | _ => pbad
def okSlot (own : List Nat) (r : Env) (i : Nat) : Bool := match r[i]? with
  | some (some (.lst _)) => own.contains i
  | some (some (.ref 0)) => true
  | _ => false
mutual
def px (P : Nat → List D → PM D) (own : List Nat) : E → Env → PM (D × Env)
  | .mth o (.var i) l, r => if isMut o = true then (if okSlot own r i = true then pbnd (pxs P own l r) fun p => doMut own o i p.1 p.2 else pbad) else pbnd (pe P (.mth o (.var i) l) r) fun d => pret (d, r)
  | e, r => pbnd (pe P e r) fun d => pret (d, r)
def pxs (P : Nat → List D → PM D) (own : List Nat) : List E → Env → PM (List D × Env)
  | [], r => pret ([], r)
  | e :: es, r => pbnd (px P own e r) fun p => pbnd (pxs P own es p.2) fun q => pret (p.1 :: q.1, q.2)
end
def pforL (bd : D → Env → Option Env) (body : Env → PM Fl) : List D → Env → PM Fl
  | [], r => pret (.next r)
  | x :: xs, r => match bd x r with
    | some r1 => pbnd (body r1) fun f => match f with
      | .next r2 => pforL bd body xs r2
      | .ret d => pret (.ret d)
    | none => pbad
def pwhileL (c : Env → PM D) (body : Env → PM Fl) : Nat → Env → PM Fl
  | 0, _ => pbad
  | n + 1, r => pbnd (c r) fun x => match x with
    | .bl true => pbnd (body r) fun f => (match f with
      | .next r2 => pwhileL c body n r2
      | .ret d => pret (.ret d))
    | .bl false => pret (.next r)
    | _ => pbad
def doPut (o : Nat) (y z : D) (r : Env) : PM Fl := match r[o]?, y with
  | some (some (.lst l)), .int k => (match ixN l.length k with
    | some j => pret (.next (r.set o (some (.lst (l.set j z)))))
    | none => pbad)
  | _, _ => pbad
mutual
def pex (P : Nat → List D → PM D) (own : List Nat) : S → Env → PM Fl
  | .asg i e, r => pbnd (px P own e r) fun p => pret (.next (p.2.set i (some p.1)))
  | .par i j a b, r => pbnd (pe P a r) fun x => pbnd (pe P b r) fun y => pret (.next ((r.set i (some x)).set j (some y)))
  | .asgT l e, r => pbnd (pe P e r) fun d => match bindTg (.many l) d r with
    | some r1 => pret (.next r1)
    | none => pbad
  | .put (.var o) i v, r => pbnd (pe P v r) fun z => if okSlot own r o = true then pbnd (pe P i r) (fun y => doPut o y z r) else pbad
  | .exp e, r => pbnd (px P own e r) fun p => pret (.next p.2)
  | .rtn e, r => pbnd (pe P e r) fun d => pret (.ret d)
  | .ite c a b, r => pbnd (pe P c r) fun x => match x with
    | .bl true => pexs P own a r
    | .bl false => pexs P own b r
    | _ => pbad
  | .for_ tg k its body, r => pbnd (pes P its r) fun ds => match pitems k ds with
    | some xs => pforL (bindTg tg) (pexs P own body) xs r
    | none => pbad
  | .while_ c body, r => pwhileL (pe P c) (pexs P own body) 1000 r
  | .raise c l, r => pbnd (pes P l r) fun ds k => match ds with
    | [.str _] => .exc ⟨c, none⟩ k
    | [d] => .exc ⟨c, some d⟩ k
    | _ => .bad
  | .pass, r => pret (.next r)
  | _, _ => pbad
def pexs (P : Nat → List D → PM D) (own : List Nat) : List S → Env → PM Fl
  | [], r => pret (.next r)
  | s :: ss, r => pbnd (pex P own s r) fun f => match f with
    | .next r1 => pexs P own ss r1
    | .ret d => pret (.ret d)
end
def poutOf (m : PM Fl) : PM D := pbnd m fun f => match f with
  | .next _ => pret .non
  | .ret d => pret d
/-- the slots that get new lists -/
def isNew : E → Bool
  | .op (.lst m) _ => m
  | .op (.add m) _ => m
  | .op (.mul m) _ => m
  | .op (.list m) _ => m
  | .op (.sorted m) _ => m
  | .comp m _ _ _ _ _ _ => m
  | .ife _ a b => isNew a || isNew b
  | _ => false
mutual
def owns : S → List Nat
  | .asg i e => if isNew e = true then [i] else []
  | .par i j a b => (if isNew a = true then [i] else []) ++ (if isNew b = true then [j] else [])
  | .ite _ a b => ownss a ++ ownss b
  | .for_ _ _ _ b => ownss b
  | .while_ _ b => ownss b
  | .asgT l (.op .tup es) => if es.any isNew = true then l else []
  | _ => []
def ownss : List S → List Nat
  | [] => []
  | s :: ss => owns s ++ ownss ss
end
def FnDef.prun (P : Nat → List D → PM D) (f : FnDef) (ds : List D) : PM D :=
  if ds.length = f.np then poutOf (pexs P (ownss f.body) f.body (startE f.np f.ns ds)) else pbad
def pruns (T : Nat → Option FnDef) : Nat → Nat → List D → PM D
  | 0 => fun _ _ => pbad
  | k + 1 => fun f ds => match T f with
    | some fd => fd.prun (pruns T k) ds
    | none => pbad
end TS

set_option Elab.async false
set_option linter.all false
set_option maxRecDepth 100000
set_option maxHeartbeats 4000000
/-! TQ2: what stands in cells beside what stands by value: operations. -/
namespace TS
open PySem
mutual
def clean : D → Bool
  | .ref n => decide (n = 0)
  | .tup l => cleans l
  | .lst l => cleans l
  | _ => true
def cleans : List D → Bool
  | [] => true
  | d :: l => clean d && cleans l
end
theorem cleans_iff : ∀ {l : List D}, cleans l = true ↔ ∀ d ∈ l, clean d = true
  | [] => by simp [cleans]
  | d :: l => by simp [cleans, cleans_iff (l := l)]
def cleanC : Cell → Bool
  | .dead => true
  | .lst l => cleans l
  | .dct kvs => kvs.all fun p => clean p.1 && clean p.2
  | .ins _ fs => fs.all fun p => clean p.2
theorem cleans_app {a b : List D} (h1 : cleans a = true) (h2 : cleans b = true) : cleans (a ++ b) = true := by
  rw [cleans_iff] at *
  intro d hd
  rcases List.mem_append.mp hd with q | q
  · exact h1 d q
  · exact h2 d q
theorem cleans_sub {a b : List D} (h : ∀ x ∈ a, x ∈ b) (h2 : cleans b = true) : cleans a = true := by
  rw [cleans_iff] at *
  exact fun d hd => h2 d (h d hd)
theorem clean_Tn (c : Nat) : cleanC (Tn c) = true := by
  simp only [cleanC, Tn, cleans_iff]
  intro d hd
  rw [(List.mem_replicate.mp hd).2]; rfl
def VR (h : Hh) (d d' : D) : Prop := (d = d' ∧ clean d = true) ∨ ∃ n l, d = .ref n ∧ 0 < n ∧ h[n]? = some (.lst l) ∧ d' = .lst l
inductive VRs (h : Hh) : List D → List D → Prop
  | nil : VRs h [] []
  | cons {d d' : D} {l l' : List D} : VR h d d' → VRs h l l' → VRs h (d :: l) (d' :: l')
def Hc (h : Hh) : Prop := ∀ (n : Nat) (x : Cell), h[n]? = some x → cleanC x = true
section
variable {h : Hh} {d d' : D} {c : Nat}
theorem VR.refl (q : clean d = true) : VR h d d := .inl ⟨rfl, q⟩
theorem VR.non (V : VR h d .non) : d = .non := by rcases V with ⟨e, _⟩ | ⟨n, l, _, _, _, e⟩; exact e; cases e
theorem VR.int {i : Int} (V : VR h d (.int i)) : d = .int i := by rcases V with ⟨e, _⟩ | ⟨n, l, _, _, _, e⟩; exact e; cases e
theorem VR.bl {i : Bool} (V : VR h d (.bl i)) : d = .bl i := by rcases V with ⟨e, _⟩ | ⟨n, l, _, _, _, e⟩; exact e; cases e
theorem VR.str {i : Str} (V : VR h d (.str i)) : d = .str i := by rcases V with ⟨e, _⟩ | ⟨n, l, _, _, _, e⟩; exact e; cases e
theorem VR.tup {i : List D} (V : VR h d (.tup i)) : d = .tup i := by rcases V with ⟨e, _⟩ | ⟨n, l, _, _, _, e⟩; exact e; cases e
theorem VR.scr {i : List Int} (V : VR h d (.scr i)) : d = .scr i := by rcases V with ⟨e, _⟩ | ⟨n, l, _, _, _, e⟩; exact e; cases e
theorem VR.gl {i : Nat} (V : VR h d (.gl i)) : d = .gl i := by rcases V with ⟨e, _⟩ | ⟨n, l, _, _, _, e⟩; exact e; cases e
theorem VR.rf {i : Nat} (V : VR h d (.ref i)) : d = .ref 0 ∧ i = 0 := by
  rcases V with ⟨e, q⟩ | ⟨n, l, _, _, _, e⟩
  · subst e; rw [clean] at q; have := of_decide_eq_true q; subst this; exact ⟨rfl, rfl⟩
  · cases e
theorem VR.cl (V : VR h d d') (H : Hc h) : clean d' = true := by
  rcases V with ⟨rfl, q⟩ | ⟨n, l, rfl, _, hl, rfl⟩
  · exact q
  · exact H n _ hl
theorem VRs.cl {ds ds' : List D} (V : VRs h ds ds') (H : Hc h) : cleans ds' = true := by
  induction V with
  | nil => rfl
  | cons v _ ih => rw [cleans, v.cl H, ih]; rfl
theorem VR.top (V : VR h d d') (t : h[0]? = some (Tn c)) : top h d = top [Tn c] d' := by
  rcases V with ⟨rfl, q⟩ | ⟨n, l, rfl, _, hl, rfl⟩
  · cases d with
    | ref n =>
      rw [clean] at q; have := of_decide_eq_true q; subst this
      simp only [TS.top, t, List.getElem?_cons_zero]
    | _ => rfl
  · simp only [TS.top, hl]
theorem VR.lstT (V : VR h d d') (t : h[0]? = some (Tn c)) : lstT h d = lstT [Tn c] d' := by
  rcases V with ⟨rfl, q⟩ | ⟨n, l, rfl, _, hl, rfl⟩
  · cases d with
    | ref n =>
      rw [clean] at q; have := of_decide_eq_true q; subst this
      simp only [TS.lstT, t, List.getElem?_cons_zero]
    | _ => rfl
  · simp only [TS.lstT, hl]
theorem VR.seq (V : VR h d d') (t : h[0]? = some (Tn c)) : seqOf h d = seqOf [Tn c] d' := by rw [seqOf, seqOf, V.top t]
theorem VR.lst (V : VR h d d') (t : h[0]? = some (Tn c)) : lstOf h d = lstOf [Tn c] d' := by rw [lstOf, lstOf, V.top t]
theorem VR.isTy (V : VR h d d') (t : h[0]? = some (Tn c)) (y : Ty) : isTy y d h = isTy y d' [Tn c] := by
  rcases V with ⟨rfl, q⟩ | ⟨n, l, rfl, _, hl, rfl⟩
  · cases d with
    | ref n =>
      rw [clean] at q; have := of_decide_eq_true q; subst this
      simp only [TS.isTy, t, List.getElem?_cons_zero]
    | _ => rfl
  · simp only [TS.isTy, hl]
theorem VR.len (V : VR h d d') (t : h[0]? = some (Tn c)) {a : D} {h1 : Hh} (e : lenD d' [Tn c] = .ok a h1) : lenD d h = .ok a h := by
  have hs := V.seq t
  cases d' with
  | str s =>
    rw [V.str]
    simp only [lenD] at e ⊢
    split at e
    · rename_i q; cases e; rw [if_pos q]
    · cases e
  | _ =>
    have : lenD d h = match seqOf h d with
      | some l => .ok (.int l.length) h
      | none => .bad := by
      cases d with
      | str s => rcases V with ⟨q, _⟩ | ⟨_, _, q, _⟩ <;> cases q
      | _ => rfl
    rw [this, hs]
    simp only [lenD] at e
    split at e
    · rename_i q; cases e; (try rw [q]); (try rfl)
    · cases e
theorem cleans_seq {l : List D} (q : clean d = true) (e : seqOf [Tn c] d = some l) : cleans l = true := by
  unfold seqOf at e
  cases d with
  | tup m => cases e; exact q
  | lst m => cases e; exact q
  | scr m =>
    cases e
    rw [cleans_iff]
    intro x hx
    obtain ⟨y, _, rfl⟩ := List.mem_map.mp hx
    rfl
  | ref n =>
    rw [clean] at q; have := of_decide_eq_true q; subst this
    simp only [TS.top, List.getElem?_cons_zero, Tn] at e
    cases e
    exact clean_Tn c
  | _ => cases e
theorem cleans_lstT {l : List D} (q : clean d = true) (e : TS.lstT [Tn c] d = some l) : cleans l = true := by
  cases d with
  | lst m => cases e; exact q
  | ref n =>
    rw [clean] at q; have := of_decide_eq_true q; subst this
    simp only [TS.lstT, List.getElem?_cons_zero, Tn] at e
    cases e
    exact clean_Tn c
  | _ => cases e
theorem seq_of_lst {l : List D} (e : lstOf h d = some l) : seqOf h d = some l := by
  unfold lstOf at e; unfold seqOf
  split at e
  · rename_i q; cases e; rw [q]
  · cases e
theorem atI_mem {α : Type} {l : List α} {k : Int} {x : α} (e : TS.atI l k = some x) : x ∈ l := by
  unfold TS.atI at e
  cases q : ixN l.length k with
  | none => rw [q] at e; cases e
  | some j => rw [q] at e; exact List.mem_of_getElem? e
theorem cut_mem {α : Type} {l : List α} {a b : Option Int} {x : α} (e : x ∈ cut l a b) : x ∈ l := List.mem_of_mem_drop (List.mem_of_mem_take e)
end
/-- operations that only read -/
def rdOp : Op → Bool
  | .call _ => false
  | .tup => false
  | .lst _ => false
  | .append => false
  | .extend => false
  | .insert => false
  | .pop0 => false
  | .pop1 => false
  | .remove => false
  | .frz => false
  | .count => false
  | .index => false
  | .gget _ => false
  | .add m => !m
  | .mul m => !m
  | .list m => !m
  | .sorted m => !m
  | _ => true
theorem lft_ok {m : M D} {c : Nat} {a : D} {c1 : Nat} (e : lft m c = .ok a c1) : c1 = c ∧ ∃ h1, m [Tn c] = .ok a h1 := by
  unfold lft at e
  split at e
  · rename_i x h1 q
    cases e
    exact ⟨rfl, h1, q⟩
  · cases e
theorem lft_ne {m : M D} {c : Nat} {x : Exn} {c1 : Nat} : lft m c ≠ .exc x c1 := by
  unfold lft
  split <;> (intro q; cases q)
theorem a1_ok {f : D → M D} {ds : List D} {h h1 : Hh} {a : D} (e : a1 f ds h = .ok a h1) : ∃ x, ds = [x] ∧ f x h = .ok a h1 := by
  match ds, e with
  | [x], e => exact ⟨x, rfl, e⟩
  | [], e => cases e
  | _ :: _ :: _, e => cases e
theorem a2_ok {f : D → D → M D} {ds : List D} {h h1 : Hh} {a : D} (e : a2 f ds h = .ok a h1) : ∃ x y, ds = [x, y] ∧ f x y h = .ok a h1 := by
  match ds, e with
  | [x, y], e => exact ⟨x, y, rfl, e⟩
  | [], e => cases e
  | [_], e => cases e
  | _ :: _ :: _ :: _, e => cases e
theorem int2_ok {f : Int → Int → M D} {x y : D} {h h1 : Hh} {a : D} (e : int2 f x y h = .ok a h1) : ∃ i j, x = .int i ∧ y = .int j ∧ f i j h = .ok a h1 := by
  unfold int2 at e
  split at e
  · exact ⟨_, _, rfl, rfl, e⟩
  · cases e
theorem VRs.one {h : Hh} {ds : List D} {x : D} (V : VRs h ds [x]) : ∃ y, ds = [y] ∧ VR h y x := by
  cases V with
  | cons v w => cases w; exact ⟨_, rfl, v⟩
theorem VRs.two {h : Hh} {ds : List D} {x y : D} (V : VRs h ds [x, y]) : ∃ u v, ds = [u, v] ∧ VR h u x ∧ VR h v y := by
  cases V with
  | cons v w => obtain ⟨u, rfl, z⟩ := w.one; exact ⟨_, _, rfl, v, z⟩
theorem VRs.partO {h : Hh} {ds ds' : List D} {b : Bool} {o : Option Int} {r : List D} (V : VRs h ds ds') (e : partO b ds' = some (o, r)) : ∃ r', partO b ds = some (o, r') ∧ VRs h r' r := by
  cases b with
  | false => cases e; exact ⟨ds, rfl, V⟩
  | true =>
    cases V with
    | nil => cases e
    | cons v w =>
      rename_i d d' l l'
      cases d' with
      | int i =>
        cases e
        rw [v.int]
        exact ⟨l, rfl, w⟩
      | _ => cases e
theorem sl_sim {h : Hh} {c : Nat} {ds ds' : List D} {lo hi : Bool} (V : VRs h ds ds') (t : h[0]? = some (Tn c)) {a : D} {h1 : Hh} (e : slD lo hi ds' [Tn c] = .ok a h1) : slD lo hi ds h = .ok a h := by
  cases V with
  | nil => cases e
  | cons v w =>
    rename_i d d' l l'
    unfold slD at e
    dsimp only at e
    split at e
    · rename_i lo' r1 q1
      split at e
      · rename_i hi' q2
        obtain ⟨r1', p1, w1⟩ := w.partO q1
        obtain ⟨r2', p2, w2⟩ := w1.partO q2
        cases w2
        unfold slD
        simp only [p1, p2]
        split at e
        · rw [v.str]
          dsimp only
          split at e
          · rename_i q; cases e; rw [if_pos q]
          · cases e
        · rw [v.tup]; cases e; rfl
        · rename_i n1 n2
          split at e
          · rename_i xs q3
            cases e
            rw [← v.lst t] at q3
            split
            · rename_i z; exact absurd q3 (by simp [lstOf, TS.top])
            · rename_i z; exact absurd q3 (by simp [lstOf, TS.top])
            · rw [q3]
          · cases e
      · cases e
    · cases e
theorem in_sim {h : Hh} {c : Nat} {n : Bool} {x x' y y' : D} (v1 : VR h x x') (v2 : VR h y y') (t : h[0]? = some (Tn c)) {a : D} {h1 : Hh} (e : inD n x' y' [Tn c] = .ok a h1) : inD n x y h = .ok a h := by
  unfold inD at e
  split at e
  · rw [v1.str, v2.str]
    unfold inD
    dsimp only
    split at e
    · cases e; rfl
    · cases e
  · split at e
    · rename_i z l q
      rw [← v2.seq t] at q
      have : inD n x y h = if (pu 9 (top h x) && l.all (pu 9)) = true then .ok (.bl (n != l.any fun z => eqD z (top h x))) h else .bad := by
        unfold inD
        split
        · cases q
        · rw [q]
      rw [this, v1.top t]
      split at e
      · rename_i q; rw [if_pos q]; cases e; rfl
      · cases e
    · rename_i q
      split at e
      · rename_i m
        obtain ⟨_, rfl⟩ := v2.rf
        simp [seqOf, TS.top, Tn] at q
      · cases e
theorem ix_sim {h : Hh} {c : Nat} {x x' y y' : D} (v1 : VR h x x') (v2 : VR h y y') (t : h[0]? = some (Tn c)) {a : D} {h1 : Hh} (e : ixD x' y' [Tn c] = .ok a h1) : ixD x y h = .ok a h := by
  unfold ixD at e
  split at e
  · rw [v1.str, v2.int]
    unfold ixD
    dsimp only
    split at e
    · rename_i q
      split at e
      · rename_i q; rw [if_pos q]; cases e; rfl
      · cases e
    · cases e
  · split at e
    · rename_i l k q _
      rw [← v1.seq t] at q
      rw [v2.int]
      have : ixD x (.int k) h = match TS.atI l k with
        | some d => .ok d h
        | none => .bad := by
        unfold ixD
        split
        · cases q
        · rw [q]; (try rfl)
      rw [this]
      split at e
      · rename_i q; (try rw [q]); cases e; rfl
      · cases e
    · rename_i q
      split at e
      · rename_i m
        obtain ⟨_, rfl⟩ := v1.rf
        simp only [List.getElem?_cons_zero, Tn] at e
        cases e
      · cases e
theorem rd_sim {Phi : Nat → List D → M D} {P : Nat → List D → PM D} {h : Hh} {c : Nat} {o : Op} {ds ds' : List D} (ho : rdOp o = true) (V : VRs h ds ds') (t : h[0]? = some (Tn c)) {a : D} {c1 : Nat} (e : pprim P o ds' c = .ok a c1) : c1 = c ∧ prim Phi o ds h = .ok a h := by
  cases o <;> (try (cases ho; done)) <;> (try (simp only [rdOp, Bool.not_eq_true'] at ho; subst ho)) <;> (try (refine absurd e ?_; simp [pprim, lft, prim, mbad]; done)) <;> (replace e := lft_ok e; obtain ⟨rfl, h1, e⟩ := e; refine ⟨rfl, ?_⟩)
  case add =>
    obtain ⟨x, y, hd, e'⟩ := a2_ok e
    clear e; subst hd; have e := e'; clear e'
    obtain ⟨u, v, rfl, v1, v2⟩ := V.two
    show addD false u v h = _
    unfold addD at e
    split at e
    · rw [v1.int, v2.int]; cases e; rfl
    · rw [v1.str, v2.str]
      split at e
      · rename_i q; cases e; simp only [addD, if_pos q]
      · cases e
    · rw [v1.tup, v2.tup]
      simp only [mkT] at e
      split at e
      · rename_i q; cases e; simp only [addD, mkT, if_pos q]; rfl
      · cases e
    · split at e
      · rename_i l r q1 q2
        rw [← v1.lstT t] at q1
        rw [← v2.lstT t] at q2
        have : addD false u v h = mkL false (l ++ r) h := by
          unfold addD
          split
          · cases q1
          · cases q1
          · cases q1
          · rw [q1, q2]
        rw [this]
        simp only [mkL] at e ⊢
        split at e
        · rename_i q; rw [if_pos q]; cases e; rfl
        · cases e
      · cases e
  case sub => 
    obtain ⟨x, y, hd, e'⟩ := a2_ok e
    clear e; subst hd; have e := e'; clear e'
    obtain ⟨i, j, hx, hy, e'⟩ := int2_ok e
    clear e; subst hx; subst hy; have e := e'; clear e'
    obtain ⟨u, v, rfl, v1, v2⟩ := V.two
    rw [v1.int, v2.int]; cases e; rfl
  case mul =>
    obtain ⟨x, y, hd, e'⟩ := a2_ok e
    clear e; subst hd; have e := e'; clear e'
    obtain ⟨u, v, rfl, v1, v2⟩ := V.two
    show mulD false u v h = _
    unfold mulD at e
    split at e
    · rw [v1.int, v2.int]
      split at e
      · rename_i q; cases e; simp only [mulD, if_pos q]
      · cases e
    · rw [v2.int]
      split at e
      · rename_i n1 l q1
        rw [← v1.lstT t] at q1
        split at e
        · rename_i q
          rename_i k _
          have : mulD false u (.int k) h = mkL false (List.replicate k.toNat l).flatten h := by
            cases u <;> first | (cases q1; done) | (simp only [mulD, q1, if_pos q])
          rw [this]
          simp only [mkL] at e ⊢
          split at e
          · rename_i q; rw [if_pos q]; cases e; rfl
          · cases e
        · cases e
      · cases e
    · cases e
  case mod =>
    obtain ⟨x, y, hd, e'⟩ := a2_ok e
    clear e; subst hd; have e := e'; clear e'
    obtain ⟨i, j, hx, hy, e'⟩ := int2_ok e
    clear e; subst hx; subst hy; have e := e'; clear e'
    obtain ⟨u, v, rfl, v1, v2⟩ := V.two
    rw [v1.int, v2.int]
    show pMod i j h = _
    simp only [pMod, guardM] at e ⊢
    split at e
    · rename_i q; rw [if_pos q]; cases e; rfl
    · cases e
  case pow =>
    obtain ⟨x, y, hd, e'⟩ := a2_ok e
    clear e; subst hd; have e := e'; clear e'
    obtain ⟨i, j, hx, hy, e'⟩ := int2_ok e
    clear e; subst hx; subst hy; have e := e'; clear e'
    obtain ⟨u, v, rfl, v1, v2⟩ := V.two
    rw [v1.int, v2.int]
    show pPow i j h = _
    simp only [pPow, guardM] at e ⊢
    split at e
    · rename_i q; rw [if_pos q]; cases e; rfl
    · cases e
  case neg =>
    obtain ⟨x, hd, e'⟩ := a1_ok e
    clear e; subst hd; have e := e'; clear e'
    obtain ⟨u, rfl, v⟩ := V.one
    cases x with
    | int i => rw [v.int]; cases e; rfl
    | _ => cases e
  case not =>
    obtain ⟨x, hd, e'⟩ := a1_ok e
    clear e; subst hd; have e := e'; clear e'
    obtain ⟨u, rfl, v⟩ := V.one
    cases x with
    | bl i => rw [v.bl]; cases e; rfl
    | _ => cases e
  case eq =>
    obtain ⟨x, y, hd, e'⟩ := a2_ok e
    clear e; subst hd; have e := e'; clear e'
    obtain ⟨u, v, rfl, v1, v2⟩ := V.two
    show eqH false u v h = _
    simp only [eqH, v1.top t, v2.top t] at e ⊢
    split at e
    · rename_i q; rw [if_pos q]; cases e; rfl
    · cases e
  case ne =>
    obtain ⟨x, y, hd, e'⟩ := a2_ok e
    clear e; subst hd; have e := e'; clear e'
    obtain ⟨u, v, rfl, v1, v2⟩ := V.two
    show eqH true u v h = _
    simp only [eqH, v1.top t, v2.top t] at e ⊢
    split at e
    · rename_i q; rw [if_pos q]; cases e; rfl
    · cases e
  case lt =>
    obtain ⟨x, y, hd, e'⟩ := a2_ok e
    clear e; subst hd; have e := e'; clear e'
    obtain ⟨i, j, hx, hy, e'⟩ := int2_ok e
    clear e; subst hx; subst hy; have e := e'; clear e'
    obtain ⟨u, v, rfl, v1, v2⟩ := V.two
    rw [v1.int, v2.int]; cases e; rfl
  case le =>
    obtain ⟨x, y, hd, e'⟩ := a2_ok e
    clear e; subst hd; have e := e'; clear e'
    obtain ⟨i, j, hx, hy, e'⟩ := int2_ok e
    clear e; subst hx; subst hy; have e := e'; clear e'
    obtain ⟨u, v, rfl, v1, v2⟩ := V.two
    rw [v1.int, v2.int]; cases e; rfl
  case gt =>
    obtain ⟨x, y, hd, e'⟩ := a2_ok e
    clear e; subst hd; have e := e'; clear e'
    obtain ⟨i, j, hx, hy, e'⟩ := int2_ok e
    clear e; subst hx; subst hy; have e := e'; clear e'
    obtain ⟨u, v, rfl, v1, v2⟩ := V.two
    rw [v1.int, v2.int]; cases e; rfl
  case ge =>
    obtain ⟨x, y, hd, e'⟩ := a2_ok e
    clear e; subst hd; have e := e'; clear e'
    obtain ⟨i, j, hx, hy, e'⟩ := int2_ok e
    clear e; subst hx; subst hy; have e := e'; clear e'
    obtain ⟨u, v, rfl, v1, v2⟩ := V.two
    rw [v1.int, v2.int]; cases e; rfl
  case isN =>
    obtain ⟨x, hd, e'⟩ := a1_ok e
    clear e; subst hd; have e := e'; clear e'
    obtain ⟨u, rfl, v⟩ := V.one
    rcases v with ⟨rfl, _⟩ | ⟨n, l, rfl, _, _, rfl⟩ <;> (cases e; rfl)
  case isnN =>
    obtain ⟨x, hd, e'⟩ := a1_ok e
    clear e; subst hd; have e := e'; clear e'
    obtain ⟨u, rfl, v⟩ := V.one
    rcases v with ⟨rfl, _⟩ | ⟨n, l, rfl, _, _, rfl⟩ <;> (cases e; rfl)
  case inn =>
    obtain ⟨x, y, hd, e'⟩ := a2_ok e
    clear e; subst hd; have e := e'; clear e'
    obtain ⟨u, v, rfl, v1, v2⟩ := V.two
    exact in_sim v1 v2 t e
  case nin =>
    obtain ⟨x, y, hd, e'⟩ := a2_ok e
    clear e; subst hd; have e := e'; clear e'
    obtain ⟨u, v, rfl, v1, v2⟩ := V.two
    exact in_sim v1 v2 t e
  case ix =>
    obtain ⟨x, y, hd, e'⟩ := a2_ok e
    clear e; subst hd; have e := e'; clear e'
    obtain ⟨u, v, rfl, v1, v2⟩ := V.two
    exact ix_sim v1 v2 t e
  case sl => exact sl_sim V t e
  case len =>
    obtain ⟨x, hd, e'⟩ := a1_ok e
    clear e; subst hd; have e := e'; clear e'
    obtain ⟨u, rfl, v⟩ := V.one
    exact v.len t e
  case all =>
    obtain ⟨x, hd, e'⟩ := a1_ok e
    clear e; subst hd; have e := e'; clear e'
    obtain ⟨u, rfl, v⟩ := V.one
    show pAll u h = _
    simp only [pAll, v.lst t] at e ⊢
    split at e
    · rename_i q; (try rw [q]); cases e; rfl
    · cases e
  case any =>
    obtain ⟨x, hd, e'⟩ := a1_ok e
    clear e; subst hd; have e := e'; clear e'
    obtain ⟨u, rfl, v⟩ := V.one
    show pAny u h = _
    simp only [pAny, v.lst t] at e ⊢
    split at e
    · rename_i q; (try rw [q]); cases e; rfl
    · cases e
  case tuple =>
    obtain ⟨x, hd, e'⟩ := a1_ok e
    clear e; subst hd; have e := e'; clear e'
    obtain ⟨u, rfl, v⟩ := V.one
    show pTuple u h = _
    simp only [pTuple, v.seq t] at e ⊢
    split at e
    · rename_i q; (try rw [q]); cases e; rfl
    · cases e
  case list =>
    obtain ⟨x, hd, e'⟩ := a1_ok e
    clear e; subst hd; have e := e'; clear e'
    obtain ⟨u, rfl, v⟩ := V.one
    show pList false u h = _
    simp only [pList, v.seq t] at e ⊢
    split at e
    · rename_i q; (try rw [q])
      simp only [mkL] at e ⊢
      split at e
      · rename_i q; rw [if_pos q]; cases e; rfl
      · cases e
    · cases e
  case sorted =>
    obtain ⟨x, hd, e'⟩ := a1_ok e
    clear e; subst hd; have e := e'; clear e'
    obtain ⟨u, rfl, v⟩ := V.one
    show pSorted false u h = _
    simp only [pSorted, v.seq t] at e ⊢
    split at e
    · rename_i q; (try rw [q])
      (try dsimp only)
      split at e
      · rename_i q
        rw [if_pos q]
        simp only [mkL] at e ⊢
        split at e
        · rename_i q; rw [if_pos q]; cases e; rfl
        · cases e
      · cases e
    · cases e
  case lenset =>
    obtain ⟨x, hd, e'⟩ := a1_ok e
    clear e; subst hd; have e := e'; clear e'
    obtain ⟨u, rfl, v⟩ := V.one
    show pLenset u h = _
    simp only [pLenset, v.seq t] at e ⊢
    split at e
    · rename_i q; (try rw [q])
      (try dsimp only)
      split at e
      · rename_i q; rw [if_pos q]; cases e; rfl
      · cases e
    · cases e
  case srtset =>
    obtain ⟨x, hd, e'⟩ := a1_ok e
    clear e; subst hd; have e := e'; clear e'
    obtain ⟨u, rfl, v⟩ := V.one
    show pSrtset u h = _
    simp only [pSrtset, v.seq t] at e ⊢
    split at e
    · rename_i q; (try rw [q])
      (try dsimp only)
      split at e
      · rename_i q; rw [if_pos q]; cases e; rfl
      · cases e
    · cases e
  case toInt =>
    obtain ⟨x, hd, e'⟩ := a1_ok e
    clear e; subst hd; have e := e'; clear e'
    obtain ⟨u, rfl, v⟩ := V.one
    cases x with
    | int i => rw [v.int]; cases e; rfl
    | bl i => rw [v.bl]; cases e; rfl
    | _ => cases e
  case isi =>
    obtain ⟨x, hd, e'⟩ := a1_ok e
    clear e; subst hd; have e := e'; clear e'
    obtain ⟨u, rfl, v⟩ := V.one
    show pIsi _ u h = _
    simp only [pIsi, v.isTy t] at e ⊢
    split at e
    · rename_i q; (try rw [q]); cases e; rfl
    · cases e
  case strip =>
    obtain ⟨x, y, hd, e'⟩ := a2_ok e
    clear e; subst hd; have e := e'; clear e'
    obtain ⟨u, v, rfl, v1, v2⟩ := V.two
    unfold pStrip at e
    split at e
    · rw [v1.str, v2.str]
      show pStrip (.str _) (.str _) h = _
      simp only [pStrip, guardM] at e ⊢
      split at e
      · rename_i q; rw [if_pos q]; cases e; rfl
      · cases e
    · cases e
/-- operations over values -/
def nvOp : Op → Bool
  | .tup => true
  | .lst m => !m
  | .count => true
  | .index => true
  | .gget _ => true
  | _ => false
theorem VRs.refl {h : Hh} : ∀ {ds : List D}, cleans ds = true → VRs h ds ds
  | [], _ => .nil
  | d :: l, q => by
    simp only [cleans, Bool.and_eq_true] at q
    exact .cons (.refl q.1) (VRs.refl q.2)
/-- the first one read, the others values -/
theorem nv_sim {Phi : Nat → List D → M D} {P : Nat → List D → PM D} {h : Hh} {c : Nat} {o : Op} {ds : List D} (ho : nvOp o = true) (V : cleans ds = true) (t : h[0]? = some (Tn c)) {a : D} {c1 : Nat} (e : pprim P o ds c = .ok a c1) : c1 = c ∧ prim Phi o ds h = .ok a h := by
  cases o <;> (try (cases ho; done)) <;> (try (simp only [nvOp, Bool.not_eq_true'] at ho; subst ho)) <;> (replace e := lft_ok e; obtain ⟨rfl, h1, e⟩ := e; refine ⟨rfl, ?_⟩)
  case tup =>
    show mkT ds h = _
    simp only [mkT] at e ⊢
    split at e
    · rename_i q; (try rw [if_pos q]); cases e; rfl
    · cases e
  case lst =>
    show mkL false ds h = _
    simp only [mkL] at e ⊢
    split at e
    · rename_i q; (try rw [if_pos q]); cases e; rfl
    · cases e
  case count =>
    obtain ⟨x, y, hd, e'⟩ := a2_ok e
    clear e; subst hd; have e := e'; clear e'
    simp only [cleans, Bool.and_eq_true] at V
    show pCount x y h = _
    simp only [pCount, (VR.refl (h := h) V.1).lst t] at e ⊢
    split at e
    · rename_i q; (try rw [q])
      (try dsimp only)
      split at e
      · rename_i q; (try rw [if_pos q]); cases e; rfl
      · cases e
    · cases e
  case index =>
    obtain ⟨x, y, hd, e'⟩ := a2_ok e
    clear e; subst hd; have e := e'; clear e'
    simp only [cleans, Bool.and_eq_true] at V
    show pIndex x y h = _
    simp only [pIndex, (VR.refl (h := h) V.1).seq t] at e ⊢
    split at e
    · rename_i q; (try rw [q])
      (try dsimp only)
      split at e
      · rename_i q; (try rw [if_pos q])
        split at e
        · cases e; rfl
        · cases e
      · cases e
    · cases e
  case gget =>
    obtain ⟨x, y, hd, e'⟩ := a2_ok e
    clear e; subst hd; have e := e'; clear e'
    show pGget _ x y h = _
    cases x with
    | str k => cases e; rfl
    | _ => cases e
/-- methods that read: the owner read, the others values -/
theorem mth_sim {Phi : Nat → List D → M D} {P : Nat → List D → PM D} {h : Hh} {c : Nat} {o : Op} {d d' : D} {ds : List D} (ho : (rdOp o || nvOp o) = true) (V : VR h d d') (W : cleans ds = true) (t : h[0]? = some (Tn c)) {a : D} {c1 : Nat} (k : kindOk o d' [] = true) (e : pprim P o (d' :: ds) c = .ok a c1) : c1 = c ∧ prim Phi o (d :: ds) h = .ok a h := by
  by_cases hr : rdOp o = true
  · exact rd_sim hr (.cons V (VRs.refl W)) t e
  · have hn : nvOp o = true := by simpa [hr] using ho
    rcases V with ⟨rfl, q⟩ | ⟨n, l, rfl, hn0, hl, rfl⟩
    · exact nv_sim hn (by rw [cleans, q, W]; rfl) t e
    · cases o <;> (try (cases hn; done)) <;> (try (cases k; done))
      case count =>
        replace e := lft_ok e; obtain ⟨rfl, h1, e⟩ := e; refine ⟨rfl, ?_⟩
        obtain ⟨x, y, hd, e'⟩ := a2_ok e
        clear e; cases hd; have e := e'; clear e'
        show pCount (.ref n) y h = _
        simp only [pCount, lstOf, TS.top, hl] at e ⊢
        split at e
        · rename_i q; (try rw [if_pos q]); cases e; rfl
        · cases e
      case index =>
        replace e := lft_ok e; obtain ⟨rfl, h1, e⟩ := e; refine ⟨rfl, ?_⟩
        obtain ⟨x, y, hd, e'⟩ := a2_ok e
        clear e; cases hd; have e := e'; clear e'
        show pIndex (.ref n) y h = _
        simp only [pIndex, seqOf, TS.top, hl] at e ⊢
        split at e
        · rename_i q; (try rw [if_pos q])
          split at e
          · cases e; rfl
          · cases e
        · cases e
theorem ok_clean {r : PR D} {a : D} {c : Nat} (e : r = .ok a c) : r = .ok a c := e
theorem cleans_strs (l : List Str) : cleans (l.map D.str) = true := by
  rw [cleans_iff]; intro d hd; obtain ⟨x, _, rfl⟩ := List.mem_map.mp hd; rfl
theorem prim_clean {P : Nat → List D → PM D} {c : Nat} {o : Op} {ds : List D} (ho : (rdOp o || nvOp o || isNew (.op o [])) = true) (V : cleans ds = true) {a : D} {c1 : Nat} (e : pprim P o ds c = .ok a c1) : clean a = true := by
  cases o <;> (try (cases ho; done)) <;> (try (refine absurd e ?_; simp [pprim, lft, prim, mbad]; done)) <;> (replace e := lft_ok e; obtain ⟨rfl, h1, e⟩ := e)
  case tup => simp only [mkT] at e; split at e <;> cases e; exact V
  case lst => simp only [mkL] at e; split at e <;> cases e; exact V
  case add =>
    obtain ⟨x, y, hd, e'⟩ := a2_ok e
    clear e; subst hd; have e := e'; clear e'
    simp only [cleans, Bool.and_eq_true] at V
    unfold addD at e
    split at e
    · cases e; rfl
    · split at e <;> cases e; rfl
    · simp only [mkT] at e; split at e <;> cases e; exact cleans_app V.1 V.2.1
    · split at e
      · rename_i q1 q2
        simp only [mkL] at e; split at e <;> cases e
        exact cleans_app (cleans_lstT V.1 q1) (cleans_lstT V.2.1 q2)
      · cases e
  case mul =>
    obtain ⟨x, y, hd, e'⟩ := a2_ok e
    clear e; subst hd; have e := e'; clear e'
    simp only [cleans, Bool.and_eq_true] at V
    unfold mulD at e
    split at e
    · split at e <;> cases e; rfl
    · split at e
      · rename_i q1
        split at e
        · simp only [mkL] at e; split at e <;> cases e
          refine cleans_sub (fun z hz => ?_) (cleans_lstT V.1 q1)
          obtain ⟨l, h1, h2⟩ := List.mem_flatten.mp hz
          rw [(List.mem_replicate.mp h1).2] at h2
          exact h2
        · cases e
      · cases e
    · cases e
  case ix =>
    obtain ⟨x, y, hd, e'⟩ := a2_ok e
    clear e; subst hd; have e := e'; clear e'
    simp only [cleans, Bool.and_eq_true] at V
    unfold ixD at e
    split at e
    · split at e
      · split at e <;> cases e; rfl
      · cases e
    · split at e
      · rename_i q _
        split at e
        · rename_i q2; cases e
          exact cleans_iff.mp (cleans_seq V.1 q) _ (atI_mem q2)
        · cases e
      · split at e
        · rename_i m q
          have := V.1
          rw [clean] at this; have := of_decide_eq_true this; subst this
          simp only [List.getElem?_cons_zero, Tn] at e
          cases e
        · cases e
  case sl lo hi =>
    replace e : slD lo hi ds [Tn c1] = .ok a h1 := e
    unfold slD at e
    split at e
    · rename_i z r
      simp only [cleans, Bool.and_eq_true] at V
      split at e
      · split at e
        · split at e
          · split at e <;> cases e; rfl
          · cases e
            exact cleans_sub (fun z hz => cut_mem hz) V.1
          · split at e
            · rename_i q; cases e
              exact cleans_sub (fun z hz => cut_mem hz) (cleans_seq V.1 (seq_of_lst q))
            · cases e
        · cases e
      · cases e
    · cases e
  case tuple =>
    obtain ⟨x, hd, e'⟩ := a1_ok e
    clear e; subst hd; have e := e'; clear e'
    simp only [cleans, Bool.and_eq_true] at V
    unfold pTuple at e
    split at e
    · rename_i q; cases e; exact cleans_seq V.1 q
    · cases e
  case list =>
    obtain ⟨x, hd, e'⟩ := a1_ok e
    clear e; subst hd; have e := e'; clear e'
    simp only [cleans, Bool.and_eq_true] at V
    unfold pList at e
    split at e
    · rename_i q
      simp only [mkL] at e; split at e <;> cases e
      exact cleans_seq V.1 q
    · cases e
  case sorted =>
    obtain ⟨x, hd, e'⟩ := a1_ok e
    clear e; subst hd; have e := e'; clear e'
    unfold pSorted at e
    split at e
    · split at e
      · simp only [mkL] at e; split at e <;> cases e
        exact cleans_strs _
      · cases e
    · cases e
  case srtset =>
    obtain ⟨x, hd, e'⟩ := a1_ok e
    clear e; subst hd; have e := e'; clear e'
    unfold pSrtset at e
    split at e
    · split at e <;> cases e
      exact cleans_strs _
    · cases e
  case gget =>
    obtain ⟨x, y, hd, e'⟩ := a2_ok e
    clear e; subst hd; have e := e'; clear e'
    simp only [cleans, Bool.and_eq_true] at V
    cases x with
    | str k =>
      simp only [pGget, ret] at e
      split at e <;> cases e
      · rfl
      · exact V.2.1
    | _ => cases e
  case index =>
    obtain ⟨x, y, hd, e'⟩ := a2_ok e
    clear e; subst hd; have e := e'; clear e'
    unfold pIndex at e
    split at e
    · split at e
      · split at e <;> cases e; rfl
      · cases e
    · cases e
  case count =>
    obtain ⟨x, y, hd, e'⟩ := a2_ok e
    clear e; subst hd; have e := e'; clear e'
    unfold pCount at e
    split at e
    · split at e <;> cases e; rfl
    · cases e
  case len =>
    obtain ⟨x, hd, e'⟩ := a1_ok e
    clear e; subst hd; have e := e'; clear e'
    unfold lenD at e
    split at e
    · split at e <;> cases e; rfl
    · split at e <;> cases e; rfl
  case inn =>
    obtain ⟨x, y, hd, e'⟩ := a2_ok e
    clear e; subst hd; have e := e'; clear e'
    unfold inD at e
    (repeat' (split at e)) <;> cases e <;> rfl
  case nin =>
    obtain ⟨x, y, hd, e'⟩ := a2_ok e
    clear e; subst hd; have e := e'; clear e'
    unfold inD at e
    (repeat' (split at e)) <;> cases e <;> rfl
  case eq =>
    obtain ⟨x, y, hd, e'⟩ := a2_ok e
    simp only [eqH] at e'; split at e' <;> cases e'; rfl
  case ne =>
    obtain ⟨x, y, hd, e'⟩ := a2_ok e
    simp only [eqH] at e'; split at e' <;> cases e'; rfl
  case all =>
    obtain ⟨x, hd, e'⟩ := a1_ok e
    simp only [pAll] at e'; split at e' <;> cases e'; rfl
  case any =>
    obtain ⟨x, hd, e'⟩ := a1_ok e
    simp only [pAny] at e'; split at e' <;> cases e'; rfl
  case lenset =>
    obtain ⟨x, hd, e'⟩ := a1_ok e
    simp only [pLenset] at e'
    split at e'
    · split at e' <;> cases e'; rfl
    · cases e'
  case isi =>
    obtain ⟨x, hd, e'⟩ := a1_ok e
    simp only [pIsi] at e'; split at e' <;> cases e'; rfl
  case isN => obtain ⟨x, hd, e'⟩ := a1_ok e; cases e'; rfl
  case isnN => obtain ⟨x, hd, e'⟩ := a1_ok e; cases e'; rfl
  case neg => 
    obtain ⟨x, hd, e'⟩ := a1_ok e
    cases x <;> cases e'; rfl
  case not => 
    obtain ⟨x, hd, e'⟩ := a1_ok e
    cases x <;> cases e'; rfl
  case toInt => 
    obtain ⟨x, hd, e'⟩ := a1_ok e
    cases x <;> cases e' <;> rfl
  case strip =>
    obtain ⟨x, y, hd, e'⟩ := a2_ok e
    unfold pStrip at e'
    split at e'
    · simp only [guardM] at e'; split at e' <;> cases e'; rfl
    · cases e'
  all_goals
    obtain ⟨x, y, hd, e'⟩ := a2_ok e
    obtain ⟨i, j, hx, hy, e2⟩ := int2_ok e'
    first
      | (cases e2; rfl)
      | (simp only [pMod, pPow, guardM] at e2; split at e2 <;> cases e2; rfl)
def notLst : D → Bool
  | .lst _ => false
  | _ => true
/-- a new list: a cell of its own -/
theorem new_sim {Phi : Nat → List D → M D} {P : Nat → List D → PM D} {h : Hh} {c : Nat} {o : Op} {ds ds' : List D} (ho : isNew (.op o []) = true) (hl : o = .lst true → ds = ds') (V : VRs h ds ds') (t : h[0]? = some (Tn c)) {a : D} {c1 : Nat} (e : pprim P o ds' c = .ok a c1) :
    c1 = c ∧ ((prim Phi o ds h = .ok a h ∧ notLst a = true) ∨ ∃ l, a = .lst l ∧ prim Phi o ds h = .ok (.ref h.length) (h ++ [.lst l])) := by
  cases o <;> (try (cases ho; done)) <;> (simp only [isNew] at ho; subst ho)
  case lst =>
    rw [hl rfl]
    replace e := lft_ok e; obtain ⟨rfl, h1, e⟩ := e; refine ⟨rfl, .inr ?_⟩
    show ∃ l, a = .lst l ∧ mkL true ds' h = _
    simp only [mkL] at e ⊢
    split at e
    · rename_i q; cases e; exact ⟨_, rfl, by (try rw [if_pos q]); rfl⟩
    · cases e
  case add =>
    have e0 : pprim P (.add false) ds' c = .ok a c1 := e
    have r0 := rd_sim (Phi := Phi) (o := .add false) rfl V t e0
    replace e := lft_ok e; obtain ⟨rfl, h1, e⟩ := e; refine ⟨rfl, ?_⟩
    obtain ⟨x, y, hd, e'⟩ := a2_ok e
    clear e; subst hd; have e := e'; clear e'
    obtain ⟨u, v, rfl, v1, v2⟩ := V.two
    have r1 : addD false u v h = .ok a h := r0.2
    show (addD true u v h = _ ∧ _) ∨ ∃ l, a = .lst l ∧ addD true u v h = _
    unfold addD at r1 ⊢
    split at r1
    · exact .inl ⟨r1, by first | (cases r1; rfl) | (split at r1 <;> cases r1; rfl) | (simp only [mkT] at r1; split at r1 <;> cases r1; rfl)⟩
    · exact .inl ⟨r1, by first | (cases r1; rfl) | (split at r1 <;> cases r1; rfl) | (simp only [mkT] at r1; split at r1 <;> cases r1; rfl)⟩
    · exact .inl ⟨r1, by first | (cases r1; rfl) | (split at r1 <;> cases r1; rfl) | (simp only [mkT] at r1; split at r1 <;> cases r1; rfl)⟩
    · split at r1
      · refine .inr ?_
        rename_i l r q1 q2
        simp only [mkL, Bool.false_eq_true, if_false] at r1
        split at r1
        · rename_i q; cases r1
          refine ⟨_, rfl, ?_⟩
          simp only [mkL, if_pos q, if_true, alloc]
        · cases r1
      · cases r1
  case mul =>
    have e0 : pprim P (.mul false) ds' c = .ok a c1 := e
    have r0 := rd_sim (Phi := Phi) (o := .mul false) rfl V t e0
    replace e := lft_ok e; obtain ⟨rfl, h1, e⟩ := e; refine ⟨rfl, ?_⟩
    obtain ⟨x, y, hd, e'⟩ := a2_ok e
    clear e; subst hd; have e := e'; clear e'
    obtain ⟨u, v, rfl, v1, v2⟩ := V.two
    have r1 : mulD false u v h = .ok a h := r0.2
    show (mulD true u v h = _ ∧ _) ∨ ∃ l, a = .lst l ∧ mulD true u v h = _
    unfold mulD at r1 ⊢
    split at r1
    · exact .inl ⟨r1, by first | (cases r1; rfl) | (split at r1 <;> cases r1; rfl) | (simp only [mkT] at r1; split at r1 <;> cases r1; rfl)⟩
    · split at r1
      · refine .inr ?_
        split at r1
        · rename_i q0
          simp only [mkL, Bool.false_eq_true, if_false] at r1
          split at r1
          · rename_i q; cases r1
            refine ⟨_, rfl, ?_⟩
            simp only [mkL, if_pos q, if_pos q0, if_true, alloc]
          · cases r1
        · cases r1
      · cases r1
    · cases r1
  case list =>
    have e0 : pprim P (.list false) ds' c = .ok a c1 := e
    have r0 := rd_sim (Phi := Phi) (o := .list false) rfl V t e0
    replace e := lft_ok e; obtain ⟨rfl, h1, e⟩ := e; refine ⟨rfl, .inr ?_⟩
    obtain ⟨x, hd, e'⟩ := a1_ok e
    clear e; subst hd; have e := e'; clear e'
    obtain ⟨u, rfl, v⟩ := V.one
    have r1 : pList false u h = .ok a h := r0.2
    show ∃ l, a = .lst l ∧ pList true u h = _
    unfold pList at r1 ⊢
    split at r1
    · simp only [mkL, Bool.false_eq_true, if_false] at r1
      split at r1
      · rename_i q; cases r1
        refine ⟨_, rfl, ?_⟩
        simp only [mkL, if_pos q, if_true, alloc]
      · cases r1
    · cases r1
  case sorted =>
    have e0 : pprim P (.sorted false) ds' c = .ok a c1 := e
    have r0 := rd_sim (Phi := Phi) (o := .sorted false) rfl V t e0
    replace e := lft_ok e; obtain ⟨rfl, h1, e⟩ := e; refine ⟨rfl, .inr ?_⟩
    obtain ⟨x, hd, e'⟩ := a1_ok e
    clear e; subst hd; have e := e'; clear e'
    obtain ⟨u, rfl, v⟩ := V.one
    have r1 : pSorted false u h = .ok a h := r0.2
    show ∃ l, a = .lst l ∧ pSorted true u h = _
    unfold pSorted at r1 ⊢
    split at r1
    · split at r1
      · rename_i q0
        simp only [mkL, Bool.false_eq_true, if_false] at r1
        split at r1
        · rename_i q; cases r1
          refine ⟨_, rfl, ?_⟩
          simp only [mkL, if_pos q, if_pos q0, if_true, alloc]
        · cases r1
      · cases r1
    · cases r1
end TS

set_option Elab.async false
set_option linter.all false
set_option maxRecDepth 100000
set_option maxHeartbeats 4000000
/-! TQ3: expressions, in cells beside by value. -/
namespace TS
open PySem
structure ExtB (b : Nat) (h h' : Hh) (c' : Nat) : Prop where
  town : h'[0]? = some (Tn c')
  le : h.length ≤ h'.length
  old : ∀ n, 0 < n → n < b → h'[n]? = h[n]?
  cl : Hc h'
theorem ExtB.refl {b : Nat} {h : Hh} {c : Nat} (t : h[0]? = some (Tn c)) (H : Hc h) : ExtB b h h c := ⟨t, Nat.le_refl _, fun _ _ _ => rfl, H⟩
theorem ExtB.trans {b : Nat} {h h1 h2 : Hh} {c1 c2 : Nat} (a : ExtB b h h1 c1) (z : ExtB b h1 h2 c2) : ExtB b h h2 c2 := ⟨z.town, Nat.le_trans a.le z.le, fun n p q => (z.old n p q).trans (a.old n p q), z.cl⟩
theorem ExtB.mono {b b' : Nat} {h h' : Hh} {c : Nat} (hb : b' ≤ b) (a : ExtB b h h' c) : ExtB b' h h' c := ⟨a.town, a.le, fun n p q => a.old n p (by omega), a.cl⟩
def cleanX (x : Exn) : Bool := match x.a with
  | none => true
  | some d => clean d
def RR {α β : Type} (b : Nat) (h : Hh) (rel : Hh → α → β → Prop) (r : Res α) (p : PR β) : Prop := match p with
  | .bad => True
  | .ok x c' => ∃ a h', r = .ok a h' ∧ ExtB b h h' c' ∧ rel h' a x
  | .exc y c' => ∃ h', r = .exc y h' ∧ ExtB b h h' c' ∧ cleanX y = true
section
variable {α β α' β' : Type} {b b1 : Nat} {h : Hh} {c : Nat}
theorem RR.bad {rel : Hh → α → β → Prop} {r : Res α} : RR b h rel r .bad := trivial
theorem RR.bnd {rel1 : Hh → α → β → Prop} {rel2 : Hh → α' → β' → Prop} {m : M α} {pm : PM β} {f : α → M α'} {g : β → PM β'} (hb : b ≤ b1) (e1 : RR b1 h rel1 (m h) (pm c)) (e2 : ∀ a x h' c', ExtB b1 h h' c' → rel1 h' a x → RR b h' rel2 (f a h') (g x c')) : RR b h rel2 (TS.bnd m f h) (pbnd pm g c) := by
  unfold pbnd TS.bnd
  cases q : pm c with
  | bad => exact trivial
  | ok x c' =>
    rw [q] at e1
    obtain ⟨a, h', e, ex, hr⟩ := e1
    rw [e]
    dsimp only
    have z := e2 a x h' c' ex hr
    cases q2 : g x c' with
    | bad => exact trivial
    | ok y c2 =>
      rw [q2] at z
      obtain ⟨a2, h2, w1, w2, w3⟩ := z
      exact ⟨a2, h2, w1, (ex.mono hb).trans w2, w3⟩
    | exc y c2 =>
      rw [q2] at z
      obtain ⟨h2, w1, w2, w3⟩ := z
      exact ⟨h2, w1, (ex.mono hb).trans w2, w3⟩
  | exc x c' =>
    rw [q] at e1
    obtain ⟨h', e, ex, hr⟩ := e1
    rw [e]
    exact ⟨h', rfl, ex.mono hb, hr⟩
theorem RR.mono {rel1 rel2 : Hh → α → β → Prop} {r : Res α} {p : PR β} (hb : b ≤ b1) (e1 : RR b1 h rel1 r p) (e2 : ∀ a x h' c', ExtB b1 h h' c' → rel1 h' a x → rel2 h' a x) : RR b h rel2 r p := by
  cases p with
  | bad => exact trivial
  | ok x c' =>
    obtain ⟨a, h', e, ex, hr⟩ := e1
    exact ⟨a, h', e, ex.mono hb, e2 a x h' c' ex hr⟩
  | exc x c' =>
    obtain ⟨h', e, ex, hr⟩ := e1
    exact ⟨h', e, ex.mono hb, hr⟩
theorem RR.ret {rel : Hh → α → β → Prop} {a : α} {x : β} (t : h[0]? = some (Tn c)) (H : Hc h) (r : rel h a x) : RR b h rel (TS.ret a h) (pret x c) := ⟨a, h, rfl, .refl t H, r⟩
end
theorem VR.ext {h h' : Hh} {b : Nat} {c : Nat} {d d' : D} (V : VR h d d') (hb : h.length ≤ b) (e : ExtB b h h' c) : VR h' d d' := by
  rcases V with q | ⟨n, l, q1, q2, q3, q4⟩
  · exact .inl q
  · refine .inr ⟨n, l, q1, q2, ?_, q4⟩
    have hn : n < h.length := (List.getElem?_eq_some_iff.mp q3).1
    rw [e.old n q2 (by omega)]; exact q3
theorem VRs.ext {h h' : Hh} {b : Nat} {c : Nat} {d d' : List D} (V : VRs h d d') (hb : h.length ≤ b) (e : ExtB b h h' c) : VRs h' d d' := by
  induction V with
  | nil => exact .nil
  | cons v _ ih => exact .cons (v.ext hb e) ih
theorem VRs.lt {h : Hh} {ds ds' : List D} (V : VRs h ds ds') (hp : 0 < h.length) : ∀ n, D.ref n ∈ ds → n < h.length := by
  intro n hn
  induction V with
  | nil => cases hn
  | cons v _ ih =>
    rcases List.mem_cons.mp hn with e | e
    · subst e
      rcases v with ⟨_, q⟩ | ⟨m, l, q1, q2, q3, _⟩
      · rw [clean] at q; have := of_decide_eq_true q; omega
      · cases q1; exact (List.getElem?_eq_some_iff.mp q3).1
    · exact ih e
structure St (own bor : List Nat) (b : Nat) (r : Env) (h : Hh) (ρ : Env) (c : Nat) : Prop where
  town : h[0]? = some (Tn c)
  cl : Hc h
  bl : b ≤ h.length
  len : r.length = ρ.length
  sl : ∀ (i : Nat) (d' : D), ρ[i]? = some (some d') → ∃ d, r[i]? = some (some d) ∧ VR h d d' ∧ ((own ++ bor).contains i = false → d = d')
  pos : 0 < b
  vr : ∀ (i n : Nat), r[i]? = some (some (.ref n)) → ∃ l, h[n]? = some (.lst l)
  bo : ∀ (i n : Nat), own.contains i = false → r[i]? = some (some (.ref n)) → n < b
  ow : ∀ (i n : Nat), own.contains i = true → r[i]? = some (some (.ref n)) → 0 < n → b ≤ n ∧ ∀ j : Nat, j ≠ i → r[j]? ≠ some (some (.ref n))
  ol : ∀ (i : Nat) (l : List D), own.contains i = true → ρ[i]? = some (some (.lst l)) → ∃ n, 0 < n ∧ r[i]? = some (some (.ref n)) ∧ h[n]? = some (.lst l)
section
variable {own bor : List Nat} {b : Nat} {r ρ : Env} {h : Hh} {c : Nat}
theorem St.ext (S : St own bor b r h ρ c) {h' : Hh} {c' : Nat} (e : ExtB h.length h h' c') : St own bor b r h' ρ c' where
  town := e.town
  cl := e.cl
  bl := Nat.le_trans S.bl e.le
  len := S.len
  sl i d' q := by
    obtain ⟨d, h1, h2, h3⟩ := S.sl i d' q
    exact ⟨d, h1, h2.ext (Nat.le_refl _) e, h3⟩
  pos := S.pos
  vr i n q := by
    obtain ⟨l, hl⟩ := S.vr i n q
    by_cases hn : n = 0
    · subst hn; exact ⟨_, e.town⟩
    · rw [e.old n (by omega) (List.getElem?_eq_some_iff.mp hl).1]; exact ⟨l, hl⟩
  bo := S.bo
  ow := S.ow
  ol i l q1 q2 := by
    obtain ⟨n, h1, h2, h3⟩ := S.ol i l q1 q2
    exact ⟨n, h1, h2, by rw [e.old n h1 (List.getElem?_eq_some_iff.mp h3).1]; exact h3⟩
theorem set_get {ρ : Env} {i j : Nat} {x : Option D} {d : D} (e : (ρ.set i x)[j]? = some (some d)) : (j = i ∧ x = some d) ∨ (j ≠ i ∧ ρ[j]? = some (some d)) := by
  rw [List.getElem?_set] at e
  by_cases q : i = j
  · subst q
    simp only [if_true] at e
    split at e
    · cases e; exact .inl ⟨rfl, rfl⟩
    · cases e
  · rw [if_neg q] at e
    exact .inr ⟨fun z => q z.symm, e⟩
theorem St.set (S : St own bor b r h ρ c) {i : Nat} {d : D} (q : clean d = true) (ho : own.contains i = false) : St own bor b (r.set i (some d)) h (ρ.set i (some d)) c where
  town := S.town
  cl := S.cl
  bl := S.bl
  len := by simp [S.len]
  sl j d' e := by
    by_cases hj : i = j
    · subst hj
      rw [List.getElem?_set] at e ⊢
      simp only [if_true] at e ⊢
      rw [S.len]
      split at e
      · rename_i hl; cases e; exact ⟨d, by rw [if_pos hl], .refl q, fun _ => rfl⟩
      · cases e
    · rw [List.getElem?_set_ne hj] at e ⊢
      exact S.sl j d' e
  pos := S.pos
  vr j n e := by
    rcases set_get e with ⟨_, e⟩ | ⟨_, e⟩
    · cases e
      rw [clean] at q; have := of_decide_eq_true q; subst this
      exact ⟨_, S.town⟩
    · exact S.vr j n e
  bo j n h1 e := by
    rcases set_get e with ⟨_, e⟩ | ⟨_, e⟩
    · cases e
      rw [clean] at q; have := of_decide_eq_true q; subst this
      exact S.pos
    · exact S.bo j n h1 e
  ow j n h1 e hn := by
    rcases set_get e with ⟨_, e⟩ | ⟨hj, e⟩
    · cases e
      rw [clean] at q; have := of_decide_eq_true q; omega
    · obtain ⟨p1, p2⟩ := S.ow j n h1 e hn
      refine ⟨p1, fun k hk z => ?_⟩
      rcases set_get z with ⟨_, e⟩ | ⟨_, e⟩
      · cases e
        rw [clean] at q; have := of_decide_eq_true q; omega
      · exact p2 k hk e
  ol j l h1 e := by
    rcases set_get e with ⟨rfl, _⟩ | ⟨hj, e⟩
    · rw [ho] at h1; cases h1
    · obtain ⟨n, p1, p2, p3⟩ := S.ol j l h1 e
      exact ⟨n, p1, by rw [List.getElem?_set_ne (fun z => hj z.symm)]; exact p2, p3⟩
theorem St.wipe1 (S : St own bor b r h ρ c) {i : Nat} : St own bor b (r.set i none) h (ρ.set i none) c where
  town := S.town
  cl := S.cl
  bl := S.bl
  len := by simp [S.len]
  sl j d' e := by
    rcases set_get e with ⟨_, e⟩ | ⟨hj, e⟩
    · cases e
    · rw [List.getElem?_set_ne (fun z => hj z.symm)]
      exact S.sl j d' e
  pos := S.pos
  vr j n e := by
    rcases set_get e with ⟨_, e⟩ | ⟨_, e⟩
    · cases e
    · exact S.vr j n e
  bo j n h1 e := by
    rcases set_get e with ⟨_, e⟩ | ⟨_, e⟩
    · cases e
    · exact S.bo j n h1 e
  ow j n h1 e hn := by
    rcases set_get e with ⟨_, e⟩ | ⟨hj, e⟩
    · cases e
    · obtain ⟨p1, p2⟩ := S.ow j n h1 e hn
      refine ⟨p1, fun k hk z => ?_⟩
      rcases set_get z with ⟨_, e⟩ | ⟨_, e⟩
      · cases e
      · exact p2 k hk e
  ol j l h1 e := by
    rcases set_get e with ⟨_, e⟩ | ⟨hj, e⟩
    · cases e
    · obtain ⟨n, p1, p2, p3⟩ := S.ol j l h1 e
      exact ⟨n, p1, by rw [List.getElem?_set_ne (fun z => hj z.symm)]; exact p2, p3⟩
theorem St.wipe (S : St own bor b r h ρ c) : ∀ vs : List Nat, St own bor b (wipeE r vs) h (wipeE ρ vs) c
  | [] => S
  | v :: vs => (St.wipe S vs).wipe1
theorem St.setAll : ∀ {is : List Nat} {ds : List D} {r ρ ρ1 : Env} (S : St own bor b r h ρ c), cleans ds = true → (is.all fun i => !own.contains i) = true → setAll is ds ρ = some ρ1 → ∃ r1, setAll is ds r = some r1 ∧ St own bor b r1 h ρ1 c
  | [], [], r, ρ, ρ1, S, _, _, e => by cases e; exact ⟨r, rfl, S⟩
  | i :: is, d :: ds, r, ρ, ρ1, S, q, ho, e => by
    simp only [cleans, Bool.and_eq_true] at q
    simp only [List.all_cons, Bool.and_eq_true, Bool.not_eq_true'] at ho
    have := St.setAll (r := r.set i (some d)) (ρ := ρ.set i (some d)) (ρ1 := ρ1) (S.set q.1 ho.1) q.2 ho.2 e
    exact this
  | [], _ :: _, _, _, _, _, _, _, e => by cases e
  | _ :: _, [], _, _, _, _, _, _, e => by cases e
def tgOk (own : List Nat) : Tg → Bool
  | .one i => !own.contains i
  | .many is => is.all fun i => !own.contains i
theorem St.bind (S : St own bor b r h ρ c) {t : Tg} {d : D} {ρ1 : Env} (q : clean d = true) (ho : tgOk own t = true) (e : bindTg t d ρ = some ρ1) : ∃ r1, bindTg t d r = some r1 ∧ St own bor b r1 h ρ1 c := by
  cases t with
  | one i => cases e; exact ⟨_, rfl, S.set q (by simpa [tgOk] using ho)⟩
  | many is =>
    cases d with
    | tup ds => exact St.setAll S q ho e
    | _ => cases e
end
/-! ### what is walked -/
theorem top_nr {d : D} (q : notRef d = true) (h h' : Hh) : top h d = top h' d := by
  cases d <;> first | rfl | cases q
theorem VR.top0 {h : Hh} {c : Nat} {d d' : D} (V : VR h d d') (q : notRef d' = true) (t : h[0]? = some (Tn c)) : TS.top h d = TS.top [] d' := by
  rw [V.top t, top_nr q [Tn c] []]
theorem VR.seq0 {h : Hh} {c : Nat} {d d' : D} (V : VR h d d') (q : notRef d' = true) (t : h[0]? = some (Tn c)) : seqOf h d = seqOf [] d' := by
  rw [seqOf, seqOf, V.top0 q t]
theorem seq0_clean {d : D} {l : List D} (q : clean d = true) (n : notRef d = true) (e : seqOf [] d = some l) : cleans l = true :=
  cleans_seq (c := 0) q (by rw [seqOf, top_nr n [Tn 0] [], ← seqOf]; exact e)
theorem cleans_zip {f : D → D → D} (hf : ∀ x y, clean x = true → clean y = true → clean (f x y) = true) : ∀ {l m : List D}, cleans l = true → cleans m = true → cleans (List.zipWith f l m) = true
  | [], _, _, _ => by simp [cleans]
  | _ :: _, [], _, _ => by simp [cleans]
  | x :: l, y :: m, h1, h2 => by
    simp only [cleans, Bool.and_eq_true] at h1 h2
    simp only [List.zipWith_cons_cons, cleans, hf x y h1.1 h2.1, cleans_zip hf h1.2 h2.2, Bool.and_self]
theorem items_sim {h : Hh} {c : Nat} {k : IK} {ds ds' xs : List D} (V : VRs h ds ds') (H : Hc h) (t : h[0]? = some (Tn c)) (e : pitems k ds' = some xs) : itemsOf k ds h = some xs ∧ cleans xs = true ∧ ∀ b h' c', (∀ n, D.ref n ∈ ds → n < b) → ExtB b h h' c' → still ds h h' = true := by
  unfold pitems at e
  split at e
  case isFalse => cases e
  rename_i nr
  have hst : ∀ b h' c', (∀ n, D.ref n ∈ ds → n < b) → ExtB b h h' c' → still ds h h' = true := fun b h' c' hb ex => by
    clear e
    induction V with
    | nil => rfl
    | cons v w ih =>
      rename_i d d' l l'
      simp only [List.all_cons, Bool.and_eq_true] at nr
      have := ih nr.2 (fun n hn => hb n (List.mem_cons_of_mem _ hn))
      unfold still at this ⊢
      rw [List.all_cons, this, Bool.and_true]
      rcases v with ⟨rfl, q⟩ | ⟨n, l, rfl, q2, q3, rfl⟩
      · cases d <;> first | rfl | (cases nr.1; done)
      · exact decide_eq_true (ex.old n q2 (hb n List.mem_cons_self))
  have hcl := V.cl H
  refine ⟨?_, ?_, hst⟩
  · cases k with
    | seq =>
      replace e : itSeq ds' [] = some xs := e
      unfold itSeq at e
      split at e
      · obtain ⟨u, rfl, v⟩ := V.one
        rw [v.str]; exact e
      · rename_i d' hd
        obtain ⟨u, rfl, v⟩ := V.one
        simp only [List.all_cons, Bool.and_eq_true] at nr
        rw [← v.seq0 nr.1 t] at e
        cases u <;> first | exact e | (cases e; done)
      · cases e
    | rng1 =>
      replace e : itR1 ds' = some xs := e
      unfold itR1 at e
      split at e
      · obtain ⟨u, rfl, v⟩ := V.one
        rw [v.int]; exact e
      · cases e
    | rng2 =>
      replace e : itR2 ds' = some xs := e
      unfold itR2 at e
      split at e
      · obtain ⟨u, v, rfl, v1, v2⟩ := V.two
        rw [v1.int, v2.int]; exact e
      · cases e
    | enm =>
      match ds', V, e with
      | [d'], V, e =>
        obtain ⟨u, rfl, v⟩ := V.one
        simp only [List.all_cons, Bool.and_eq_true] at nr
        show (seqOf h u).map _ = _
        rw [v.seq0 nr.1 t]; exact e
      | [], V, e => cases e
      | _ :: _ :: _, V, e => cases e
    | zip =>
      match ds', V, e with
      | [d1, d2], V, e =>
        obtain ⟨u, w, rfl, v1, v2⟩ := V.two
        simp only [List.all_cons, Bool.and_eq_true] at nr
        show itZ [u, w] h = _
        replace e : itZ [d1, d2] [] = some xs := e
        simp only [itZ] at e ⊢
        rw [v1.top0 nr.1 t, v2.top0 nr.2.1 t]
        exact e
      | [], V, e => cases e
      | [_], V, e => cases e
      | _ :: _ :: _ :: _, V, e => cases e
  · cases k with
    | seq =>
      replace e : itSeq ds' [] = some xs := e
      unfold itSeq at e
      split at e
      · cases e
        rw [cleans_iff]
        intro x hx
        obtain ⟨y, _, rfl⟩ := List.mem_map.mp hx
        rfl
      · simp only [List.all_cons, Bool.and_eq_true] at nr
        simp only [cleans, Bool.and_eq_true] at hcl
        exact seq0_clean hcl.1 nr.1 e
      · cases e
    | rng1 =>
      replace e : itR1 ds' = some xs := e
      unfold itR1 at e
      split at e
      · split at e
        · cases e
          rw [cleans_iff]
          intro x hx
          obtain ⟨y, _, rfl⟩ := List.mem_map.mp hx
          rfl
        · cases e
      · cases e
    | rng2 =>
      replace e : itR2 ds' = some xs := e
      unfold itR2 at e
      split at e
      · split at e
        · cases e
          rw [cleans_iff]
          intro x hx
          obtain ⟨y, _, rfl⟩ := List.mem_map.mp hx
          rfl
        · cases e
      · cases e
    | enm =>
      replace e : itE ds' [] = some xs := e
      unfold itE at e
      split at e
      · simp only [List.all_cons, Bool.and_eq_true] at nr
        simp only [cleans, Bool.and_eq_true] at hcl
        rename_i d
        cases q : seqOf [] d with
        | none => rw [q] at e; cases e
        | some l =>
          rw [q] at e
          cases e
          have hl := seq0_clean hcl.1 nr.1 q
          rw [cleans_iff] at hl ⊢
          intro x hx
          obtain ⟨⟨y, j⟩, hy, rfl⟩ := List.mem_map.mp hx
          have : y ∈ l := by
            have := List.mem_zipIdx hy
            rw [this.2.2]
            exact List.getElem_mem _
          simp only [clean, cleans, hl y this, Bool.and_self]
      · cases e
    | zip =>
      replace e : itZ ds' [] = some xs := e
      unfold itZ at e
      split at e
      · simp only [List.all_cons, Bool.and_eq_true] at nr
        simp only [cleans, Bool.and_eq_true] at hcl
        have hz : ∀ x y, clean x = true → clean y = true → clean (D.tup [x, y]) = true := fun x y h1 h2 => by simp [clean, cleans, h1, h2]
        split at e
        · rename_i q1 q2; cases e
          exact cleans_zip hz (seq0_clean hcl.1 nr.1 (by rw [seqOf, q1])) (seq0_clean hcl.2.1 nr.2.1 (by rw [seqOf, q2]))
        · rename_i q1 q2; cases e
          exact cleans_zip hz (seq0_clean hcl.1 nr.1 (by rw [seqOf, q1])) (seq0_clean hcl.2.1 nr.2.1 (by rw [seqOf, q2]))
        · cases e
      · cases e
end TS

set_option Elab.async false
set_option linter.all false
set_option maxRecDepth 100000
set_option maxHeartbeats 4000000
/-! TQ4: expressions, in cells beside by value: the simulation. -/
namespace TS
open PySem
def isVar : E → Bool
  | .var _ => true
  | _ => false
mutual
/-- the value is never a list of one's own by its cell -/
def nv (br : Nat → Nat → Bool) (own ob : List Nat) : E → Bool
  | .var i => !ob.contains i
  | .cst d => clean d
  | .op o l => if rdOp o = true then rds br own ob l else if nvOp o = true then nvs br own ob l else (match o with
    | .call f => cas br own ob f 0 l
    | _ => false)
  | .mth o a l => (rdOp o || nvOp o) && (isVar a || nv br own ob a) && nvs br own ob l
  | .and a b => nv br own ob a && nv br own ob b
  | .or a b => nv br own ob a && nv br own ob b
  | .andB a b => nv br own ob a && nv br own ob b
  | .orB a b => nv br own ob a && nv br own ob b
  | .ife c a b => nv br own ob c && nv br own ob a && nv br own ob b
  | .chain a b c => nv br own ob a && nv br own ob b && nv br own ob c
  | .sl2 a b c => (isVar a || nv br own ob a) && nv br own ob b && nv br own ob c
  | .comp m elt tg k its cond ow => !m && rds br own ob its && tgOk own tg && nvs br own ob cond && nv br own ob elt
def nvs (br : Nat → Nat → Bool) (own ob : List Nat) : List E → Bool
  | [] => true
  | e :: es => nv br own ob e && nvs br own ob es
def rds (br : Nat → Nat → Bool) (own ob : List Nat) : List E → Bool
  | [] => true
  | e :: es => (isVar e || nv br own ob e) && rds br own ob es
def cas (br : Nat → Nat → Bool) (own ob : List Nat) (f : Nat) : Nat → List E → Bool
  | _, [] => true
  | k, e :: es => (nv br own ob e || (isVar e && br f k)) && cas br own ob f (k + 1) es
end
def Eqc (_ : Hh) (a x : D) : Prop := a = x ∧ clean a = true
def Eqcs (_ : Hh) (a x : List D) : Prop := a = x ∧ cleans a = true
def Calls (br : Nat → Nat → Bool) (Phi : Nat → List D → M D) (P : Nat → List D → PM D) : Prop := ∀ (f : Nat) (ds ds' : List D) (h : Hh) (c : Nat), h[0]? = some (Tn c) → Hc h → VRs h ds ds' → (∀ j, br f j = false → ds[j]? = ds'[j]?) → RR h.length h Eqc (Phi f ds h) (P f ds' c)
theorem prim_ne {P : Nat → List D → PM D} {o : Op} (ho : (rdOp o || nvOp o || isNew (.op o [])) = true) {ds : List D} {c c1 : Nat} {x : Exn} : pprim P o ds c ≠ .exc x c1 := by
  cases o <;> first | exact lft_ne | (simp [pprim, lft, prim, mbad]; done) | (simp [rdOp, nvOp, isNew] at ho; done)
theorem RR.rdop {Phi : Nat → List D → M D} {P : Nat → List D → PM D} {b : Nat} {h : Hh} {c : Nat} {o : Op} {ds ds' : List D} (ho : rdOp o = true) (V : VRs h ds ds') (t : h[0]? = some (Tn c)) (H : Hc h) : RR b h Eqc (prim Phi o ds h) (pprim P o ds' c) := by
  cases q : pprim P o ds' c with
  | bad => exact trivial
  | exc x c1 => exact absurd q (prim_ne (by rw [ho]; rfl))
  | ok a c1 =>
    obtain ⟨rfl, e⟩ := rd_sim (Phi := Phi) ho V t q
    exact ⟨a, h, e, .refl t H, rfl, prim_clean (by rw [ho]; rfl) (V.cl H) q⟩
theorem RR.nvop {Phi : Nat → List D → M D} {P : Nat → List D → PM D} {b : Nat} {h : Hh} {c : Nat} {o : Op} {ds : List D} (ho : nvOp o = true) (V : cleans ds = true) (t : h[0]? = some (Tn c)) (H : Hc h) : RR b h Eqc (prim Phi o ds h) (pprim P o ds c) := by
  cases q : pprim P o ds c with
  | bad => exact trivial
  | exc x c1 => exact absurd q (prim_ne (by rw [ho]; simp))
  | ok a c1 =>
    obtain ⟨rfl, e⟩ := nv_sim (Phi := Phi) ho V t q
    exact ⟨a, h, e, .refl t H, rfl, prim_clean (by rw [ho]; simp) V q⟩
theorem RR.mthop {Phi : Nat → List D → M D} {P : Nat → List D → PM D} {b : Nat} {h : Hh} {c : Nat} {o : Op} {d d' : D} {ds : List D} (ho : (rdOp o || nvOp o) = true) (V : VR h d d') (W : cleans ds = true) (k : kindOk o d' [] = true) (t : h[0]? = some (Tn c)) (H : Hc h) : RR b h Eqc (prim Phi o (d :: ds) h) (pprim P o (d' :: ds) c) := by
  cases q : pprim P o (d' :: ds) c with
  | bad => exact trivial
  | exc x c1 => exact absurd q (prim_ne (by rw [ho]; rfl))
  | ok a c1 =>
    obtain ⟨rfl, e⟩ := mth_sim (Phi := Phi) ho V W t k q
    exact ⟨a, h, e, .refl t H, rfl, prim_clean (by rw [ho]; rfl) (by rw [cleans, V.cl H, W]; rfl) q⟩
theorem kind_sim {o : Op} {h : Hh} {c : Nat} {d d' : D} (V : VR h d d') (t : h[0]? = some (Tn c)) (k : kindOk o d' [] = true) : kindOk o d h = true := by
  cases o <;> (try (cases k; done))
  case strip => cases d' <;> (try (cases k; done)); rw [V.str]; rfl
  case partition => cases d' <;> (try (cases k; done)); rw [V.str]; rfl
  case split => cases d' <;> (try (cases k; done)); rw [V.str]; rfl
  case join => cases d' <;> (try (cases k; done)); rw [V.str]; rfl
  case index =>
    have k' : (seqOf [] d').isSome = true := k
    show (seqOf h d).isSome = true
    rw [V.seq0 (by cases d' <;> first | rfl | (cases k; done)) t]; exact k'
  case count =>
    have k' : (lstOf [] d').isSome = true := k
    show (lstOf h d).isSome = true
    rw [lstOf, V.top0 (by cases d' <;> first | rfl | (cases k; done)) t, ← lstOf]; exact k'
  all_goals (cases d' <;> cases k)
theorem truth_eq {h : Hh} {c : Nat} {d : D} (q : clean d = true) (t : h[0]? = some (Tn c)) {x : Bool} (e : truth [] d = some x) : truth h d = some x := by
  cases d with
  | ref n => simp [truth, seqOf, TS.top] at e
  | _ => exact e
section
variable {br : Nat → Nat → Bool} {own bor : List Nat} {b : Nat} {Phi : Nat → List D → M D} {P : Nat → List D → PM D}
theorem comp_sim {bdr : Env} {bdρ : Env} {tg : Tg} {cond : Env → M Bool} {pcond : Env → PM Bool} {elt : Env → M D} {pelt : Env → PM D} {okf : Hh → Bool} {h0 : Hh}
    (hcond : ∀ r h ρ c, St own bor b r h ρ c → RR h.length h (fun _ a x => a = x) (cond r h) (pcond ρ c))
    (helt : ∀ r h ρ c, St own bor b r h ρ c → RR h.length h Eqc (elt r h) (pelt ρ c))
    (ht : tgOk own tg = true) (hok : ∀ h' c', ExtB h0.length h0 h' c' → okf h' = true) :
    ∀ (xs : List D) (h : Hh) (c : Nat), cleans xs = true → ExtB h0.length h0 h c → St own bor b bdr h bdρ c →
      RR h.length h Eqcs (compL (fun d => bindTg tg d bdr) cond elt okf xs h) (pcompL (fun d => bindTg tg d bdρ) pcond pelt xs c)
  | [], h, c, _, ex, S => by
    simp only [compL, hok h c ex, if_true, pcompL]
    exact ⟨[], h, rfl, .refl S.town S.cl, rfl, rfl⟩
  | x :: xs, h, c, q, ex, S => by
    simp only [cleans, Bool.and_eq_true] at q
    simp only [compL, hok h c ex, if_true, pcompL]
    cases e : bindTg tg x bdρ with
    | none => exact trivial
    | some ρ1 =>
      obtain ⟨r1, e1, S1⟩ := S.bind q.1 ht e
      rw [e1]
      dsimp only
      refine RR.bnd (Nat.le_refl _) (hcond r1 h ρ1 c S1) fun a x' h1 c1 ex1 hr => ?_
      subst hr
      cases a with
      | false =>
        simp only [Bool.false_eq_true, if_false]
        exact RR.mono ex1.le (comp_sim hcond helt ht hok xs h1 c1 q.2 (ex.trans (ex1.mono ex.le)) (S.ext ex1)) fun _ _ _ _ _ z => z
      | true =>
        simp only [if_true]
        refine RR.bnd ex1.le (helt r1 h1 ρ1 c1 (S1.ext ex1)) fun d d' h2 c2 ex2 hd => ?_
        obtain ⟨rfl, hd⟩ := hd
        have ex12 : ExtB h.length h h2 c2 := ex1.trans (ex2.mono ex1.le)
        refine RR.bnd ex12.le (comp_sim hcond helt ht hok xs h2 c2 q.2 (ex.trans (ex12.mono ex.le)) (S.ext ex12)) fun ds ds' h3 c3 ex3 hds => ?_
        obtain ⟨rfl, hds⟩ := hds
        exact RR.ret ex3.town ex3.cl ⟨rfl, by rw [cleans, hd, hds]; rfl⟩
theorem RR.noexc {α β : Type} {b : Nat} {h : Hh} {rel : Hh → α → β → Prop} {m : M α} {pm : PM β} {c : Nat} (e : RR b h rel (m h) (pm c)) : RR b h rel (noexc m h) (pnoexc pm c) := by
  unfold TS.noexc pnoexc
  cases q : pm c with
  | bad => exact trivial
  | exc x c1 => exact trivial
  | ok x c1 =>
    rw [q] at e
    obtain ⟨a, h', e1, e2⟩ := e
    rw [e1]
    exact ⟨a, h', rfl, e2⟩
theorem RR.mkL {h : Hh} {c : Nat} {b : Nat} {l : List D} (q : cleans l = true) (t : h[0]? = some (Tn c)) (H : Hc h) : RR b h Eqc (TS.mkL false l h) (lft (TS.mkL false l) c) := by
  have : lft (TS.mkL false l) c = pprim (fun _ _ => pbad) (.lst false) l c := rfl
  rw [this]
  exact RR.nvop (Phi := fun _ _ => mbad) (o := .lst false) rfl q t H
mutual
theorem sim_e (C : Calls br Phi P) : ∀ (e : E), nv br own (own ++ bor) e = true → ∀ (r ρ : Env) (h : Hh) (c : Nat), St own bor b r h ρ c → RR h.length h Eqc (e.ev Phi r h) (pe P e ρ c)
  | .var i, q, r, ρ, h, c, S => by
    rw [nv, Bool.not_eq_true'] at q
    simp only [pe, E.ev]
    cases e : ρ[i]? with
    | none => exact trivial
    | some x =>
      cases x with
      | none => exact trivial
      | some d' =>
        obtain ⟨d, h1, h2, h3⟩ := S.sl i d' e
        have := h3 q; subst this
        simp only [h1]
        refine RR.ret S.town S.cl ⟨rfl, h2.cl S.cl⟩
  | .cst d, q, r, ρ, h, c, S => by
    simp only [pe, E.ev]
    exact RR.ret S.town S.cl ⟨rfl, q⟩
  | .op o l, q, r, ρ, h, c, S => by
    simp only [pe, E.ev]
    unfold nv at q
    split at q
    · rename_i ho
      exact RR.bnd (Nat.le_refl _) (sim_rds C l q r ρ h c S) fun ds ds' h1 c1 ex V => RR.rdop ho V ex.town ex.cl
    · split at q
      · rename_i ho
        refine RR.bnd (Nat.le_refl _) (sim_nvs C l q r ρ h c S) fun ds ds' h1 c1 ex V => ?_
        obtain ⟨rfl, V⟩ := V
        exact RR.nvop ho V ex.town ex.cl
      · split at q
        · rename_i f _ _
          refine RR.bnd (Nat.le_refl _) (sim_cas C f l 0 q r ρ h c S) fun ds ds' h1 c1 ex V => ?_
          refine RR.mono ex.le (C f ds ds' h1 c1 ex.town ex.cl V.1 fun j hj => V.2 j (by rw [Nat.zero_add]; exact hj)) fun _ _ _ _ _ z => z
        · cases q
  | .mth o a l, q, r, ρ, h, c, S => by
    simp only [pe, E.ev]
    simp only [nv, Bool.and_eq_true] at q
    have ha : RR h.length h VR (a.ev Phi r h) (pe P a ρ c) := by
      by_cases hv : nv br own (own ++ bor) a = true
      · exact RR.mono (Nat.le_refl _) (sim_e C a hv r ρ h c S) fun _ _ _ _ _ z => .inl z
      · have hv' : isVar a = true := by
          have := q.1.2
          simpa [hv] using this
        cases a <;> (try (cases hv'; done))
        rename_i i
        simp only [pe, E.ev]
        cases e : ρ[i]? with
        | none => exact trivial
        | some x =>
          cases x with
          | none => exact trivial
          | some d' =>
            obtain ⟨d, h1, h2, h3⟩ := S.sl i d' e
            simp only [h1]
            exact RR.ret S.town S.cl h2
    refine RR.bnd (Nat.le_refl _) ha fun d d' h1 c1 ex V => ?_
    by_cases hk : kindOk o d' [] = true
    · rw [if_pos hk]
      have hk2 := kind_sim V ex.town hk
      simp only [hk2, if_true]
      refine RR.bnd ex.le (sim_nvs C l q.2 r ρ h1 c1 (S.ext ex)) fun ds ds' h2 c2 ex2 W => ?_
      obtain ⟨rfl, W⟩ := W
      exact RR.mthop q.1.1 (V.ext (Nat.le_refl _) ex2) W hk ex2.town ex2.cl
    · rw [if_neg hk]; exact trivial
  | .and a b', q, r, ρ, h, c, S => by
    simp only [pe, E.ev]
    simp only [nv, Bool.and_eq_true] at q
    refine RR.bnd (Nat.le_refl _) (sim_e C a q.1 r ρ h c S) fun x x' h1 c1 ex V => ?_
    obtain ⟨rfl, V⟩ := V
    cases ht : truth [] x with
    | none => exact trivial
    | some z =>
      rw [truth_eq V ex.town ht]
      cases z with
      | true => exact RR.mono ex.le (sim_e C b' q.2 r ρ h1 c1 (S.ext ex)) fun _ _ _ _ _ z => z
      | false => exact RR.ret ex.town ex.cl ⟨rfl, V⟩
  | .or a b', q, r, ρ, h, c, S => by
    simp only [pe, E.ev]
    simp only [nv, Bool.and_eq_true] at q
    refine RR.bnd (Nat.le_refl _) (sim_e C a q.1 r ρ h c S) fun x x' h1 c1 ex V => ?_
    obtain ⟨rfl, V⟩ := V
    cases ht : truth [] x with
    | none => exact trivial
    | some z =>
      rw [truth_eq V ex.town ht]
      cases z with
      | false => exact RR.mono ex.le (sim_e C b' q.2 r ρ h1 c1 (S.ext ex)) fun _ _ _ _ _ z => z
      | true => exact RR.ret ex.town ex.cl ⟨rfl, V⟩
  | .andB a b', q, r, ρ, h, c, S => by
    simp only [pe, E.ev]
    simp only [nv, Bool.and_eq_true] at q
    refine RR.bnd (Nat.le_refl _) (sim_e C a q.1 r ρ h c S) fun x x' h1 c1 ex V => ?_
    obtain ⟨rfl, V⟩ := V
    match x with
    | .bl true => exact RR.mono ex.le (sim_e C b' q.2 r ρ h1 c1 (S.ext ex)) fun _ _ _ _ _ z => z
    | .bl false => exact RR.ret ex.town ex.cl ⟨rfl, rfl⟩
    | .non | .int _ | .str _ | .tup _ | .lst _ | .ref _ | .gl _ | .scr _ => exact trivial
  | .orB a b', q, r, ρ, h, c, S => by
    simp only [pe, E.ev]
    simp only [nv, Bool.and_eq_true] at q
    refine RR.bnd (Nat.le_refl _) (sim_e C a q.1 r ρ h c S) fun x x' h1 c1 ex V => ?_
    obtain ⟨rfl, V⟩ := V
    match x with
    | .bl false => exact RR.mono ex.le (sim_e C b' q.2 r ρ h1 c1 (S.ext ex)) fun _ _ _ _ _ z => z
    | .bl true => exact RR.ret ex.town ex.cl ⟨rfl, rfl⟩
    | .non | .int _ | .str _ | .tup _ | .lst _ | .ref _ | .gl _ | .scr _ => exact trivial
  | .ife t a b', q, r, ρ, h, c, S => by
    simp only [pe, E.ev]
    simp only [nv, Bool.and_eq_true] at q
    refine RR.bnd (Nat.le_refl _) (sim_e C t q.1.1 r ρ h c S) fun x x' h1 c1 ex V => ?_
    obtain ⟨rfl, V⟩ := V
    match x with
    | .bl true => exact RR.mono ex.le (sim_e C a q.1.2 r ρ h1 c1 (S.ext ex)) fun _ _ _ _ _ z => z
    | .bl false => exact RR.mono ex.le (sim_e C b' q.2 r ρ h1 c1 (S.ext ex)) fun _ _ _ _ _ z => z
    | .non | .int _ | .str _ | .tup _ | .lst _ | .ref _ | .gl _ | .scr _ => exact trivial
  | .chain a b' d, q, r, ρ, h, c, S => by
    simp only [pe, E.ev]
    simp only [nv, Bool.and_eq_true] at q
    refine RR.bnd (Nat.le_refl _) (sim_e C a q.1.1 r ρ h c S) fun x x' h1 c1 ex V => ?_
    obtain ⟨rfl, V⟩ := V
    refine RR.bnd ex.le (sim_e C b' q.1.2 r ρ h1 c1 (S.ext ex)) fun y y' h2 c2 ex2 W => ?_
    obtain ⟨rfl, W⟩ := W
    cases x with
    | int i =>
      cases y with
      | int j =>
        dsimp only
        split
        · refine RR.bnd (Nat.le_trans ex.le ex2.le) (sim_e C d q.2 r ρ h2 c2 ((S.ext ex).ext ex2)) fun z z' h3 c3 ex3 Z => ?_
          obtain ⟨rfl, Z⟩ := Z
          cases z with
          | int k => exact RR.ret ex3.town ex3.cl ⟨rfl, rfl⟩
          | _ => exact trivial
        · exact RR.ret ex2.town ex2.cl ⟨rfl, rfl⟩
      | _ => exact trivial
    | _ => exact trivial
  | .sl2 a b' d, q, r, ρ, h, c, S => by
    simp only [pe, E.ev]
    simp only [nv, Bool.and_eq_true] at q
    have ha : RR h.length h VR (a.ev Phi r h) (pe P a ρ c) := by
      by_cases hv : nv br own (own ++ bor) a = true
      · exact RR.mono (Nat.le_refl _) (sim_e C a hv r ρ h c S) fun _ _ _ _ _ z => .inl z
      · have hv' : isVar a = true := by
          have := q.1.1
          simpa [hv] using this
        cases a <;> (try (cases hv'; done))
        rename_i i
        simp only [pe, E.ev]
        cases e : ρ[i]? with
        | none => exact trivial
        | some x =>
          cases x with
          | none => exact trivial
          | some d' =>
            obtain ⟨d, h1, h2, h3⟩ := S.sl i d' e
            simp only [h1]
            exact RR.ret S.town S.cl h2
    refine RR.bnd (Nat.le_refl _) ha fun x x' h1 c1 ex V => ?_
    refine RR.bnd ex.le (sim_e C b' q.1.2 r ρ h1 c1 (S.ext ex)) fun y y' h2 c2 ex2 W => ?_
    obtain ⟨rfl, W⟩ := W
    cases y with
    | int i =>
      refine RR.bnd (Nat.le_trans ex.le ex2.le) (sim_e C d q.2 r ρ h2 c2 ((S.ext ex).ext ex2)) fun z z' h3 c3 ex3 Z => ?_
      obtain ⟨rfl, Z⟩ := Z
      exact RR.rdop (Phi := Phi) (P := P) (o := .sl true true) rfl (.cons ((V.ext (Nat.le_refl _) ex2).ext (Nat.le_refl _) ex3) (.cons (.refl (d := .int i) rfl) (.cons (.refl Z) .nil))) ex3.town ex3.cl
    | _ => exact trivial
  | .comp m elt tg k its cond ow, q, r, ρ, h, c, S => by
    simp only [pe, E.ev]
    simp only [nv, Bool.and_eq_true, Bool.not_eq_true'] at q
    obtain ⟨⟨⟨⟨rfl, q1⟩, q2⟩, q3⟩, q4⟩ := q
    refine RR.bnd (Nat.le_refl _) (sim_rds C its q1 r ρ h c S) fun ds ds' h1 c1 ex V => ?_
    cases hp : pitems k ds' with
    | none => exact trivial
    | some xs =>
      obtain ⟨i1, i2, i3⟩ := items_sim V ex.cl ex.town hp
      simp only [i1]
      have key := comp_sim (own := own) (bor := bor) (b := b) (tg := tg) (okf := still ds h1) (h0 := h1) (fun r h ρ c S => sim_conds C cond q3 r ρ h c S) (fun r h ρ c S => sim_e C elt q4 r ρ h c S) q2 (fun h' c' ex' => i3 h1.length h' c' (V.lt (List.getElem?_eq_some_iff.mp ex.town).1) ex') xs h1 c1 i2 (.refl ex.town ex.cl) ((S.ext ex).wipe ow)
      refine RR.bnd ex.le (RR.noexc key) fun l l' h2 c2 ex2 hl => ?_
      obtain ⟨rfl, hl⟩ := hl
      exact RR.mkL hl ex2.town ex2.cl
theorem sim_nvs (C : Calls br Phi P) : ∀ (l : List E), nvs br own (own ++ bor) l = true → ∀ (r ρ : Env) (h : Hh) (c : Nat), St own bor b r h ρ c → RR h.length h Eqcs (E.evs Phi l r h) (pes P l ρ c)
  | [], q, r, ρ, h, c, S => by
    simp only [pes, E.evs]
    exact RR.ret S.town S.cl ⟨rfl, rfl⟩
  | e :: es, q, r, ρ, h, c, S => by
    simp only [pes, E.evs]
    simp only [nvs, Bool.and_eq_true] at q
    refine RR.bnd (Nat.le_refl _) (sim_e C e q.1 r ρ h c S) fun x x' h1 c1 ex V => ?_
    obtain ⟨rfl, V⟩ := V
    refine RR.bnd ex.le (sim_nvs C es q.2 r ρ h1 c1 (S.ext ex)) fun y y' h2 c2 ex2 W => ?_
    obtain ⟨rfl, W⟩ := W
    exact RR.ret ex2.town ex2.cl ⟨rfl, by rw [cleans, V, W]; rfl⟩
theorem sim_rds (C : Calls br Phi P) : ∀ (l : List E), rds br own (own ++ bor) l = true → ∀ (r ρ : Env) (h : Hh) (c : Nat), St own bor b r h ρ c → RR h.length h VRs (E.evs Phi l r h) (pes P l ρ c)
  | [], q, r, ρ, h, c, S => by
    simp only [pes, E.evs]
    exact RR.ret S.town S.cl .nil
  | e :: es, q, r, ρ, h, c, S => by
    simp only [pes, E.evs]
    simp only [rds, Bool.and_eq_true] at q
    have ha : RR h.length h VR (e.ev Phi r h) (pe P e ρ c) := by
      by_cases hv : nv br own (own ++ bor) e = true
      · exact RR.mono (Nat.le_refl _) (sim_e C e hv r ρ h c S) fun _ _ _ _ _ z => .inl z
      · have hv' : isVar e = true := by
          have := q.1
          simpa [hv] using this
        cases e <;> (try (cases hv'; done))
        rename_i i
        simp only [pe, E.ev]
        cases e : ρ[i]? with
        | none => exact trivial
        | some x =>
          cases x with
          | none => exact trivial
          | some d' =>
            obtain ⟨d, h1, h2, h3⟩ := S.sl i d' e
            simp only [h1]
            exact RR.ret S.town S.cl h2
    refine RR.bnd (Nat.le_refl _) ha fun x x' h1 c1 ex V => ?_
    refine RR.bnd ex.le (sim_rds C es q.2 r ρ h1 c1 (S.ext ex)) fun y y' h2 c2 ex2 W => ?_
    exact RR.ret ex2.town ex2.cl (.cons (V.ext (Nat.le_refl _) ex2) W)
theorem sim_cas (C : Calls br Phi P) (f : Nat) : ∀ (l : List E) (k : Nat), cas br own (own ++ bor) f k l = true → ∀ (r ρ : Env) (h : Hh) (c : Nat), St own bor b r h ρ c → RR h.length h (fun h' a x => VRs h' a x ∧ ∀ j, br f (k + j) = false → a[j]? = x[j]?) (E.evs Phi l r h) (pes P l ρ c)
  | [], k, q, r, ρ, h, c, S => by
    simp only [pes, E.evs]
    exact RR.ret S.town S.cl ⟨.nil, fun _ _ => rfl⟩
  | e :: es, k, q, r, ρ, h, c, S => by
    simp only [pes, E.evs]
    simp only [cas, Bool.and_eq_true] at q
    have ha : RR h.length h (fun h' a x => VR h' a x ∧ (br f k = false → a = x)) (e.ev Phi r h) (pe P e ρ c) := by
      by_cases hv : nv br own (own ++ bor) e = true
      · exact RR.mono (Nat.le_refl _) (sim_e C e hv r ρ h c S) fun _ _ _ _ _ z => ⟨.inl z, fun _ => z.1⟩
      · have hv' : isVar e = true ∧ br f k = true := by
          have := q.1
          simpa [hv] using this
        obtain ⟨hv', hb⟩ := hv'
        cases e <;> (try (cases hv'; done))
        rename_i i
        simp only [pe, E.ev]
        cases e : ρ[i]? with
        | none => exact trivial
        | some x =>
          cases x with
          | none => exact trivial
          | some d' =>
            obtain ⟨d, h1, h2, h3⟩ := S.sl i d' e
            simp only [h1]
            exact RR.ret S.town S.cl ⟨h2, fun z => by rw [hb] at z; cases z⟩
    refine RR.bnd (Nat.le_refl _) ha fun x x' h1 c1 ex V => ?_
    refine RR.bnd ex.le (sim_cas C f es (k + 1) q.2 r ρ h1 c1 (S.ext ex)) fun y y' h2 c2 ex2 W => ?_
    refine RR.ret ex2.town ex2.cl ⟨.cons (V.1.ext (Nat.le_refl _) ex2) W.1, fun j hj => ?_⟩
    cases j with
    | zero => simp only [List.getElem?_cons_zero, V.2 hj]
    | succ j => simp only [List.getElem?_cons_succ]; exact W.2 j (by rw [show k + 1 + j = k + (j + 1) by omega]; exact hj)
theorem sim_conds (C : Calls br Phi P) : ∀ (l : List E), nvs br own (own ++ bor) l = true → ∀ (r ρ : Env) (h : Hh) (c : Nat), St own bor b r h ρ c → RR h.length h (fun _ a x => a = x) (E.conds Phi l r h) (pconds P l ρ c)
  | [], q, r, ρ, h, c, S => by
    simp only [pconds, E.conds]
    exact RR.ret S.town S.cl rfl
  | e :: es, q, r, ρ, h, c, S => by
    simp only [pconds, E.conds]
    simp only [nvs, Bool.and_eq_true] at q
    refine RR.bnd (Nat.le_refl _) (sim_e C e q.1 r ρ h c S) fun x x' h1 c1 ex V => ?_
    obtain ⟨rfl, V⟩ := V
    cases x with
    | bl v => exact RR.ret ex.town ex.cl rfl
    | _ => exact trivial
end
end
end TS

set_option Elab.async false
set_option linter.all false
set_option maxRecDepth 100000
set_option maxHeartbeats 4000000
/-! TQ5: what changes lists of one's own; statements; defs. -/
namespace TS
open PySem
theorem Tn_inj {a b : Nat} (e : some (Tn a) = some (Tn b)) : a = b := by
  injection e with e
  simp only [Tn] at e
  injection e with e
  have := congrArg List.length e
  simpa using this
theorem Tn_app (c : Nat) : (List.replicate c (D.int 0) ++ [D.int 0]) = List.replicate (c + 1) (D.int 0) := by
  rw [List.replicate_succ']
mutual
def xk (br : Nat → Nat → Bool) (own ob : List Nat) : E → Bool
  | .mth o (.var i) l => if isMut o = true then xks br own ob l else nv br own ob (.mth o (.var i) l)
  | e => nv br own ob e
def xks (br : Nat → Nat → Bool) (own ob : List Nat) : List E → Bool
  | [] => true
  | e :: es => xk br own ob e && xks br own ob es
end
theorem pmut_clean {o : Op} {l ds l' : List D} {d : D} (h1 : cleans l = true) (h2 : cleans ds = true) (e : pmut o l ds = some (d, l')) : clean d = true ∧ cleans l' = true := by
  unfold pmut at e
  split at e
  · split at e
    · cases e; simp only [cleans, Bool.and_eq_true] at h2; exact ⟨rfl, cleans_app h1 (by simp [cleans, h2.1])⟩
    · cases e
  · split at e
    · cases e; simp only [cleans, clean, Bool.and_eq_true] at h2; exact ⟨rfl, cleans_app h1 h2.1⟩
    · cases e
  · split at e
    · cases e
      simp only [cleans, Bool.and_eq_true] at h2
      refine ⟨rfl, cleans_app (cleans_sub (fun _ => List.mem_of_mem_take) h1) ?_⟩
      simp only [cleans, h2.2.1, Bool.true_and]
      exact cleans_sub (fun _ => List.mem_of_mem_drop) h1
    · cases e
  · split at e
    · rename_i q
      cases e
      exact ⟨cleans_iff.mp h1 _ (List.mem_of_getLast? q), cleans_sub (fun _ hx => (List.dropLast_sublist _).subset hx) h1⟩
    · cases e
  · split at e
    · split at e
      · rename_i q
        cases e
        exact ⟨cleans_iff.mp h1 _ (List.mem_of_getElem? q), cleans_sub (fun _ => List.mem_of_mem_eraseIdx) h1⟩
      · cases e
    · cases e
  · split at e
    · split at e
      · cases e
        exact ⟨rfl, cleans_sub (fun _ => List.mem_of_mem_eraseIdx) h1⟩
      · cases e
    · cases e
  · cases e
theorem pmut_sim {Phi : Nat → List D → M D} {o : Op} {l ds l' : List D} {d : D} {n : Nat} {h : Hh} (e : pmut o l ds = some (d, l')) (hn : h[n]? = some (.lst l)) : prim Phi o (.ref n :: ds) h = .ok d (h.set n (.lst l')) := by
  unfold pmut at e
  split at e
  · split at e
    · rename_i q; cases e
      simp [prim, a2, pAppend, onList, hn, guardM, q, setCell]
    · cases e
  · split at e
    · rename_i q; cases e
      simp [prim, a2, pExtend, onList, hn, lstT, q, setCell]
    · cases e
  · split at e
    · rename_i q; cases e
      simp [prim, a3, pInsert, onList, hn, q]
    · cases e
  · split at e
    · rename_i q; cases e
      simp [prim, a1, pPop0, onList, hn, q]
    · cases e
  · split at e
    · rename_i q0
      split at e
      · rename_i q; cases e
        simp [prim, a2, pPop1, onList, hn, q, q0]
      · cases e
    · cases e
  · split at e
    · rename_i q0
      split at e
      · rename_i q; cases e
        simp only [prim, a2, pRemove, onList, hn, if_pos q0, q]
      · cases e
    · cases e
  · cases e
section
variable {br : Nat → Nat → Bool} {own bor : List Nat} {b : Nat} {Phi : Nat → List D → M D} {P : Nat → List D → PM D} {r ρ : Env} {h : Hh} {c : Nat}
theorem RR.map {α β β' : Type} {b1 : Nat} {rel1 : Hh → α → β → Prop} {rel2 : Hh → α → β' → Prop} {f : β → β'} {res : Res α} {pm : PM β} (hb : b ≤ b1) (e1 : RR b1 h rel1 res (pm c)) (e2 : ∀ a x h' c', ExtB b1 h h' c' → rel1 h' a x → rel2 h' a (f x)) : RR b h rel2 res (pbnd pm (fun x => pret (f x)) c) := by
  unfold pbnd
  cases q : pm c with
  | bad => exact trivial
  | ok x c' =>
    rw [q] at e1
    obtain ⟨a, h', e, ex, hr⟩ := e1
    exact ⟨a, h', e, ex.mono hb, e2 a x h' c' ex hr⟩
  | exc x c' =>
    rw [q] at e1
    obtain ⟨h', e, ex, hr⟩ := e1
    exact ⟨h', e, ex.mono hb, hr⟩
theorem getset {h : Hh} {n : Nat} {x : Cell} (hn : n < h.length) (m : Nat) : (h.set n x)[m]? = if m = n then some x else h[m]? := by
  by_cases q : m = n
  · subst q; rw [if_pos rfl, List.getElem?_set_self hn]
  · rw [if_neg q, List.getElem?_set_ne (fun z => q z.symm)]
/-- a list of one's own is another one -/
theorem St.mut (S : St own bor b r h ρ c) {i n : Nat} {l l' : List D} (ho : own.contains i = true) (h0 : 0 < n) (hr : r[i]? = some (some (.ref n))) (hn : h[n]? = some (.lst l)) (hc : cleans l' = true) :
    ExtB b h (h.set n (.lst l')) c ∧ St own bor b r (h.set n (.lst l')) (ρ.set i (some (.lst l'))) c := by
  have hl : n < h.length := (List.getElem?_eq_some_iff.mp hn).1
  obtain ⟨o1, o2⟩ := S.ow i n ho hr h0
  have hcl : Hc (h.set n (.lst l')) := fun m x e => by
    rw [getset hl] at e
    split at e
    · cases e; exact hc
    · exact S.cl m x e
  have ht : (h.set n (.lst l'))[0]? = some (Tn c) := by
    rw [getset hl, if_neg (by omega)]; exact S.town
  refine ⟨⟨ht, by simp, fun m h1 h2 => by rw [getset hl, if_neg (by omega)], hcl⟩, ⟨ht, hcl, by simpa using S.bl, by simp [S.len], ?_, S.pos, ?_, S.bo, S.ow, ?_⟩⟩
  · intro j d' e
    rcases set_get e with ⟨rfl, e'⟩ | ⟨hj, e⟩
    · cases e'
      refine ⟨_, hr, .inr ⟨n, l', rfl, h0, by rw [getset hl, if_pos rfl], rfl⟩, fun z => ?_⟩
      have : (own ++ bor).contains j = true := by simp only [List.contains_eq_mem, List.mem_append, decide_eq_true_eq] at ho ⊢; exact .inl ho
      rw [this] at z; cases z
    · obtain ⟨d, e1, v, e3⟩ := S.sl j d' e
      refine ⟨d, e1, ?_, e3⟩
      rcases v with v | ⟨m, lm, v1, v2, v3, v4⟩
      · exact .inl v
      · refine .inr ⟨m, lm, v1, v2, ?_, v4⟩
        subst v1
        have : m ≠ n := fun z => by subst z; exact o2 j hj e1
        rw [getset hl, if_neg this]; exact v3
  · intro j m e
    obtain ⟨lm, e1⟩ := S.vr j m e
    rw [getset hl]
    split
    · exact ⟨l', rfl⟩
    · exact ⟨lm, e1⟩
  · intro j lm hj e
    rcases set_get e with ⟨rfl, e'⟩ | ⟨hne, e⟩
    · cases e'; exact ⟨n, h0, hr, by rw [getset hl, if_pos rfl]⟩
    · obtain ⟨m, m0, m1, m2⟩ := S.ol j lm hj e
      refine ⟨m, m0, m1, ?_⟩
      have : m ≠ n := fun z => by subst z; exact o2 j hne m1
      rw [getset hl, if_neg this]; exact m2
theorem St.bump (S : St own bor b r h ρ c) : ExtB b h (h.set 0 (Tn (c + 1))) (c + 1) ∧ St own bor b r (h.set 0 (Tn (c + 1))) ρ (c + 1) := by
  have hl : 0 < h.length := (List.getElem?_eq_some_iff.mp S.town).1
  have ht : (h.set 0 (Tn (c + 1)))[0]? = some (Tn (c + 1)) := by rw [getset hl, if_pos rfl]
  have hcl : Hc (h.set 0 (Tn (c + 1))) := fun m x e => by
    rw [getset hl] at e
    split at e
    · cases e; exact clean_Tn _
    · exact S.cl m x e
  have ex : ∀ b', ExtB b' h (h.set 0 (Tn (c + 1))) (c + 1) := fun b' => ⟨ht, by simp, fun m h1 h2 => by rw [getset hl, if_neg (by omega)], hcl⟩
  exact ⟨ex b, S.ext (ex _)⟩
/-- a value and the names behind it -/
def RX (own bor : List Nat) (b : Nat) (r : Env) (h' : Hh) (a : D) (p : D × Env) : Prop := (a = p.1 ∧ clean a = true) ∧ ∃ c', St own bor b r h' p.2 c'
def RXs (own bor : List Nat) (b : Nat) (r : Env) (h' : Hh) (a : List D) (p : List D × Env) : Prop := (a = p.1 ∧ cleans a = true) ∧ ∃ c', St own bor b r h' p.2 c'
theorem x_plain (C : Calls br Phi P) {e : E} (q : nv br own (own ++ bor) e = true) (S : St own bor b r h ρ c) : RR b h (RX own bor b r) (e.ev Phi r h) (pbnd (pe P e ρ) (fun d => pret (d, ρ)) c) :=
  RR.map S.bl (sim_e C e q r ρ h c S) fun a x h' c' ex z => ⟨z, c', S.ext ex⟩
mutual
theorem sim_x (C : Calls br Phi P) : ∀ (e : E), xk br own (own ++ bor) e = true → ∀ (r ρ : Env) (h : Hh) (c : Nat), St own bor b r h ρ c → RR b h (RX own bor b r) (e.ev Phi r h) (px P own e ρ c)
  | .mth o (.var i) l, q, r, ρ, h, c, S => by
    rw [xk] at q
    rw [px]
    by_cases hm : isMut o = true
    · rw [if_pos hm] at q
      rw [if_pos hm]
      by_cases hs : okSlot own ρ i = true
      · rw [if_pos hs]
        -- the slot's cell
        have key : ∃ n, r[i]? = some (some (.ref n)) ∧ isLst h (.ref n) = true := by
          unfold okSlot at hs
          split at hs
          · rename_i l0 e
            obtain ⟨n, n0, e1, e2⟩ := S.ol i l0 hs e
            exact ⟨n, e1, by simp [isLst, e2]⟩
          · rename_i e
            obtain ⟨d, e1, v, _⟩ := S.sl i _ e
            rw [v.rf.1] at e1
            exact ⟨0, e1, by simp [isLst, S.town, Tn]⟩
          · cases hs
        obtain ⟨n, e1, e2⟩ := key
        have hk : kindOk o (.ref n) h = true := by
          cases o <;> first | exact e2 | (cases hm; done)
        have hev : (E.mth o (.var i) l).ev Phi r h = TS.bnd (E.evs Phi l r) (fun ds => prim Phi o (.ref n :: ds)) h := by
          simp only [E.ev, e1, TS.bnd, TS.ret, hk, if_true]
        rw [hev]
        refine RR.bnd (Nat.le_refl _) (sim_xs C l q r ρ h c S) fun ds p h1 c1 ex V => ?_
        obtain ⟨⟨hd, V⟩, c', S1⟩ := V
        have := Tn_inj (S1.town.symm.trans ex.town)
        subst this
        obtain ⟨ds', ρ1⟩ := p
        simp only at hd S1
        subst hd
        cases e : ρ1[i]? with
        | none => simp only [doMut, e]; exact trivial
        | some x =>
        cases x with
        | none => simp only [doMut, e]; exact trivial
        | some dd =>
        cases dd with
        | lst l0 =>
          simp only [doMut, e]
          by_cases ho : own.contains i = true
          · simp only [ho, if_true]
            obtain ⟨n', n0, f1, f2⟩ := S1.ol i l0 ho e
            rw [e1] at f1; cases f1
            cases hp : pmut o l0 ds with
            | none => exact trivial
            | some x =>
              obtain ⟨d, l'⟩ := x
              obtain ⟨g1, g2⟩ := pmut_clean (S1.cl _ _ f2) V hp
              obtain ⟨g3, g4⟩ := S1.mut ho n0 e1 f2 g2
              exact ⟨d, _, pmut_sim hp f2, g3, ⟨rfl, g1⟩, _, g4⟩
          · simp only [ho, if_false]; exact trivial
        | ref m =>
          obtain ⟨d, f1, v, _⟩ := S1.sl i _ e
          obtain ⟨v1, v2⟩ := v.rf
          subst v2
          rw [v1, e1] at f1; cases f1
          simp only [doMut, e]
          split
          · split
            · rename_i hc
              obtain ⟨g1, g2⟩ := S1.bump
              refine ⟨.non, _, ?_, g1, ⟨rfl, rfl⟩, _, g2⟩
              simp [prim, a2, pAppend, onList, S1.town, Tn, guardM, hc, setCell]
              rw [Tn_app]
            · exact trivial
          · exact trivial
        | _ => simp only [doMut, e]; exact trivial
      · rw [if_neg hs]; exact trivial
    · rw [if_neg hm] at q
      rw [if_neg hm]
      exact x_plain C q S
  | .mth o (.cst _) l, q, r, ρ, h, c, S => x_plain C q S
  | .mth o (.op _ _) l, q, r, ρ, h, c, S => x_plain C q S
  | .mth o (.mth _ _ _) l, q, r, ρ, h, c, S => x_plain C q S
  | .mth o (.and _ _) l, q, r, ρ, h, c, S => x_plain C q S
  | .mth o (.or _ _) l, q, r, ρ, h, c, S => x_plain C q S
  | .mth o (.andB _ _) l, q, r, ρ, h, c, S => x_plain C q S
  | .mth o (.orB _ _) l, q, r, ρ, h, c, S => x_plain C q S
  | .mth o (.ife _ _ _) l, q, r, ρ, h, c, S => x_plain C q S
  | .mth o (.chain _ _ _) l, q, r, ρ, h, c, S => x_plain C q S
  | .mth o (.sl2 _ _ _) l, q, r, ρ, h, c, S => x_plain C q S
  | .mth o (.comp _ _ _ _ _ _ _) l, q, r, ρ, h, c, S => x_plain C q S
  | .var i, q, r, ρ, h, c, S => x_plain C q S
  | .cst i, q, r, ρ, h, c, S => x_plain C q S
  | .op _ _, q, r, ρ, h, c, S => x_plain C q S
  | .and _ _, q, r, ρ, h, c, S => x_plain C q S
  | .or _ _, q, r, ρ, h, c, S => x_plain C q S
  | .andB _ _, q, r, ρ, h, c, S => x_plain C q S
  | .orB _ _, q, r, ρ, h, c, S => x_plain C q S
  | .ife _ _ _, q, r, ρ, h, c, S => x_plain C q S
  | .chain _ _ _, q, r, ρ, h, c, S => x_plain C q S
  | .sl2 _ _ _, q, r, ρ, h, c, S => x_plain C q S
  | .comp _ _ _ _ _ _ _, q, r, ρ, h, c, S => x_plain C q S
theorem sim_xs (C : Calls br Phi P) : ∀ (l : List E), xks br own (own ++ bor) l = true → ∀ (r ρ : Env) (h : Hh) (c : Nat), St own bor b r h ρ c → RR b h (RXs own bor b r) (E.evs Phi l r h) (pxs P own l ρ c)
  | [], q, r, ρ, h, c, S => RR.ret S.town S.cl ⟨⟨rfl, rfl⟩, c, S⟩
  | e :: es, q, r, ρ, h, c, S => by
    simp only [xks, Bool.and_eq_true] at q
    simp only [E.evs, pxs]
    refine RR.bnd (Nat.le_refl _) (sim_x C e q.1 r ρ h c S) fun a p h1 c1 ex V => ?_
    obtain ⟨⟨rfl, V⟩, c', S1⟩ := V
    have := Tn_inj (S1.town.symm.trans ex.town)
    subst this
    refine RR.bnd (Nat.le_refl _) (sim_xs C es q.2 r p.2 h1 c' S1) fun as p2 h2 c2 ex2 W => ?_
    obtain ⟨⟨rfl, W⟩, c3, S2⟩ := W
    exact RR.ret ex2.town ex2.cl ⟨⟨rfl, by rw [cleans, V, W]; rfl⟩, c3, S2⟩
end
end
end TS

set_option Elab.async false
set_option linter.all false
set_option maxRecDepth 100000
set_option maxHeartbeats 4000000
/-! TQ6: statements and defs, in cells beside by value. -/
namespace TS
open PySem
def nk (br : Nat → Nat → Bool) (own ob : List Nat) : E → Bool
  | .op o l => isNew (.op o []) && (match o with
    | .lst _ => nvs br own ob l
    | _ => rds br own ob l)
  | .comp m elt tg k its cond ow => m && rds br own ob its && tgOk own tg && nvs br own ob cond && nv br own ob elt
  | .ife c a b => nv br own ob c && nk br own ob a && nk br own ob b
  | .cst d => clean d && notLst d
  | _ => false
def RN (k : Nat) (h' : Hh) (a x : D) : Prop := (a = x ∧ clean a = true ∧ notLst x = true) ∨ ∃ n l, a = .ref n ∧ k ≤ n ∧ h'[n]? = some (.lst l) ∧ x = .lst l
theorem RN.mono {k k' : Nat} {h' : Hh} {a x : D} (hk : k' ≤ k) (V : RN k h' a x) : RN k' h' a x := by
  rcases V with V | ⟨n, l, h1, h2, h3⟩
  · exact .inl V
  · exact .inr ⟨n, l, h1, by omega, h3⟩
section
variable {br : Nat → Nat → Bool} {own bor : List Nat} {b : Nat} {Phi : Nat → List D → M D} {P : Nat → List D → PM D}
theorem ext_app {h : Hh} {c : Nat} {l : List D} (t : h[0]? = some (Tn c)) (H : Hc h) (q : cleans l = true) : ExtB h.length h (h ++ [.lst l]) c := by
  have hl : 0 < h.length := (List.getElem?_eq_some_iff.mp t).1
  refine ⟨by rw [List.getElem?_append_left hl]; exact t, by simp, fun n _ hn => by rw [List.getElem?_append_left hn], fun n x e => ?_⟩
  by_cases hn : n < h.length
  · rw [List.getElem?_append_left hn] at e; exact H n x e
  · rw [List.getElem?_append_right (by omega)] at e
    cases hz : n - h.length with
    | zero => rw [hz] at e; cases e; exact q
    | succ m => rw [hz] at e; cases e
theorem sim_new (C : Calls br Phi P) : ∀ (e : E), nk br own (own ++ bor) e = true → ∀ (r ρ : Env) (h : Hh) (c : Nat), St own bor b r h ρ c → RR h.length h (RN h.length) (e.ev Phi r h) (pe P e ρ c)
  | .op o l, q, r, ρ, h, c, S => by
    simp only [nk, Bool.and_eq_true] at q
    simp only [E.ev, pe]
    have fin : ∀ (ds ds' : List D) (h1 : Hh) (c1 : Nat), ExtB h.length h h1 c1 → VRs h1 ds ds' → (o = .lst true → ds = ds') → RR h.length h1 (RN h.length) (prim Phi o ds h1) (pprim P o ds' c1) := fun ds ds' h1 c1 ex V hl => by
      cases qp : pprim P o ds' c1 with
      | bad => exact trivial
      | exc x c2 => exact absurd qp (prim_ne (by rw [q.1]; simp))
      | ok a c2 =>
        have ca := prim_clean (by rw [q.1]; simp) (V.cl ex.cl) qp
        obtain ⟨rfl, e⟩ := new_sim (Phi := Phi) q.1 hl V ex.town qp
        rcases e with ⟨e, e2⟩ | ⟨l, rfl, e⟩
        · exact ⟨a, h1, e, .refl ex.town ex.cl, .inl ⟨rfl, ca, e2⟩⟩
        · exact ⟨_, _, e, (ext_app ex.town ex.cl ca).mono ex.le, .inr ⟨_, l, rfl, ex.le, by simp, rfl⟩⟩
    by_cases hl : ∃ m, o = .lst m
    · obtain ⟨m, rfl⟩ := hl
      refine RR.bnd (Nat.le_refl _) (sim_nvs C l q.2 r ρ h c S) fun ds ds' h1 c1 ex V => ?_
      obtain ⟨rfl, V⟩ := V
      exact fin ds ds h1 c1 ex (VRs.refl V) fun _ => rfl
    · have q2 : rds br own (own ++ bor) l = true := by
        have := q.2
        split at this
        · exact absurd ⟨_, rfl⟩ hl
        · exact this
      exact RR.bnd (Nat.le_refl _) (sim_rds C l q2 r ρ h c S) fun ds ds' h1 c1 ex V => fin ds ds' h1 c1 ex V fun z => absurd ⟨_, z⟩ hl
  | .comp m elt tg k its cond ow, q, r, ρ, h, c, S => by
    simp only [pe, E.ev]
    simp only [nk, Bool.and_eq_true] at q
    obtain ⟨⟨⟨⟨rfl, q1⟩, q2⟩, q3⟩, q4⟩ := q
    refine RR.bnd (Nat.le_refl _) (sim_rds C its q1 r ρ h c S) fun ds ds' h1 c1 ex V => ?_
    cases hp : pitems k ds' with
    | none => exact trivial
    | some xs =>
      obtain ⟨i1, i2, i3⟩ := items_sim V ex.cl ex.town hp
      simp only [i1]
      have key := comp_sim (own := own) (bor := bor) (b := b) (tg := tg) (okf := still ds h1) (h0 := h1) (fun r h ρ c S => sim_conds C cond q3 r ρ h c S) (fun r h ρ c S => sim_e C elt q4 r ρ h c S) q2 (fun h' c' ex' => i3 h1.length h' c' (V.lt (List.getElem?_eq_some_iff.mp ex.town).1) ex') xs h1 c1 i2 (.refl ex.town ex.cl) ((S.ext ex).wipe ow)
      refine RR.bnd ex.le (RR.noexc key) fun l l' h2 c2 ex2 hl => ?_
      obtain ⟨rfl, hl⟩ := hl
      simp only [lft, mkL]
      split
      · exact ⟨_, _, rfl, (ext_app ex2.town ex2.cl hl).mono (Nat.le_trans ex.le ex2.le), .inr ⟨_, l, rfl, Nat.le_trans ex.le ex2.le, by simp, rfl⟩⟩
      · exact trivial
  | .cst d, q, r, ρ, h, c, S => by
    simp only [pe, E.ev]
    simp only [nk, Bool.and_eq_true] at q
    exact RR.ret S.town S.cl (.inl ⟨rfl, q.1, q.2⟩)
  | .ife t x y, q, r, ρ, h, c, S => by
    simp only [pe, E.ev]
    simp only [nk, Bool.and_eq_true] at q
    refine RR.bnd (Nat.le_refl _) (sim_e C t q.1.1 r ρ h c S) fun z z' h1 c1 ex V => ?_
    obtain ⟨rfl, V⟩ := V
    match z with
    | .bl true => exact RR.mono ex.le (sim_new C x q.1.2 r ρ h1 c1 (S.ext ex)) fun _ _ _ _ _ z => z.mono ex.le
    | .bl false => exact RR.mono ex.le (sim_new C y q.2 r ρ h1 c1 (S.ext ex)) fun _ _ _ _ _ z => z.mono ex.le
    | .non | .int _ | .str _ | .tup _ | .lst _ | .ref _ | .gl _ | .scr _ => exact trivial
variable {r ρ : Env} {h : Hh} {c : Nat}
theorem St.setN (S : St own bor b r h ρ c) {i k : Nat} {a x : D} (hf : ∀ (j m : Nat), r[j]? = some (some (.ref m)) → m < k) (hk : b ≤ k) (V : RN k h a x) (ho : own.contains i = true) : St own bor b (r.set i (some a)) h (ρ.set i (some x)) c := by
  have hk0 : 0 < k := Nat.lt_of_lt_of_le S.pos hk
  have hob : (own ++ bor).contains i = true := by simp only [List.contains_eq_mem, List.mem_append, decide_eq_true_eq] at ho ⊢; exact .inl ho
  refine ⟨S.town, S.cl, S.bl, by simp [S.len], fun j d' e => ?_, S.pos, fun j n e => ?_, fun j n h1 e => ?_, fun j n h1 e h0 => ?_, fun j l h1 e => ?_⟩
  · by_cases hj : i = j
    · subst hj
      rw [List.getElem?_set] at e ⊢
      simp only [if_true] at e ⊢
      rw [S.len]
      split at e
      · rename_i hl; cases e
        refine ⟨a, by rw [if_pos hl], ?_, fun z => by rw [hob] at z; cases z⟩
        rcases V with ⟨rfl, V, _⟩ | ⟨n, l, rfl, V1, V2, rfl⟩
        · exact .refl V
        · exact .inr ⟨n, l, rfl, by omega, V2, rfl⟩
      · cases e
    · rw [List.getElem?_set_ne hj] at e ⊢
      exact S.sl j d' e
  · rcases set_get e with ⟨_, e'⟩ | ⟨_, e'⟩
    · cases e'
      rcases V with ⟨rfl, V, _⟩ | ⟨n, l, V0, V1, V2, rfl⟩
      · rw [clean] at V; have := of_decide_eq_true V; subst this
        exact ⟨_, S.town⟩
      · cases V0; exact ⟨l, V2⟩
    · exact S.vr j n e'
  · rcases set_get e with ⟨rfl, e'⟩ | ⟨_, e'⟩
    · rw [ho] at h1; cases h1
    · exact S.bo j n h1 e'
  · rcases set_get e with ⟨rfl, e'⟩ | ⟨hj, e'⟩
    · cases e'
      rcases V with ⟨_, V, _⟩ | ⟨n', l, V0, V1, V2, rfl⟩
      · rw [clean] at V; have := of_decide_eq_true V; omega
      · cases V0
        refine ⟨by omega, fun k' hk' z => ?_⟩
        rcases set_get z with ⟨z1, _⟩ | ⟨_, z2⟩
        · exact hk' z1
        · have := hf k' n z2; omega
    · obtain ⟨p1, p2⟩ := S.ow j n h1 e' h0
      refine ⟨p1, fun k' hk' z => ?_⟩
      rcases set_get z with ⟨_, z2⟩ | ⟨_, z2⟩
      · cases z2
        rcases V with ⟨_, V, _⟩ | ⟨n', l, V0, V1, V2, rfl⟩
        · rw [clean] at V; have := of_decide_eq_true V; omega
        · cases V0; have := hf j n e'; omega
      · exact p2 k' hk' z2
  · by_cases hj : i = j
    · subst hj
      rw [List.getElem?_set] at e ⊢
      simp only [if_true] at e ⊢
      rw [S.len]
      split at e
      · rename_i hl
        cases e
        rcases V with ⟨_, _, V⟩ | ⟨n', l', V0, V1, V2, V3⟩
        · cases V
        · cases V3; subst V0
          exact ⟨n', by omega, by rw [if_pos hl], V2⟩
      · cases e
    · rw [List.getElem?_set_ne hj] at e ⊢
      exact S.ol j l h1 e
theorem St.lt (S : St own bor b r h ρ c) : ∀ (j m : Nat), r[j]? = some (some (.ref m)) → m < h.length := fun j m e => by
  obtain ⟨l, hl⟩ := S.vr j m e
  exact (List.getElem?_eq_some_iff.mp hl).1
/-- a value for a name -/
def RA (own : List Nat) (i k : Nat) (h' : Hh) (a x : D) : Prop := if own.contains i = true then RN k h' a x else (a = x ∧ clean a = true)
def pk (br : Nat → Nat → Bool) (own ob : List Nat) (i : Nat) (e : E) : Bool := if own.contains i = true then nk br own ob e else nv br own ob e
theorem sim_a (C : Calls br Phi P) {i : Nat} {e : E} (q : pk br own (own ++ bor) i e = true) (S : St own bor b r h ρ c) : RR h.length h (RA own i h.length) (e.ev Phi r h) (pe P e ρ c) := by
  unfold pk at q
  unfold RA
  by_cases ho : own.contains i = true
  · rw [if_pos ho] at q
    exact RR.mono (Nat.le_refl _) (sim_new C e q r ρ h c S) fun _ _ _ _ _ z => by rw [if_pos ho]; exact z
  · rw [if_neg ho] at q
    exact RR.mono (Nat.le_refl _) (sim_e C e q r ρ h c S) fun _ _ _ _ _ z => by rw [if_neg ho]; exact z
theorem St.setA (S : St own bor b r h ρ c) {i k : Nat} {a x : D} (hf : ∀ (j m : Nat), r[j]? = some (some (.ref m)) → m < k) (hk : b ≤ k) (V : RA own i k h a x) : St own bor b (r.set i (some a)) h (ρ.set i (some x)) c := by
  unfold RA at V
  by_cases ho : own.contains i = true
  · rw [if_pos ho] at V; exact S.setN hf hk V ho
  · rw [if_neg ho] at V
    obtain ⟨rfl, V⟩ := V
    exact S.set V (by simpa using ho)
theorem RA.ext {i k : Nat} {h' : Hh} {c' : Nat} {a x : D} (hp : 0 < k) (V : RA own i k h a x) (ex : ExtB h.length h h' c') : RA own i k h' a x := by
  unfold RA at *
  by_cases ho : own.contains i = true
  · rw [if_pos ho] at *
    rcases V with V | ⟨n, l, V1, V2, V3, V4⟩
    · exact .inl V
    · exact .inr ⟨n, l, V1, V2, by rw [ex.old n (by omega) (List.getElem?_eq_some_iff.mp V3).1]; exact V3, V4⟩
  · rw [if_neg ho] at *; exact V
theorem RA.lt {i k : Nat} {a x : D} {m : Nat} (hp : 0 < h.length) (V : RA own i k h a x) (e : a = .ref m) : m < h.length := by
  unfold RA at V
  subst e
  by_cases ho : own.contains i = true
  · rw [if_pos ho] at V
    rcases V with ⟨_, V, _⟩ | ⟨n, l, V1, V2, V3, V4⟩
    · rw [clean] at V; have := of_decide_eq_true V; omega
    · cases V1; exact (List.getElem?_eq_some_iff.mp V3).1
  · rw [if_neg ho] at V
    have V := V.2
    rw [clean] at V; have := of_decide_eq_true V; omega
def fsrc (br : Nat → Nat → Bool) (own ob : List Nat) : List E → Bool
  | [] => true
  | e :: es => (nv br own ob e || (match e with
    | .var i => !own.contains i
    | _ => false)) && fsrc br own ob es
theorem sim_fs (C : Calls br Phi P) : ∀ (l : List E), fsrc br own (own ++ bor) l = true → ∀ (r ρ : Env) (h : Hh) (c : Nat), St own bor b r h ρ c → RR h.length h (fun h' a x => VRs h' a x ∧ ∀ n, D.ref n ∈ a → n < b) (E.evs Phi l r h) (pes P l ρ c)
  | [], q, r, ρ, h, c, S => by
    simp only [pes, E.evs]
    exact RR.ret S.town S.cl ⟨.nil, fun n hn => by cases hn⟩
  | e :: es, q, r, ρ, h, c, S => by
    simp only [pes, E.evs]
    simp only [fsrc, Bool.and_eq_true] at q
    have ha : RR h.length h (fun h' a x => VR h' a x ∧ ∀ n, a = .ref n → n < b) (e.ev Phi r h) (pe P e ρ c) := by
      by_cases hv : nv br own (own ++ bor) e = true
      · exact RR.mono (Nat.le_refl _) (sim_e C e hv r ρ h c S) fun _ _ _ _ _ z => ⟨.inl z, fun n hn => by
          subst hn; have := z.2; rw [clean] at this; have := of_decide_eq_true this; rw [this]; exact S.pos⟩
      · have hv' := q.1
        simp only [hv, Bool.false_or] at hv'
        cases e <;> (try (cases hv'; done))
        rename_i i
        simp only [Bool.not_eq_true'] at hv'
        simp only [pe, E.ev]
        cases e : ρ[i]? with
        | none => exact trivial
        | some x =>
          cases x with
          | none => exact trivial
          | some d' =>
            obtain ⟨d, h1, h2, h3⟩ := S.sl i d' e
            simp only [h1]
            refine RR.ret S.town S.cl ⟨h2, fun n hn => ?_⟩
            subst hn
            exact S.bo i n hv' h1
    refine RR.bnd (Nat.le_refl _) ha fun x x' h1 c1 ex V => ?_
    refine RR.bnd ex.le (sim_fs C es q.2 r ρ h1 c1 (S.ext ex)) fun y y' h2 c2 ex2 W => ?_
    refine RR.ret ex2.town ex2.cl ⟨.cons (V.1.ext (Nat.le_refl _) ex2) W.1, fun n hn => ?_⟩
    rcases List.mem_cons.mp hn with e | e
    · exact V.2 n e.symm
    · exact W.2 n e
mutual
def wS (br : Nat → Nat → Bool) (own ob : List Nat) : S → Bool
  | .asg i e => if own.contains i = true then nk br own ob e else xk br own ob e
  | .par i j a b => pk br own ob i a && pk br own ob j b
  | .asgT l e => (nv br own ob e && l.all fun i => !own.contains i) || (match l, e with
    | [i, j], .op .tup [a, b] => pk br own ob i a && pk br own ob j b
    | _, _ => false)
  | .put o i v => isVar o && nv br own ob i && nv br own ob v
  | .exp e => xk br own ob e
  | .rtn e => nv br own ob e || (match e with
    | .op .frz [.var i] => own.contains i
    | _ => false)
  | .ite c a b => nv br own ob c && wSs br own ob a && wSs br own ob b
  | .for_ tg k its body => fsrc br own ob its && tgOk own tg && wSs br own ob body
  | .while_ c body => nv br own ob c && wSs br own ob body
  | .raise c l => nvs br own ob l
  | .pass => true
  | .never => true
  | _ => false
def wSs (br : Nat → Nat → Bool) (own ob : List Nat) : List S → Bool
  | [] => true
  | s :: ss => wS br own ob s && wSs br own ob ss
end
def RF (own bor : List Nat) (b : Nat) (h' : Hh) (f g : Fl) : Prop := match f, g with
  | .next r', .next ρ' => ∃ c, St own bor b r' h' ρ' c
  | .ret a, .ret x => a = x ∧ clean a = true
  | _, _ => False
theorem for_sim {tg : Tg} {body : Env → M Fl} {pbody : Env → PM Fl} {okf : Hh → Bool} {h0 : Hh} (hb : ∀ r h ρ c, St own bor b r h ρ c → RR b h (RF own bor b) (body r h) (pbody ρ c)) (ht : tgOk own tg = true) (hok : ∀ h' c', ExtB b h0 h' c' → okf h' = true) :
    ∀ (xs : List D) (r ρ : Env) (h : Hh) (c : Nat), cleans xs = true → ExtB b h0 h c → St own bor b r h ρ c → RR b h (RF own bor b) (forL (bindTg tg) body okf xs r h) (pforL (bindTg tg) pbody xs ρ c)
  | [], r, ρ, h, c, _, ex, S => RR.ret S.town S.cl ⟨c, S⟩
  | x :: xs, r, ρ, h, c, q, ex, S => by
    simp only [cleans, Bool.and_eq_true] at q
    simp only [forL, hok h c ex, if_true, pforL]
    cases e : bindTg tg x ρ with
    | none => exact trivial
    | some ρ1 =>
      obtain ⟨r1, e1, S1⟩ := S.bind q.1 ht e
      rw [e1]
      dsimp only
      refine RR.bnd (Nat.le_refl _) (hb r1 h ρ1 c S1) fun f g h1 c1 ex1 V => ?_
      cases f with
      | ret a =>
        cases g with
        | ret x => exact RR.ret ex1.town ex1.cl V
        | next ρ' => exact V.elim
      | next r' =>
        cases g with
        | ret x => exact V.elim
        | next ρ' =>
          obtain ⟨c', S2⟩ := V
          have := Tn_inj (S2.town.symm.trans ex1.town)
          subst this
          simp only [hok h1 c' (ex.trans ex1), if_true]
          exact for_sim hb ht hok xs r' ρ' h1 c' q.2 (ex.trans ex1) S2
theorem while_sim {cd : Env → M D} {pcd : Env → PM D} {body : Env → M Fl} {pbody : Env → PM Fl} (hc : ∀ r h ρ c, St own bor b r h ρ c → RR h.length h Eqc (cd r h) (pcd ρ c)) (hb : ∀ r h ρ c, St own bor b r h ρ c → RR b h (RF own bor b) (body r h) (pbody ρ c)) :
    ∀ (n : Nat) (r ρ : Env) (h : Hh) (c : Nat), St own bor b r h ρ c → RR b h (RF own bor b) (whileL cd body n r h) (pwhileL pcd pbody n ρ c)
  | 0, r, ρ, h, c, S => trivial
  | n + 1, r, ρ, h, c, S => by
    simp only [whileL, pwhileL]
    refine RR.bnd S.bl (hc r h ρ c S) fun x x' h1 c1 ex V => ?_
    obtain ⟨rfl, V⟩ := V
    have S1 := S.ext ex
    match x with
    | .bl true =>
      refine RR.bnd (Nat.le_refl _) (hb r h1 ρ c1 S1) fun f g h2 c2 ex1 V => ?_
      cases f with
      | ret a =>
        cases g with
        | ret x => exact RR.ret ex1.town ex1.cl V
        | next ρ' => exact V.elim
      | next r' =>
        cases g with
        | ret x => exact V.elim
        | next ρ' =>
          obtain ⟨c', S2⟩ := V
          have := Tn_inj (S2.town.symm.trans ex1.town)
          subst this
          exact while_sim hc hb n r' ρ' h2 c' S2
    | .bl false => exact RR.ret ex.town ex.cl ⟨c1, S1⟩
    | .non | .int _ | .str _ | .tup _ | .lst _ | .ref _ | .gl _ | .scr _ => exact trivial
theorem px_nk {e : E} (q : nk br own (own ++ bor) e = true) : px P own e ρ = pbnd (pe P e ρ) (fun d => pret (d, ρ)) := by
  cases e <;> first | rfl | (cases q; done)
theorem two_sim (C : Calls br Phi P) {i j : Nat} {x y : E} (q1 : pk br own (own ++ bor) i x = true) (q2 : pk br own (own ++ bor) j y = true) (S : St own bor b r h ρ c) {f : D → D → M Fl} {g : D → D → PM Fl} 
    (k : ∀ a a' d d' h' c', St own bor b ((r.set i (some a)).set j (some d)) h' ((ρ.set i (some a')).set j (some d')) c' → RR b h' (RF own bor b) (f a d h') (g a' d' c')) :
    RR b h (RF own bor b) (TS.bnd (x.ev Phi r) (fun a => TS.bnd (y.ev Phi r) fun d => f a d) h) (pbnd (pe P x ρ) (fun a => pbnd (pe P y ρ) fun d => g a d) c) := by
  refine RR.bnd S.bl (sim_a C q1 S) fun a a' h1 c1 ex V => ?_
  have S1 := S.ext ex
  refine RR.bnd S1.bl (sim_a C q2 S1) fun d d' h2 c2 ex2 W => ?_
  have S2 := S1.ext ex2
  have hp : 0 < h.length := (List.getElem?_eq_some_iff.mp S.town).1
  have hp1 : 0 < h1.length := (List.getElem?_eq_some_iff.mp S1.town).1
  have S3 := S2.setA (i := i) S.lt S.bl (V.ext hp ex2)
  refine k a a' d d' h2 c2 (S3.setA (k := h1.length) (fun j m e => ?_) S1.bl W)
  rcases set_get e with ⟨_, e'⟩ | ⟨_, e'⟩
  · cases e'; exact V.lt hp1 rfl
  · exact S1.lt j m e'
mutual
theorem sim_s (C : Calls br Phi P) : ∀ (s : S), wS br own (own ++ bor) s = true → ∀ (r ρ : Env) (h : Hh) (c : Nat), St own bor b r h ρ c → RR b h (RF own bor b) (s.ex Phi r h) (pex P own s ρ c)
  | .asg i e, q, r, ρ, h, c, S => by
    simp only [wS] at q
    simp only [TS.S.ex, pex]
    by_cases ho : own.contains i = true
    · rw [if_pos ho] at q
      rw [px_nk q]
      refine RR.bnd (Nat.le_refl _) (RR.map (rel2 := fun h' a p => p.2 = ρ ∧ RN h.length h' a p.1 ∧ ∃ c', ExtB h.length h h' c') S.bl (sim_new C e q r ρ h c S) fun a x h' c' ex z => ⟨rfl, z, c', ex⟩) fun a p h1 c1 ex V => ?_
      obtain ⟨hp, V, c', ex'⟩ := V
      have S1 := S.ext ex'
      have := Tn_inj (S1.town.symm.trans ex.town)
      subst this
      rw [hp]
      exact RR.ret ex.town ex.cl ⟨_, S1.setN S.lt S.bl V ho⟩
    · rw [if_neg ho] at q
      refine RR.bnd (Nat.le_refl _) (sim_x C e q r ρ h c S) fun a p h1 c1 ex V => ?_
      obtain ⟨⟨rfl, V⟩, c', S1⟩ := V
      exact RR.ret ex.town ex.cl ⟨_, S1.set V (by simpa using ho)⟩
  | .par i j x y, q, r, ρ, h, c, S => by
    simp only [wS, Bool.and_eq_true] at q
    simp only [TS.S.ex, pex]
    exact two_sim C q.1 q.2 S fun a a' d d' h' c' S' => RR.ret S'.town S'.cl ⟨_, S'⟩
  | .asgT l e, q, r, ρ, h, c, S => by
    simp only [wS, Bool.or_eq_true] at q
    simp only [TS.S.ex, pex]
    rcases q with q | q
    · rw [Bool.and_eq_true] at q
      refine RR.bnd S.bl (sim_e C e q.1 r ρ h c S) fun d d' h1 c1 ex V => ?_
      obtain ⟨rfl, V⟩ := V
      cases hb : bindTg (.many l) d ρ with
      | none => exact trivial
      | some ρ1 =>
        obtain ⟨r1, e1, S1⟩ := (S.ext ex).bind (t := .many l) V q.2 hb
        rw [e1]
        exact RR.ret ex.town ex.cl ⟨_, S1⟩
    · split at q
      · rename_i i j x y
        rw [Bool.and_eq_true] at q
        have e1 : ∀ (k : D → M Fl), TS.bnd ((E.op .tup [x, y]).ev Phi r) k h = TS.bnd (x.ev Phi r) (fun a => TS.bnd (y.ev Phi r) fun d => k (.tup [a, d])) h := fun k => by
          simp only [E.ev, E.evs, TS.bnd, TS.ret, prim, mkT]
          cases x.ev Phi r h with
          | ok a h1 =>
            dsimp only
            cases y.ev Phi r h1 with
            | ok d h2 => simp [TS.ret]
            | _ => rfl
          | _ => rfl
        have e2 : ∀ (k : D → PM Fl), pbnd (pe P (E.op .tup [x, y]) ρ) k c = pbnd (pe P x ρ) (fun a => pbnd (pe P y ρ) fun d => k (.tup [a, d])) c := fun k => by
          simp only [pe, pes, pbnd, pret, pprim, lft, mkT]
          cases pe P x ρ c with
          | ok a h1 =>
            dsimp only
            cases pe P y ρ h1 with
            | ok d h2 => simp [TS.ret]
            | _ => rfl
          | _ => rfl
        rw [e1, e2]
        exact two_sim C q.1 q.2 S fun a a' d d' h' c' S' => RR.ret S'.town S'.cl ⟨_, S'⟩
      · cases q
  | .put o i v, q, r, ρ, h, c, S => by
    simp only [wS, Bool.and_eq_true] at q
    cases o <;> (try (cases q.1.1; done))
    rename_i o
    simp only [TS.S.ex, pex]
    refine RR.bnd S.bl (sim_e C v q.2 r ρ h c S) fun z z' h1 c1 ex V => ?_
    obtain ⟨rfl, V⟩ := V
    have S1 := S.ext ex
    by_cases hs : okSlot own ρ o = true
    · rw [if_pos hs]
      unfold okSlot at hs
      split at hs
      · rename_i l e
        obtain ⟨n, n0, f1, f2⟩ := S1.ol o l hs e
        have ho : (E.var o).ev Phi r h1 = .ok (.ref n) h1 := by simp only [E.ev, f1, TS.ret]
        have hev : ∀ k : D → M Fl, TS.bnd ((E.var o).ev Phi r) k h1 = k (.ref n) h1 := fun k => by simp only [TS.bnd, ho]
        rw [hev]
        refine RR.bnd S1.bl (sim_e C i q.1.2 r ρ h1 c1 S1) fun y y' h2 c2 ex2 W => ?_
        obtain ⟨rfl, W⟩ := W
        have S2 := S1.ext ex2
        have f3 : h2[n]? = some (.lst l) := by rw [ex2.old n n0 (List.getElem?_eq_some_iff.mp f2).1]; exact f2
        cases y with
        | int k =>
          simp only [doPut, e]
          cases hx : ixN l.length k with
          | none => exact trivial
          | some j =>
            have cl2 : cleans (l.set j z) = true := by
              rw [cleans_iff]
              intro d hd
              rcases List.mem_or_eq_of_mem_set hd with w | w
              · exact cleans_iff.mp (S2.cl _ _ f3) d w
              · rw [w]; exact V
            obtain ⟨g1, g2⟩ := S2.mut (l' := l.set j z) hs n0 f1 f3 cl2
            refine ⟨.next r, _, ?_, g1, _, g2⟩
            simp only [TS.bnd, putM, f3, hx, TS.ret]
        | _ => simp only [doPut, e]; exact trivial
      · rename_i e
        obtain ⟨d, f1, v, _⟩ := S1.sl o _ e
        rw [v.rf.1] at f1
        have ho : (E.var o).ev Phi r h1 = .ok (.ref 0) h1 := by simp only [E.ev, f1, TS.ret]
        have hev : ∀ k : D → M Fl, TS.bnd ((E.var o).ev Phi r) k h1 = k (.ref 0) h1 := fun k => by simp only [TS.bnd, ho]
        rw [hev]
        refine RR.bnd S1.bl (sim_e C i q.1.2 r ρ h1 c1 S1) fun y y' h2 c2 ex2 W => ?_
        simp only [doPut, e]; exact trivial
      · cases hs
    · rw [if_neg hs]; exact trivial
  | .exp e, q, r, ρ, h, c, S => by
    simp only [TS.S.ex, pex]
    refine RR.bnd (Nat.le_refl _) (sim_x C e q r ρ h c S) fun a p h1 c1 ex V => ?_
    obtain ⟨_, c', S1⟩ := V
    exact RR.ret ex.town ex.cl ⟨_, S1⟩
  | .rtn e, q, r, ρ, h, c, S => by
    simp only [wS, Bool.or_eq_true] at q
    simp only [TS.S.ex, pex]
    rcases q with q | q
    · refine RR.bnd S.bl (sim_e C e q r ρ h c S) fun d d' h1 c1 ex V => ?_
      exact RR.ret ex.town ex.cl V
    · split at q
      · rename_i i
        simp only [pe, pes]
        cases e : ρ[i]? with
        | none => exact trivial
        | some x =>
        cases x with
        | none => exact trivial
        | some dd =>
        cases dd with
        | lst l =>
          obtain ⟨n, n0, f1, f2⟩ := S.ol i l q e
          have hl : n < h.length := (List.getElem?_eq_some_iff.mp f2).1
          obtain ⟨o1, o2⟩ := S.ow i n q f1 n0
          refine ⟨.ret (.lst l), h.set n .dead, ?_, ⟨?_, by simp, fun m _ hm => ?_, fun m x e => ?_⟩, rfl, S.cl _ _ f2⟩
          · simp [E.ev, E.evs, f1, TS.bnd, TS.ret, prim, a1, pFrz, onList, f2]
          · rw [getset hl, if_neg (by omega)]; exact S.town
          · rw [getset hl, if_neg (by omega)]
          · rw [getset hl] at e
            split at e
            · cases e; rfl
            · exact S.cl m x e
        | _ => exact trivial
      · cases q
  | .ite t x y, q, r, ρ, h, c, S => by
    simp only [wS, Bool.and_eq_true] at q
    simp only [TS.S.ex, pex]
    refine RR.bnd S.bl (sim_e C t q.1.1 r ρ h c S) fun z z' h1 c1 ex V => ?_
    obtain ⟨rfl, V⟩ := V
    match z with
    | .bl true => exact sim_ss C x q.1.2 r ρ h1 c1 (S.ext ex)
    | .bl false => exact sim_ss C y q.2 r ρ h1 c1 (S.ext ex)
    | .non | .int _ | .str _ | .tup _ | .lst _ | .ref _ | .gl _ | .scr _ => exact trivial
  | .for_ tg k its body, q, r, ρ, h, c, S => by
    simp only [wS, Bool.and_eq_true] at q
    simp only [TS.S.ex, pex]
    refine RR.bnd S.bl (sim_fs C its q.1.1 r ρ h c S) fun ds ds' h1 c1 ex V => ?_
    cases hp : pitems k ds' with
    | none => exact trivial
    | some xs =>
      obtain ⟨i1, i2, i3⟩ := items_sim V.1 ex.cl ex.town hp
      simp only [i1]
      exact for_sim (fun r h ρ c S => sim_ss C body q.2 r ρ h c S) q.1.2 (fun h' c' ex' => i3 b h' c' V.2 ex') xs r ρ h1 c1 i2 (.refl ex.town ex.cl) (S.ext ex)
  | .while_ t body, q, r, ρ, h, c, S => by
    simp only [wS, Bool.and_eq_true] at q
    simp only [TS.S.ex, pex]
    exact while_sim (fun r h ρ c S => sim_e C t q.1 r ρ h c S) (fun r h ρ c S => sim_ss C body q.2 r ρ h c S) 1000 r ρ h c S
  | .raise k l, q, r, ρ, h, c, S => by
    simp only [TS.S.ex, pex]
    refine RR.bnd S.bl (sim_nvs C l q r ρ h c S) fun ds ds' h1 c1 ex V => ?_
    obtain ⟨rfl, V⟩ := V
    match ds, V with
    | [], V => exact trivial
    | x :: _ :: _, V => cases x <;> exact trivial
    | [.str s], V => exact ⟨h1, rfl, .refl ex.town ex.cl, rfl⟩
    | [.non], V => exact ⟨h1, rfl, .refl ex.town ex.cl, rfl⟩
    | [.bl _], V => exact ⟨h1, rfl, .refl ex.town ex.cl, rfl⟩
    | [.int _], V => exact ⟨h1, rfl, .refl ex.town ex.cl, rfl⟩
    | [.tup l], V => exact ⟨h1, rfl, .refl ex.town ex.cl, by simpa [cleans, cleanX] using V⟩
    | [.lst l], V => exact ⟨h1, rfl, .refl ex.town ex.cl, by simpa [cleans, cleanX] using V⟩
    | [.ref l], V => exact ⟨h1, rfl, .refl ex.town ex.cl, by simpa [cleans, cleanX] using V⟩
    | [.gl l], V => exact ⟨h1, rfl, .refl ex.town ex.cl, rfl⟩
    | [.scr l], V => exact ⟨h1, rfl, .refl ex.town ex.cl, rfl⟩
  | .pass, q, r, ρ, h, c, S => RR.ret S.town S.cl ⟨c, S⟩
  | .never, q, r, ρ, h, c, S => trivial
  | .asgTT _ _ _, q, r, ρ, h, c, S => by cases q
  | .fld _ _ _, q, r, ρ, h, c, S => by cases q
  | .tryw _ _ _, q, r, ρ, h, c, S => by cases q
theorem sim_ss (C : Calls br Phi P) : ∀ (l : List S), wSs br own (own ++ bor) l = true → ∀ (r ρ : Env) (h : Hh) (c : Nat), St own bor b r h ρ c → RR b h (RF own bor b) (S.exs Phi l r h) (pexs P own l ρ c)
  | [], q, r, ρ, h, c, S => RR.ret S.town S.cl ⟨c, S⟩
  | s :: ss, q, r, ρ, h, c, S => by
    simp only [wSs, Bool.and_eq_true] at q
    simp only [TS.S.exs, pexs]
    refine RR.bnd (Nat.le_refl _) (sim_s C s q.1 r ρ h c S) fun f g h1 c1 ex V => ?_
    cases f with
    | ret a =>
      cases g with
      | ret x => exact RR.ret ex.town ex.cl V
      | next ρ' => exact V.elim
    | next r' =>
      cases g with
      | ret x => exact V.elim
      | next ρ' =>
        obtain ⟨c', S2⟩ := V
        have := Tn_inj (S2.town.symm.trans ex.town)
        subst this
        exact sim_ss C ss q.2 r' ρ' h1 c' S2
end
/-! ### defs -/
def borOf (fd : FnDef) : List Nat := (List.range fd.np).filter fun j => wSs (fun _ _ => false) (ownss fd.body) (ownss fd.body ++ [j]) fd.body
def brT (T : Nat → Option FnDef) (f k : Nat) : Bool := match T f with
  | some fd => (borOf fd).contains k
  | none => false
def wF (br : Nat → Nat → Bool) (fd : FnDef) : Bool := ((List.range fd.np).all fun i => !(ownss fd.body).contains i) && wSs br (ownss fd.body) (ownss fd.body ++ borOf fd) fd.body
theorem VRs.length {h : Hh} {ds ds' : List D} (V : VRs h ds ds') : ds.length = ds'.length := by
  induction V with
  | nil => rfl
  | cons _ _ ih => simp [ih]
theorem VRs.get {h : Hh} {ds ds' : List D} (V : VRs h ds ds') : ∀ {i : Nat} {d' : D}, ds'[i]? = some d' → ∃ d, ds[i]? = some d ∧ VR h d d' := by
  induction V with
  | nil => intro i d' e; simp at e
  | cons v _ ih =>
    intro i d' e
    cases i with
    | zero => simp only [List.getElem?_cons_zero, Option.some.injEq] at e ⊢; subst e; exact ⟨_, rfl, v⟩
    | succ i => simp only [List.getElem?_cons_succ] at e ⊢; exact ih e
theorem start_get {np ns : Nat} {ds : List D} {i : Nat} {d : D} (e : (startE np ns ds)[i]? = some (some d)) : ds[i]? = some d := by
  unfold startE at e
  by_cases hi : i < ds.length
  · rw [List.getElem?_append_left (by simpa using hi), List.getElem?_map] at e
    cases q : ds[i]? with
    | none => rw [q] at e; cases e
    | some x => rw [q] at e; cases e; rfl
  · rw [List.getElem?_append_right (by simpa using hi), List.getElem?_replicate] at e
    split at e <;> cases e
theorem start_of {np ns : Nat} {ds : List D} {i : Nat} {d : D} (e : ds[i]? = some d) : (startE np ns ds)[i]? = some (some d) := by
  unfold startE
  have hi : i < ds.length := (List.getElem?_eq_some_iff.mp e).1
  rw [List.getElem?_append_left (by simpa using hi), List.getElem?_map, e]; rfl
theorem St.start {ds ds' : List D} {np ns : Nat} (t : h[0]? = some (Tn c)) (H : Hc h) (V : VRs h ds ds') (hl : ds'.length = np) (ho : ∀ i, i < np → own.contains i = false) (hb : ∀ j, bor.contains j = false → ds[j]? = ds'[j]?) : St own bor h.length (startE np ns ds) h (startE np ns ds') c := by
  have hp : 0 < h.length := (List.getElem?_eq_some_iff.mp t).1
  have hlt : ∀ {i : Nat} {d : D}, ds[i]? = some d → i < np := fun {i d} e => by
    have := (List.getElem?_eq_some_iff.mp e).1
    rw [V.length, hl] at this; exact this
  have href : ∀ (i n : Nat), (startE np ns ds)[i]? = some (some (.ref n)) → (∃ l, h[n]? = some (.lst l)) := fun i n e => by
    have e1 := start_get e
    have hi := hlt e1
    have hi' : i < ds'.length := by rw [hl]; exact hi
    obtain ⟨d, f1, v⟩ := V.get (List.getElem?_eq_getElem hi')
    rw [e1] at f1; cases f1
    rcases v with ⟨_, q⟩ | ⟨m, l, q1, q2, q3, _⟩
    · rw [clean] at q; have := of_decide_eq_true q; subst this; exact ⟨_, t⟩
    · cases q1; exact ⟨l, q3⟩
  refine ⟨t, H, Nat.le_refl _, by simp [startE, V.length], fun i d' e => ?_, hp, href, fun i n _ e => ?_, fun i n h1 e h0 => ?_, fun i l h1 e => ?_⟩
  · have e1 := start_get e
    obtain ⟨d, f1, v⟩ := V.get e1
    refine ⟨d, start_of f1, v, fun hc => ?_⟩
    have : bor.contains i = false := by
      simp only [List.contains_eq_mem, List.mem_append, decide_eq_false_iff_not, not_or] at hc ⊢
      exact hc.2
    have := hb i this
    rw [f1, e1] at this
    cases this; rfl
  · obtain ⟨l, hl⟩ := href i n e
    exact (List.getElem?_eq_some_iff.mp hl).1
  · rw [ho i (hlt (start_get e))] at h1; cases h1
  · have e1 := start_get e
    have hi := (List.getElem?_eq_some_iff.mp e1).1
    rw [hl] at hi
    rw [ho i hi] at h1; cases h1
theorem clean_lt {n : Nat} (hn : 0 < n) : ∀ {d : D}, clean d = true → refLt n d = true := by
  suffices ∀ m : Nat, (∀ d : D, sizeOf d < m → clean d = true → refLt n d = true) ∧ (∀ l : List D, sizeOf l < m → cleans l = true → refLts n l = true) from fun {d} q => (this (sizeOf d + 1)).1 d (by omega) q
  intro m
  induction m with
  | zero => exact ⟨fun d h => by omega, fun l h => by omega⟩
  | succ m ih =>
    refine ⟨fun d hd q => ?_, fun l hd q => ?_⟩
    · cases d with
      | ref k => rw [clean] at q; have := of_decide_eq_true q; subst this; simpa [refLt] using hn
      | tup l => simp only [refLt]; exact ih.2 l (by simp at hd; omega) q
      | lst l => simp only [refLt]; exact ih.2 l (by simp at hd; omega) q
      | _ => rfl
    · cases l with
      | nil => rfl
      | cons d l =>
        simp only [cleans, Bool.and_eq_true] at q
        simp only [refLts, ih.1 d (by simp at hd; omega) q.1, ih.2 l (by simp at hd; omega) q.2, Bool.and_self]
theorem cleans_lt {n : Nat} (hn : 0 < n) {l : List D} (q : cleans l = true) : refLts n l = true := by
  have : refLt n (.lst l) = true := clean_lt hn (d := .lst l) q
  exact this
theorem cleanC_lt {n : Nat} (hn : 0 < n) {x : Cell} (q : cleanC x = true) : cellLt n x = true := by
  cases x with
  | dead => rfl
  | lst l => exact cleans_lt hn q
  | dct kvs =>
    simp only [cleanC, List.all_eq_true, Bool.and_eq_true] at q
    simp only [cellLt, List.all_eq_true]
    exact fun kv hk => clean_lt hn (q kv hk).2
  | ins k fs =>
    simp only [cleanC, List.all_eq_true] at q
    simp only [cellLt, List.all_eq_true]
    exact fun kv hk => clean_lt hn (q kv hk)
theorem out_sim {m : M Fl} {pm : PM Fl} (e : RR b h (RF own bor b) (m h) (pm c)) : RR b h Eqc (outOf m h) (poutOf pm c) := by
  unfold outOf poutOf
  refine RR.bnd (Nat.le_refl _) e fun f g h1 c1 ex V => ?_
  cases f with
  | ret a =>
    cases g with
    | ret x => exact RR.ret ex.town ex.cl V
    | next ρ' => exact V.elim
  | next r' =>
    cases g with
    | ret x => exact V.elim
    | next ρ' => exact RR.ret ex.town ex.cl ⟨rfl, rfl⟩
theorem trim_sim {m : M D} {pm : PM D} (hp : 0 < h.length) (e : RR h.length h Eqc (m h) (pm c)) : RR h.length h Eqc (trimM m h) (pm c) := by
  unfold trimM
  cases q : pm c with
  | bad => exact trivial
  | exc x c1 =>
    rw [q] at e
    obtain ⟨h1, e1, e2, e3⟩ := e
    rw [e1]
    exact ⟨h1, rfl, e2, e3⟩
  | ok x c1 =>
    rw [q] at e
    obtain ⟨a, h1, e1, ex, rfl, ca⟩ := e
    rw [e1]
    have c2 : (h1.take h.length).all (cellLt h.length) = true := by
      rw [List.all_eq_true]
      intro y hy
      obtain ⟨n, hn⟩ := List.getElem?_of_mem (List.mem_of_mem_take hy)
      exact cleanC_lt hp (ex.cl n y hn)
    simp only [clean_lt hp ca, c2, and_self, if_true]
    refine ⟨a, _, rfl, ⟨?_, by simp [ex.le], fun n h0 hn => ?_, fun n y hy => ?_⟩, rfl, ca⟩
    · rw [List.getElem?_take, if_pos hp]; exact ex.town
    · rw [List.getElem?_take, if_pos hn]; exact ex.old n h0 hn
    · rw [List.getElem?_take] at hy
      split at hy
      · exact ex.cl n y hy
      · cases hy
theorem def_sim {fd : FnDef} (C : Calls br Phi P) (w : wF br fd = true) {ds ds' : List D} (t : h[0]? = some (Tn c)) (H : Hc h) (V : VRs h ds ds') (hb : ∀ j, (borOf fd).contains j = false → ds[j]? = ds'[j]?) : RR h.length h Eqc (fd.run Phi ds h) (fd.prun P ds' c) := by
  unfold FnDef.run FnDef.prun
  rw [V.length]
  by_cases hl : ds'.length = fd.np
  · rw [if_pos hl, if_pos hl]
    simp only [wF, Bool.and_eq_true, List.all_eq_true, List.mem_range, Bool.not_eq_true'] at w
    have S := St.start (own := ownss fd.body) (bor := borOf fd) (ns := fd.ns) t H V hl w.1 hb
    have key := out_sim (sim_ss C fd.body w.2 _ _ h c S)
    have hp : 0 < h.length := (List.getElem?_eq_some_iff.mp t).1
    cases ht : fd.trim with
    | true => simp only [if_true]; exact trim_sim hp key
    | false => simp only [Bool.false_eq_true, if_false, id]; exact key
  · rw [if_neg hl, if_neg hl]; exact trivial
theorem calls_all {T T' : Nat → Option FnDef} (hw : ∀ f fd, T f = some fd → wF (brT T) fd = true ∧ T' f = some fd) : ∀ k, Calls (brT T) (runs T' k) (pruns T k)
  | 0 => fun f ds ds' h c t H V hb => trivial
  | k + 1 => fun f ds ds' h c t H V hb => by
    simp only [runs, pruns]
    cases e : T f with
    | none => exact trivial
    | some fd =>
      simp only [(hw f fd e).2]
      refine def_sim (calls_all hw k) (hw f fd e).1 t H V fun j hj => hb j ?_
      simp only [brT, e]; exact hj
/-- a law: its count of draws is made by its first statement -/
def lawW (br : Nat → Nat → Bool) (fd : FnDef) : Bool := match fd.body with
  | .asg t (.op (.lst true) []) :: rest => decide (fd.np = 1) && decide (t < fd.ns) && !(ownss rest).contains 0 && !(ownss rest).contains t && wSs br (ownss rest) (ownss rest ++ []) rest
  | _ => false
def FnDef.plaw (P : Nat → List D → PM D) (fd : FnDef) (ns : List Int) : PR D := match fd.body with
  | .asg t (.op (.lst true) []) :: rest => poutOf (pexs P (ownss rest) rest ((startE fd.np fd.ns [.scr ns]).set t (some (.ref 0)))) 0
  | _ => .bad
theorem law_pure {T T' : Nat → Option FnDef} (hw : ∀ f fd, T f = some fd → wF (brT T) fd = true ∧ T' f = some fd) {n : Nat} {fd : FnDef} {k : Nat} {ns : List Int} (hn : T' n = some fd) (w : lawW (brT T) fd = true) {c' : Nat} (e : fd.plaw (pruns T k) ns = .ok (.bl true) c') :
    ∃ h', runs T' (k + 1) n [.scr ns] [] = .ok (.bl true) h' := by
  have hrun : runs T' (k + 1) n [.scr ns] [] = fd.run (runs T' k) [.scr ns] [] := by simp only [runs, hn]
  rw [hrun]
  unfold lawW at w
  unfold FnDef.plaw at e
  split at w
  case h_2 => cases w
  rename_i t rest hbody
  rw [hbody] at e
  simp only [Bool.and_eq_true, decide_eq_true_eq, Bool.not_eq_true'] at w
  obtain ⟨⟨⟨⟨w1, w2⟩, w3⟩, w4⟩, w5⟩ := w
  have C := calls_all hw k
  have S0 : St (ownss rest) [] ([Tn 0] : Hh).length (startE fd.np fd.ns [.scr ns]) [Tn 0] (startE fd.np fd.ns [.scr ns]) 0 :=
    St.start rfl (fun m x e => by
      cases m with
      | zero => cases e; rfl
      | succ m => cases e) (.cons (.refl rfl) .nil) (by rw [w1]; rfl) (fun i hi => by
        have : i = 0 := by omega
        subst this; exact w3) fun _ _ => rfl
  have S1 := S0.set (i := t) (d := .ref 0) rfl w4
  have key := out_sim (sim_ss C rest w5 _ _ [Tn 0] 0 S1)
  have e' : poutOf (pexs (pruns T k) (ownss rest) rest ((startE fd.np fd.ns [.scr ns]).set t (some (.ref 0)))) 0 = .ok (.bl true) c' := e
  rw [e'] at key
  obtain ⟨a, h1, k1, k2, rfl, k4⟩ := key
  have hexs : outOf (S.exs (runs T' k) fd.body (startE fd.np fd.ns [.scr ns])) [] = .ok (.bl true) h1 := by
    rw [hbody, ← k1]
    simp only [outOf, S.exs, S.ex, E.ev, E.evs, TS.bnd, TS.ret, prim, mkL, alloc]
    rfl
  refine ⟨if fd.trim = true then [] else h1, ?_⟩
  unfold FnDef.run
  rw [if_pos (by rw [w1]; rfl)]
  cases ht : fd.trim with
  | true => simp only [if_true, trimM, hexs]; rfl
  | false => simp only [Bool.false_eq_true, if_false, id, hexs]
end
end TS

set_option Elab.async false
set_option linter.all false
set_option maxRecDepth 100000
set_option maxHeartbeats 4000000
/-! TD: the meanings of the defs (printed). -/
namespace TS
open PySem
def f1_law_cell_at : FnDef := ⟨2, 2, false, [(.ite (.op .lt [(.var 1), (.op .len [(.var 0)])]) [(.rtn (.op .ix [(.var 0), (.var 1)]))] []),
  (.ite (.op .eq [(.var 0), (.op (.lst false) [])]) [(.rtn (.cst (.int 0)))] []),
  (.rtn (.op (.add false) [(.op (.mul false) [(.op .ix [(.var 0), (.op .mod [(.var 1), (.op .len [(.var 0)])])]), (.cst (.int 31))]), (.var 1)]))]⟩
def f2_law_mixed : FnDef := ⟨3, 4, false, [(.asg 3 (.op .mod [(.op (.add false) [(.op (.add false) [(.op (.mul false) [(.op (.call 1) [(.var 0), (.var 1)]), (.cst (.int 1103515245))]), (.op (.mul false) [(.cst (.int 7919)), (.var 1)])]), (.cst (.int 12345))]), (.cst (.int 2147483647))])),
  (.rtn (.op .mod [(.op .mod [(.op .mod [(.op .pow [(.var 3), (.cst (.int 5))]), (.cst (.int 2147483647))]), (.cst (.int 999983))]), (.var 2)]))]⟩
def f3_law_draw : FnDef := ⟨3, 3, false, [(.exp (.mth .append (.var 1) [(.cst (.int 0))])),
  (.rtn (.op (.call 2) [(.var 0), (.op .len [(.var 1)]), (.var 2)]))]⟩
def f4_law_names : FnDef := ⟨3, 6, true, [(.par 3 4 (.op (.lst true) [(.cst (.str "a")), (.cst (.str "b")), (.cst (.str "c")), (.cst (.str "dd")), (.cst (.str "e")), (.cst (.str "zzzzzz"))]) (.op (.lst true) [])),
  (.for_ (.one 5) .rng1 [(.op (.call 3) [(.var 0), (.var 1), (.op (.add false) [(.var 2), (.cst (.int 1))])])] [(.exp (.mth .append (.var 4) [(.mth .pop1 (.var 3) [(.op (.call 3) [(.var 0), (.var 1), (.op .len [(.var 3)])])])]))]),
  (.rtn (.op .tuple [(.var 4)]))]⟩
def f5_law_pick : FnDef := ⟨3, 3, false, [(.rtn (.op .ix [(.var 2), (.op (.call 3) [(.var 0), (.var 1), (.op .len [(.var 2)])])]))]⟩
def f6_law_cell_of : FnDef := ⟨2, 2, false, [(.rtn (.op (.call 5) [(.var 0), (.var 1), (.op (.lst false) [(.cst (.str "")), (.cst (.str "")), (.cst (.str "x")), (.cst (.str "x")), (.cst (.str "y")), (.cst (.str "z")), (.cst (.str "x-y")), (.cst (.str "1.5")), (.cst (.str "a b")), (.cst (.str " ")), (.cst (.str "x y-z.1"))])]))]⟩
def f7_law_table : FnDef := ⟨4, 9, true, [(.asg 4 (.op (.call 4) [(.var 0), (.var 1), (.var 2)])),
  (.asg 5 (.op (.lst true) [])),
  (.for_ (.one 6) .rng1 [(.op (.call 3) [(.var 0), (.var 1), (.op (.add false) [(.var 3), (.cst (.int 1))])])] [(.asg 7 (.op .tuple [(.comp false (.op (.call 6) [(.var 0), (.var 1)]) (.one 8) .seq [(.var 4)] [] [8])])),
  (.ite (.andB (.op .ne [(.var 5), (.op (.lst false) [])]) (.op .eq [(.op (.call 3) [(.var 0), (.var 1), (.cst (.int 4))]), (.cst (.int 0))])) [(.asg 7 (.op (.call 5) [(.var 0), (.var 1), (.var 5)]))] []),
  (.exp (.mth .append (.var 5) [(.var 7)]))]),
  (.rtn (.op .tup [(.var 4), (.op .tuple [(.var 5)])]))]⟩
def f8_is_word : FnDef := ⟨1, 1, false, [(.rtn (.and (.op (.isi .tStr) [(.var 0)]) (.and (.chain (.cst (.int 1)) (.op .len [(.var 0)]) (.cst (.int 6))) (.op .eq [(.mth .strip (.var 0) [(.cst (.str "abcdefghijklmnopqrstuvwxyz"))]), (.cst (.str ""))]))))]⟩
def f9_are_columns : FnDef := ⟨1, 2, false, [(.ite (.orB (.op .not [(.op (.isi .tTup) [(.var 0)])]) (.orB (.op .gt [(.op .len [(.var 0)]), (.cst (.int 6))]) (.op .not [(.op .all [(.comp false (.op (.call 8) [(.var 1)]) (.one 1) .seq [(.var 0)] [] [1])])]))) [(.rtn (.cst (.bl false)))] []),
  (.rtn (.op .eq [(.op .lenset [(.var 0)]), (.op .len [(.var 0)])]))]⟩
def f10_is_cell : FnDef := ⟨1, 2, false, [(.rtn (.and (.op (.isi .tStr) [(.var 0)]) (.and (.op .le [(.op .len [(.var 0)]), (.cst (.int 8))]) (.op .all [(.comp false (.op .inn [(.var 1), (.cst (.str "abcdefghijklmnopqrstuvwxyz0123456789-. "))]) (.one 1) .seq [(.var 0)] [] [1])]))))]⟩
def f11_is_table : FnDef := ⟨1, 3, false, [(.ite (.orB (.op .not [(.op (.isi .tTup) [(.var 0)])]) (.orB (.op .ne [(.op .len [(.var 0)]), (.cst (.int 2))]) (.op .not [(.op (.call 9) [(.op .ix [(.var 0), (.cst (.int 0))])])]))) [(.rtn (.cst (.bl false)))] []),
  (.ite (.orB (.op .not [(.op (.isi .tTup) [(.op .ix [(.var 0), (.cst (.int 1))])])]) (.op .gt [(.op .len [(.op .ix [(.var 0), (.cst (.int 1))])]), (.cst (.int 12))])) [(.rtn (.cst (.bl false)))] []),
  (.for_ (.one 1) .seq [(.op .ix [(.var 0), (.cst (.int 1))])] [(.ite (.orB (.op .not [(.op (.isi .tTup) [(.var 1)])]) (.orB (.op .ne [(.op .len [(.var 1)]), (.op .len [(.op .ix [(.var 0), (.cst (.int 0))])])]) (.op .not [(.op .all [(.comp false (.op (.call 10) [(.var 2)]) (.one 2) .seq [(.var 1)] [] [2])])]))) [(.rtn (.cst (.bl false)))] [])]),
  (.rtn (.cst (.bl true)))]⟩
def f12_need_table : FnDef := ⟨1, 1, false, [(.ite (.op .not [(.op (.call 11) [(.var 0)])]) [.never] [])]⟩
def f13_named : FnDef := ⟨2, 7, true, [(.exp (.op (.call 12) [(.var 0)])),
  (.exp (.op (.call 12) [(.var 1)])),
  (.ite (.orB (.op .ne [(.op .ix [(.var 0), (.cst (.int 1))]), (.op .ix [(.var 1), (.cst (.int 1))])]) (.op .ne [(.op .len [(.op .ix [(.var 0), (.cst (.int 0))])]), (.op .len [(.op .ix [(.var 1), (.cst (.int 0))])])])) [(.rtn (.cst .non))] []),
  (.asg 2 (.op (.list true) [(.op .ix [(.var 0), (.cst (.int 0))])])),
  (.asg 3 (.op (.lst true) [])),
  (.asg 4 (.comp true (.var 6) (.one 6) .rng1 [(.op .len [(.var 2)])] [(.op .ne [(.op .ix [(.var 2), (.var 6)]), (.op .ix [(.op .ix [(.var 1), (.cst (.int 0))]), (.var 6)])])] [6])),
  (.while_ (.op .ne [(.var 4), (.op (.lst false) [])]) [(.asg 5 (.comp false (.var 6) (.one 6) .seq [(.var 4)] [(.op .nin [(.op .ix [(.op .ix [(.var 1), (.cst (.int 0))]), (.var 6)]), (.var 2)])] [6])),
  (.ite (.op .eq [(.var 5), (.op (.lst false) [])]) [(.rtn (.cst .non))] []),
  (.asg 6 (.op .ix [(.var 5), (.cst (.int 0))])),
  (.exp (.mth .append (.var 3) [(.op .tup [(.cst (.str "name")), (.op .ix [(.var 2), (.var 6)]), (.op .ix [(.op .ix [(.var 1), (.cst (.int 0))]), (.var 6)])])])),
  (.put (.var 2) (.var 6) (.op .ix [(.op .ix [(.var 1), (.cst (.int 0))]), (.var 6)])),
  (.exp (.mth .remove (.var 4) [(.var 6)]))]),
  (.rtn (.op .tuple [(.var 3)]))]⟩
def f14_are_pairs : FnDef := ⟨1, 2, false, [(.ite (.orB (.op .not [(.op (.isi .tTup) [(.var 0)])]) (.op .gt [(.op .len [(.var 0)]), (.cst (.int 4))])) [(.rtn (.cst (.bl false)))] []),
  (.for_ (.one 1) .seq [(.var 0)] [(.ite (.orB (.op .not [(.op (.isi .tTup) [(.var 1)])]) (.orB (.op .ne [(.op .len [(.var 1)]), (.cst (.int 2))]) (.orB (.op .not [(.op (.call 10) [(.op .ix [(.var 1), (.cst (.int 0))])])]) (.op .not [(.op (.call 10) [(.op .ix [(.var 1), (.cst (.int 1))])])])))) [(.rtn (.cst (.bl false)))] [])]),
  (.rtn (.op .eq [(.op .lenset [(.comp false (.op .ix [(.var 1), (.cst (.int 0))]) (.one 1) .seq [(.var 0)] [] [1])]), (.op .len [(.var 0)])]))]⟩
def f15_is_whole : FnDef := ⟨3, 3, false, [(.rtn (.and (.op (.isi .tInt) [(.var 0)]) (.and (.op .not [(.op (.isi .tBool) [(.var 0)])]) (.chain (.var 1) (.var 0) (.var 2)))))]⟩
def f16_is_sign : FnDef := ⟨1, 1, false, [(.rtn (.and (.op (.call 10) [(.var 0)]) (.op .eq [(.op .len [(.var 0)]), (.cst (.int 1))])))]⟩
def f17_is_deed : FnDef := ⟨1, 1, false, [(.ite (.orB (.op .not [(.op (.isi .tTup) [(.var 0)])]) (.orB (.op .lt [(.op .len [(.var 0)]), (.cst (.int 2))]) (.op .not [(.op (.isi .tStr) [(.op .ix [(.var 0), (.cst (.int 0))])])]))) [(.rtn (.cst (.bl false)))] []),
  (.ite (.orB (.op .ne [(.op .len [(.var 0)]), (.op (.gget [(Str.ofString "split", 5), (Str.ofString "join", 5), (Str.ofString "strike", 2), (Str.ofString "name", 3), (Str.ofString "order", 2), (Str.ofString "keep", 3), (Str.ofString "fill", 2), (Str.ofString "lead", 3), (Str.ofString "move", 3), (Str.ofString "unlike", 2)]) [(.op .ix [(.var 0), (.cst (.int 0))]), (.cst (.int 0))])]) (.op .not [(.op (.call 8) [(.op .ix [(.var 0), (.cst (.int 1))])])])) [(.rtn (.cst (.bl false)))] []),
  (.ite (.op .eq [(.op .ix [(.var 0), (.cst (.int 0))]), (.cst (.str "split"))]) [(.rtn (.and (.op (.call 16) [(.op .ix [(.var 0), (.cst (.int 2))])]) (.and (.op (.call 8) [(.op .ix [(.var 0), (.cst (.int 3))])]) (.op (.call 8) [(.op .ix [(.var 0), (.cst (.int 4))])]))))] []),
  (.ite (.op .eq [(.op .ix [(.var 0), (.cst (.int 0))]), (.cst (.str "join"))]) [(.rtn (.and (.op (.call 8) [(.op .ix [(.var 0), (.cst (.int 2))])]) (.and (.op (.call 16) [(.op .ix [(.var 0), (.cst (.int 3))])]) (.op (.call 8) [(.op .ix [(.var 0), (.cst (.int 4))])]))))] []),
  (.ite (.op .eq [(.op .ix [(.var 0), (.cst (.int 0))]), (.cst (.str "name"))]) [(.rtn (.op (.call 8) [(.op .ix [(.var 0), (.cst (.int 2))])]))] []),
  (.ite (.op .eq [(.op .ix [(.var 0), (.cst (.int 0))]), (.cst (.str "keep"))]) [(.rtn (.op (.call 10) [(.op .ix [(.var 0), (.cst (.int 2))])]))] []),
  (.ite (.op .eq [(.op .ix [(.var 0), (.cst (.int 0))]), (.cst (.str "lead"))]) [(.rtn (.op (.call 14) [(.op .ix [(.var 0), (.cst (.int 2))])]))] []),
  (.rtn (.or (.op .ne [(.op .ix [(.var 0), (.cst (.int 0))]), (.cst (.str "move"))]) (.op (.call 15) [(.op .ix [(.var 0), (.cst (.int 2))]), (.cst (.int 0)), (.op .sub [(.cst (.int 6)), (.cst (.int 1))])])))]⟩
def f18_are_deeds : FnDef := ⟨1, 2, false, [(.rtn (.and (.op (.isi .tTup) [(.var 0)]) (.and (.op .le [(.op .len [(.var 0)]), (.cst (.int 12))]) (.op .all [(.comp false (.op (.call 17) [(.var 1)]) (.one 1) .seq [(.var 0)] [] [1])]))))]⟩
def f19_need_deeds : FnDef := ⟨1, 1, false, [(.ite (.op .not [(.op (.call 18) [(.var 0)])]) [.never] [])]⟩
def f20_renamed : FnDef := ⟨4, 7, false, [(.asg 4 (.comp false (.var 6) (.many [5, 6]) .enm [(.var 0)] [(.orB (.op .ne [(.var 6), (.var 3)]) (.op .eq [(.var 5), (.var 1)]))] [5, 6])),
  (.ite (.op .inn [(.var 2), (.comp false (.var 6) (.one 6) .seq [(.var 4)] [(.op .ne [(.var 6), (.op .ix [(.var 0), (.var 1)])])] [6])]) [(.rtn (.cst .non))] []),
  (.rtn (.op .tuple [(.comp false (.op .ix [(.op (.lst false) [(.var 6), (.var 2)]), (.op .toInt [(.op .eq [(.var 6), (.op .ix [(.var 0), (.var 1)])])])]) (.one 6) .seq [(.var 4)] [] [6])]))]⟩
def f21_columns_behind : FnDef := ⟨2, 5, false, [(.asg 2 (.op .ix [(.var 1), (.cst (.int 0))])),
  (.ite (.op .nin [(.op .ix [(.var 1), (.cst (.int 1))]), (.var 0)]) [(.rtn (.cst .non))] []),
  (.asg 3 (.mth .index (.var 0) [(.op .ix [(.var 1), (.cst (.int 1))])])),
  (.asg 4 (.op (.add false) [(.op (.sl false true) [(.var 0), (.var 3)]), (.op (.sl true false) [(.var 0), (.op (.add false) [(.var 3), (.cst (.int 1))])])])),
  (.ite (.op .eq [(.var 2), (.cst (.str "split"))]) [(.ite (.orB (.op .eq [(.op .ix [(.var 1), (.cst (.int 3))]), (.op .ix [(.var 1), (.cst (.int 4))])]) (.orB (.op .inn [(.op .ix [(.var 1), (.cst (.int 3))]), (.var 4)]) (.orB (.op .inn [(.op .ix [(.var 1), (.cst (.int 4))]), (.var 4)]) (.op .eq [(.op .len [(.var 0)]), (.cst (.int 6))])))) [(.rtn (.cst .non))] []),
  (.rtn (.op (.add false) [(.op (.add false) [(.op (.sl false true) [(.var 0), (.var 3)]), (.op (.sl true false) [(.var 1), (.cst (.int 3))])]), (.op (.sl true false) [(.var 0), (.op (.add false) [(.var 3), (.cst (.int 1))])])]))] []),
  (.ite (.op .eq [(.var 2), (.cst (.str "join"))]) [(.ite (.orB (.op .eq [(.op .ix [(.var 1), (.cst (.int 2))]), (.op .ix [(.var 1), (.cst (.int 1))])]) (.op .nin [(.op .ix [(.var 1), (.cst (.int 2))]), (.var 0)])) [(.rtn (.cst .non))] []),
  (.rtn (.op (.call 20) [(.var 0), (.var 3), (.op .ix [(.var 1), (.cst (.int 4))]), (.op .ix [(.var 1), (.cst (.int 2))])]))] []),
  (.ite (.op .eq [(.var 2), (.cst (.str "strike"))]) [(.rtn (.var 4))] []),
  (.ite (.op .eq [(.var 2), (.cst (.str "name"))]) [(.rtn (.op (.call 20) [(.var 0), (.var 3), (.op .ix [(.var 1), (.cst (.int 2))]), (.cst .non)]))] []),
  (.ite (.op .eq [(.var 2), (.cst (.str "move"))]) [(.ite (.op .ge [(.op .ix [(.var 1), (.cst (.int 2))]), (.op .len [(.var 0)])]) [(.rtn (.cst .non))] []),
  (.rtn (.op (.add false) [(.op (.add false) [(.op (.sl false true) [(.var 4), (.op .ix [(.var 1), (.cst (.int 2))])]), (.op .tup [(.op .ix [(.var 1), (.cst (.int 1))])])]), (.op (.sl true false) [(.var 4), (.op .ix [(.var 1), (.cst (.int 2))])])]))] []),
  (.rtn (.var 0))]⟩
def f22_filled : FnDef := ⟨2, 5, true, [(.asg 2 (.op (.lst true) [])),
  (.asg 3 (.cst (.str ""))),
  (.for_ (.one 4) .seq [(.var 0)] [(.asg 3 (.or (.op .ix [(.var 4), (.var 1)]) (.var 3))),
  (.exp (.mth .append (.var 2) [(.op (.add false) [(.op (.add false) [(.op (.sl false true) [(.var 4), (.var 1)]), (.op .tup [(.var 3)])]), (.op (.sl true false) [(.var 4), (.op (.add false) [(.var 1), (.cst (.int 1))])])])]))]),
  (.rtn (.op .tuple [(.var 2)]))]⟩
def f23_firsts : FnDef := ⟨2, 5, true, [(.asg 2 (.op .callv [])),
  (.asg 3 (.op (.lst true) [])),
  (.for_ (.one 4) .seq [(.var 0)] [(.ite (.op .nin [(.op .ix [(.var 4), (.var 1)]), (.var 2)]) [(.exp (.mth .append (.var 3) [(.var 4)]))] []),
  (.put (.var 2) (.op .ix [(.var 4), (.var 1)]) (.cst (.bl true)))]),
  (.rtn (.op .tuple [(.var 3)]))]⟩
def f24_joined_cells : FnDef := ⟨4, 6, false, [(.asg 4 (.op (.add false) [(.op (.add false) [(.op .ix [(.var 0), (.var 1)]), (.var 3)]), (.op .ix [(.var 0), (.var 2)])])),
  (.asg 5 (.op (.add false) [(.op (.add false) [(.op (.sl false true) [(.var 0), (.var 1)]), (.op .tup [(.var 4)])]), (.op (.sl true false) [(.var 0), (.op (.add false) [(.var 1), (.cst (.int 1))])])])),
  (.rtn (.op (.add false) [(.op (.sl false true) [(.var 5), (.var 2)]), (.op (.sl true false) [(.var 5), (.op (.add false) [(.var 2), (.cst (.int 1))])])]))]⟩
def f25_moved_cells : FnDef := ⟨3, 4, false, [(.asg 3 (.op (.add false) [(.op (.sl false true) [(.var 0), (.var 1)]), (.op (.sl true false) [(.var 0), (.op (.add false) [(.var 1), (.cst (.int 1))])])])),
  (.rtn (.op (.add false) [(.op (.add false) [(.op (.sl false true) [(.var 3), (.var 2)]), (.op .tup [(.op .ix [(.var 0), (.var 1)])])]), (.op (.sl true false) [(.var 3), (.var 2)])]))]⟩
def f26_split_cell : FnDef := ⟨2, 5, false, [(.asgT [2, 3, 4] (.op .callv [])),
  (.rtn (.op .tup [(.var 2), (.var 4)]))]⟩
def f27_rows_behind : FnDef := ⟨3, 11, false, [(.asg 3 (.op .ix [(.var 2), (.cst (.int 0))])),
  (.asg 4 (.mth .index (.var 0) [(.op .ix [(.var 2), (.cst (.int 1))])])),
  (.ite (.op .eq [(.var 3), (.cst (.str "split"))]) [(.rtn (.op .tuple [(.comp false (.op (.add false) [(.op (.add false) [(.op (.sl false true) [(.var 8), (.var 4)]), (.op (.call 26) [(.op .ix [(.var 8), (.var 4)]), (.op .ix [(.var 2), (.cst (.int 2))])])]), (.op (.sl true false) [(.var 8), (.op (.add false) [(.var 4), (.cst (.int 1))])])]) (.one 8) .seq [(.var 1)] [] [8])]))] []),
  (.ite (.op .eq [(.var 3), (.cst (.str "join"))]) [(.asg 5 (.mth .index (.var 0) [(.op .ix [(.var 2), (.cst (.int 2))])])),
  (.rtn (.op .tuple [(.comp false (.op (.call 24) [(.var 8), (.var 4), (.var 5), (.op .ix [(.var 2), (.cst (.int 3))])]) (.one 8) .seq [(.var 1)] [] [8])]))] []),
  (.ite (.op .eq [(.var 3), (.cst (.str "strike"))]) [(.rtn (.op .tuple [(.comp false (.op (.add false) [(.op (.sl false true) [(.var 8), (.var 4)]), (.op (.sl true false) [(.var 8), (.op (.add false) [(.var 4), (.cst (.int 1))])])]) (.one 8) .seq [(.var 1)] [] [8])]))] []),
  (.ite (.op .eq [(.var 3), (.cst (.str "order"))]) [(.asg 6 (.op .callv [])),
  (.rtn (.op .tuple [(.comp false (.op .ix [(.var 1), (.var 9)]) (.many [10, 9]) .seq [(.var 6)] [] [10, 9])]))] []),
  (.ite (.op .eq [(.var 3), (.cst (.str "keep"))]) [(.rtn (.op .tuple [(.comp false (.var 8) (.one 8) .seq [(.var 1)] [(.op .eq [(.op .ix [(.var 8), (.var 4)]), (.op .ix [(.var 2), (.cst (.int 2))])])] [8])]))] []),
  (.ite (.op .eq [(.var 3), (.cst (.str "fill"))]) [(.rtn (.op (.call 22) [(.var 1), (.var 4)]))] []),
  (.ite (.op .eq [(.var 3), (.cst (.str "unlike"))]) [(.rtn (.op (.call 23) [(.var 1), (.var 4)]))] []),
  (.ite (.op .eq [(.var 3), (.cst (.str "lead"))]) [(.asg 7 (.op .callv [])),
  (.rtn (.op .tuple [(.comp false (.op (.add false) [(.op (.add false) [(.op (.sl false true) [(.var 8), (.var 4)]), (.op .tup [(.op .callv [])])]), (.op (.sl true false) [(.var 8), (.op (.add false) [(.var 4), (.cst (.int 1))])])]) (.one 8) .seq [(.var 1)] [] [8])]))] []),
  (.ite (.op .eq [(.var 3), (.cst (.str "move"))]) [(.rtn (.op .tuple [(.comp false (.op (.call 25) [(.var 8), (.var 4), (.op .ix [(.var 2), (.cst (.int 2))])]) (.one 8) .seq [(.var 1)] [] [8])]))] []),
  (.rtn (.var 1))]⟩
def f28_run : FnDef := ⟨2, 8, true, [(.asg 2 (.op (.lst true) [(.var 0)])),
  (.for_ (.many [3, 4]) .enm [(.var 1)] [(.asgT [5, 6] (.op .ix [(.var 2), (.op .neg [(.cst (.int 1))])])),
  (.asg 7 (.op (.call 21) [(.var 5), (.var 4)])),
  (.ite (.op .isN [(.var 7)]) [.never] []),
  (.exp (.mth .append (.var 2) [(.op .tup [(.var 7), (.op (.call 27) [(.var 5), (.var 6), (.var 4)])])]))]),
  (.rtn (.op .frz [(.var 2)]))]⟩
def f29_done : FnDef := ⟨2, 2, false, [(.exp (.op (.call 12) [(.var 0)])),
  (.exp (.op (.call 19) [(.var 1)])),
  (.rtn (.op .ix [(.op (.call 28) [(.var 0), (.var 1)]), (.op .neg [(.cst (.int 1))])]))]⟩
def tbl : List (Nat × FnDef) := [(1, f1_law_cell_at), (2, f2_law_mixed), (3, f3_law_draw), (4, f4_law_names), (5, f5_law_pick), (6, f6_law_cell_of), (7, f7_law_table), (8, f8_is_word), (9, f9_are_columns), (10, f10_is_cell), (11, f11_is_table), (12, f12_need_table), (13, f13_named), (14, f14_are_pairs), (15, f15_is_whole), (16, f16_is_sign), (17, f17_is_deed), (18, f18_are_deeds), (19, f19_need_deeds), (20, f20_renamed), (21, f21_columns_behind), (22, f22_filled), (23, f23_firsts), (24, f24_joined_cells), (25, f25_moved_cells), (26, f26_split_cell), (27, f27_rows_behind), (28, f28_run), (29, f29_done)]
def T (n : Nat) : Option FnDef := tbl.lookup n
theorem T_1 : T 1 = some f1_law_cell_at := rfl
theorem T_2 : T 2 = some f2_law_mixed := rfl
theorem T_3 : T 3 = some f3_law_draw := rfl
theorem T_4 : T 4 = some f4_law_names := rfl
theorem T_5 : T 5 = some f5_law_pick := rfl
theorem T_6 : T 6 = some f6_law_cell_of := rfl
theorem T_7 : T 7 = some f7_law_table := rfl
theorem T_8 : T 8 = some f8_is_word := rfl
theorem T_9 : T 9 = some f9_are_columns := rfl
theorem T_10 : T 10 = some f10_is_cell := rfl
theorem T_11 : T 11 = some f11_is_table := rfl
theorem T_12 : T 12 = some f12_need_table := rfl
theorem T_13 : T 13 = some f13_named := rfl
theorem T_14 : T 14 = some f14_are_pairs := rfl
theorem T_15 : T 15 = some f15_is_whole := rfl
theorem T_16 : T 16 = some f16_is_sign := rfl
theorem T_17 : T 17 = some f17_is_deed := rfl
theorem T_18 : T 18 = some f18_are_deeds := rfl
theorem T_19 : T 19 = some f19_need_deeds := rfl
theorem T_20 : T 20 = some f20_renamed := rfl
theorem T_21 : T 21 = some f21_columns_behind := rfl
theorem T_22 : T 22 = some f22_filled := rfl
theorem T_23 : T 23 = some f23_firsts := rfl
theorem T_24 : T 24 = some f24_joined_cells := rfl
theorem T_25 : T 25 = some f25_moved_cells := rfl
theorem T_26 : T 26 = some f26_split_cell := rfl
theorem T_27 : T 27 = some f27_rows_behind := rfl
theorem T_28 : T 28 = some f28_run := rfl
theorem T_29 : T 29 = some f29_done := rfl
theorem tbl_ok : (tbl.all fun p => wF (brT T) p.2) = true := by decide +kernel
theorem T_ok : ∀ f fd, T f = some fd → wF (brT T) fd = true := fun f fd e => by
  have : (f, fd) ∈ tbl := by
    unfold T at e
    generalize tbl = l at e
    induction l with
    | nil => cases e
    | cons p l ih =>
      rw [List.lookup_cons] at e
      split at e
      · rename_i q
        cases e
        have : f = p.1 := eq_of_beq q
        subst this
        exact List.mem_cons_self
      · exact List.mem_cons_of_mem _ (ih e)
  exact List.all_eq_true.mp tbl_ok (f, fd) this
end TS

set_option Elab.async false
set_option linter.all false
set_option maxRecDepth 100000
set_option maxHeartbeats 4000000
/-! TR1: plain laws about pure meanings. -/
namespace TS
open PySem
theorem pr_of {T : Nat → Option FnDef} {f k : Nat} {fd : FnDef} (e : T f = some fd) (ds : List D) : pruns T (k + 1) f ds = fd.prun (pruns T k) ds := by
  simp only [pruns, e]
theorem pbnd_ok {α β : Type} {m : PM α} {f : α → PM β} {c c' : Nat} {a : α} (e : m c = .ok a c') : pbnd m f c = f a c' := by
  simp only [pbnd, e]
section
variable {bd : D → Option Env} {cond : Env → PM Bool} {elt : Env → PM D} {c : Nat}
theorem pcomp_map (f : D → D) : ∀ (xs : List D), (∀ x ∈ xs, ∃ r, bd x = some r ∧ cond r c = .ok true c ∧ elt r c = .ok (f x) c) → pcompL bd cond elt xs c = .ok (xs.map f) c
  | [], _ => rfl
  | x :: xs, q => by
    obtain ⟨r, h1, h2, h3⟩ := q x List.mem_cons_self
    have ih := pcomp_map f xs fun y hy => q y (List.mem_cons_of_mem _ hy)
    simp only [pcompL, h1, pbnd, h2, if_true, h3, ih, pret, List.map_cons]
theorem pcomp_filter (p : D → Bool) (f : D → D) : ∀ (xs : List D), (∀ x ∈ xs, ∃ r, bd x = some r ∧ cond r c = .ok (p x) c ∧ (p x = true → elt r c = .ok (f x) c)) → pcompL bd cond elt xs c = .ok ((xs.filter p).map f) c
  | [], _ => rfl
  | x :: xs, q => by
    obtain ⟨r, h1, h2, h3⟩ := q x List.mem_cons_self
    have ih := pcomp_filter p f xs fun y hy => q y (List.mem_cons_of_mem _ hy)
    cases hp : p x with
    | true =>
      rw [hp] at h2
      simp only [pcompL, h1, pbnd, h2, if_true, h3 hp, ih, pret, List.filter_cons, hp, List.map_cons]
    | false =>
      rw [hp] at h2
      simp only [pcompL, h1, pbnd, h2, ih, List.filter_cons, hp, Bool.false_eq_true, if_false]
/-- over typed items -/
theorem pcomp_mapT {α : Type} (en : α → D) (f : α → D) (xs : List α) (q : ∀ x ∈ xs, ∃ r, bd (en x) = some r ∧ cond r c = .ok true c ∧ elt r c = .ok (f x) c) : pcompL bd cond elt (xs.map en) c = .ok (xs.map f) c := by
  induction xs with
  | nil => rfl
  | cons x xs ih =>
    obtain ⟨r, h1, h2, h3⟩ := q x List.mem_cons_self
    have ih := ih fun y hy => q y (List.mem_cons_of_mem _ hy)
    simp only [List.map_cons, pcompL, h1, pbnd, h2, if_true, h3, ih, pret]
theorem pcomp_filterT {α : Type} (en : α → D) (p : α → Bool) (f : α → D) (xs : List α) (q : ∀ x ∈ xs, ∃ r, bd (en x) = some r ∧ cond r c = .ok (p x) c ∧ (p x = true → elt r c = .ok (f x) c)) : pcompL bd cond elt (xs.map en) c = .ok ((xs.filter p).map f) c := by
  induction xs with
  | nil => rfl
  | cons x xs ih =>
    obtain ⟨r, h1, h2, h3⟩ := q x List.mem_cons_self
    have ih := ih fun y hy => q y (List.mem_cons_of_mem _ hy)
    cases hp : p x with
    | true =>
      rw [hp] at h2
      simp only [List.map_cons, pcompL, h1, pbnd, h2, if_true, h3 hp, ih, pret, List.filter_cons, hp]
    | false =>
      rw [hp] at h2
      simp only [List.map_cons, pcompL, h1, pbnd, h2, ih, List.filter_cons, hp, Bool.false_eq_true, if_false]
/-- draws in a comprehension -/
theorem pcomp_inv (I : Nat → Nat → Prop) (Q : D → Prop) : ∀ (xs : List D) (i c : Nat), I i c → (∀ (j : Nat) x c, xs[j]? = some x → I (i + j) c → ∃ r d c', bd x = some r ∧ cond r c = .ok true c ∧ elt r c = .ok d c' ∧ I (i + j + 1) c' ∧ Q d) →
    ∃ ds c', pcompL bd cond elt xs c = .ok ds c' ∧ I (i + xs.length) c' ∧ ds.length = xs.length ∧ ∀ d ∈ ds, Q d
  | [], i, c, hi, _ => ⟨[], c, rfl, hi, rfl, by simp⟩
  | x :: xs, i, c, hi, q => by
    obtain ⟨r, d, c1, e1, e2, e3, i1, p1⟩ := q 0 x c rfl hi
    obtain ⟨ds, c2, e4, i2, l2, p2⟩ := pcomp_inv I Q xs (i + 1) c1 i1 fun j y h hy z => by
      obtain ⟨a, b, c, d⟩ := q (j + 1) y h (by simpa using hy) (by rw [show i + (j + 1) = i + 1 + j by omega]; exact z)
      exact ⟨a, b, c, by rw [show i + 1 + j + 1 = i + (j + 1) + 1 by omega]; exact d⟩
    refine ⟨d :: ds, c2, by simp only [pcompL, if_true, e1, pbnd, e2, e3, e4, pret], by rw [List.length_cons, show i + (xs.length + 1) = i + 1 + xs.length by omega]; exact i2, by simp [l2], fun z hz => ?_⟩
    rcases List.mem_cons.mp hz with e | e
    · rw [e]; exact p1
    · exact p2 z e
end
section
variable {bd : D → Env → Option Env} {body : Env → PM Fl}
theorem pfor_inv (I : Nat → Env → Nat → Prop) : ∀ (xs : List D) (i : Nat) (r : Env) (c : Nat), I i r c →
    (∀ (j : Nat) x r c, xs[j]? = some x → I (i + j) r c → ∃ r1 r2 c', bd x r = some r1 ∧ body r1 c = .ok (.next r2) c' ∧ I (i + j + 1) r2 c') → ∃ r' c', pforL bd body xs r c = .ok (.next r') c' ∧ I (i + xs.length) r' c'
  | [], i, r, c, hi, _ => ⟨r, c, rfl, hi⟩
  | x :: xs, i, r, c, hi, q => by
    obtain ⟨r1, r2, c1, e1, e2, i2⟩ := q 0 x r c rfl hi
    obtain ⟨r', c2, e3, i3⟩ := pfor_inv I xs (i + 1) r2 c1 i2 fun j y r h hy z => by
      obtain ⟨a, b, c, d⟩ := q (j + 1) y r h (by simpa using hy) (by rw [show i + (j + 1) = i + 1 + j by omega]; exact z)
      exact ⟨a, b, c, by rw [show i + 1 + j + 1 = i + (j + 1) + 1 by omega]; exact d⟩
    refine ⟨r', c2, ?_, by rw [List.length_cons, show i + (xs.length + 1) = i + 1 + xs.length by omega]; exact i3⟩
    simp only [pforL, e1, pbnd, e2, e3]
/-- a loop over typed items that carries a typed state -/
theorem pfor_fold {α σ : Type} (en : α → D) (env : σ → Env) (step : σ → α → σ) {c : Nat} : ∀ (xs : List α) (s : σ), (∀ s, ∀ x ∈ xs, ∃ r1, bd (en x) (env s) = some r1 ∧ body r1 c = .ok (.next (env (step s x))) c) → pforL bd body (xs.map en) (env s) c = .ok (.next (env (xs.foldl step s))) c
  | [], s, _ => rfl
  | x :: xs, s, q => by
    obtain ⟨r1, e1, e2⟩ := q s x List.mem_cons_self
    have ih := pfor_fold en env step xs (step s x) fun s y hy => q s y (List.mem_cons_of_mem _ hy)
    simp only [List.map_cons, pforL, e1, pbnd, e2, ih, List.foldl_cons]
end
section
variable {P : Nat → List D → PM D} {own : List Nat} {r r1 : Env} {c c1 : Nat} {d : D}
theorem pexs_next {s : S} {ss : List S} (e : pex P own s r c = .ok (.next r1) c1) : pexs P own (s :: ss) r c = pexs P own ss r1 c1 := by
  rw [pexs, pbnd_ok e]
theorem pexs_ret {s : S} {ss : List S} (e : pex P own s r c = .ok (.ret d) c1) : pexs P own (s :: ss) r c = .ok (.ret d) c1 := by
  rw [pexs, pbnd_ok e]; rfl
theorem pex_for {tg : Tg} {k : IK} {its : List E} {body : List S} {ds xs : List D} {res : PR Fl} (e1 : pes P its r c = .ok ds c1) (e2 : pitems k ds = some xs) (e3 : pforL (bindTg tg) (pexs P own body) xs r c1 = res) : pex P own (.for_ tg k its body) r c = res := by
  rw [pex, pbnd_ok e1]
  simp only [e2, e3]
theorem pe_comp {m : Bool} {elt : E} {tg : Tg} {k : IK} {its cond : List E} {ow : List Nat} {ds xs ys : List D} {c2 : Nat} (e1 : pes P its r c = .ok ds c1) (e2 : pitems k ds = some xs)
    (e3 : pcompL (fun d => bindTg tg d (wipeE r ow)) (pconds P cond) (pe P elt) xs c1 = .ok ys c2) (hl : ys.length ≤ 100000) : pe P (.comp m elt tg k its cond ow) r c = .ok (.lst ys) c2 := by
  rw [pe, pbnd_ok e1]
  simp only [e2, pbnd, pnoexc, e3, lft, mkL, if_pos hl]
  rfl
theorem prun_ret {f : FnDef} {ds : List D} (hl : ds.length = f.np) (e : pexs P (ownss f.body) f.body (startE f.np f.ns ds) c = .ok (.ret d) c1) : f.prun P ds c = .ok d c1 := by
  simp only [FnDef.prun, hl, if_true, poutOf, pbnd, e, pret]
theorem prun_next {f : FnDef} {ds : List D} (hl : ds.length = f.np) (e : pexs P (ownss f.body) f.body (startE f.np f.ns ds) c = .ok (.next r1) c1) : f.prun P ds c = .ok .non c1 := by
  simp only [FnDef.prun, hl, if_true, poutOf, pbnd, e, pret]
end
theorem atI_some {α : Type} (xs : List α) (i : Int) (h0 : 0 ≤ i) (h1 : i < xs.length) : ∃ x, TS.atI xs i = some x ∧ xs[i.toNat]? = some x := by
  have hn : i.toNat < xs.length := by omega
  refine ⟨xs[i.toNat], ?_, List.getElem?_eq_getElem hn⟩
  simp only [TS.atI, TS.ixN, h0, h1, if_true, Option.bind_some, List.getElem?_eq_getElem hn]
/-! ### encodings -/
def eRow (r : List Str) : D := .tup (r.map .str)
def eRows (rs : List (List Str)) : D := .tup (rs.map eRow)
def eTab (cs : List Str) (rs : List (List Str)) : D := .tup [eRow cs, eRows rs]
theorem eqDs_str : ∀ (l m : List Str), eqDs (l.map .str) (m.map .str) = decide (l = m)
  | [], [] => rfl
  | [], _ :: _ => rfl
  | _ :: _, [] => rfl
  | x :: l, y :: m => by
    simp only [List.map_cons, eqDs, eqD, eqDs_str l m, List.cons.injEq]
    by_cases h : x = y <;> by_cases h2 : l = m <;> simp [h, h2]
theorem eqD_row (l m : List Str) : eqD (eRow l) (eRow m) = decide (l = m) := by simp only [eRow, eqD, eqDs_str]
theorem eqDs_rows : ∀ (l m : List (List Str)), eqDs (l.map eRow) (m.map eRow) = decide (l = m)
  | [], [] => rfl
  | [], _ :: _ => rfl
  | _ :: _, [] => rfl
  | x :: l, y :: m => by
    simp only [List.map_cons, eqDs, eqD_row, eqDs_rows l m, List.cons.injEq]
    by_cases h : x = y <;> by_cases h2 : l = m <;> simp [h, h2]
theorem eqD_rows (l m : List (List Str)) : eqD (eRows l) (eRows m) = decide (l = m) := by simp only [eRows, eqD, eqDs_rows]
theorem eqD_tab (a b : List Str) (l m : List (List Str)) : eqD (eTab a l) (eTab b m) = decide (a = b ∧ l = m) := by
  simp only [eTab, eqD, eqDs, eqD_row, eqD_rows, Bool.and_true]
  by_cases h : a = b <;> by_cases h2 : l = m <;> simp [h, h2]
theorem pu_strs (n : Nat) (l : List Str) : (l.map D.str).all (pu n) = true := by
  simp only [List.all_map, List.all_eq_true, Function.comp]
  intro x _
  cases n <;> rfl
theorem pu_row (n : Nat) (l : List Str) : pu (n + 1) (eRow l) = true := by
  simp only [eRow, pu]; exact pu_strs n l
theorem pu_rowl (n : Nat) (l : List (List Str)) : (l.map eRow).all (pu (n + 1)) = true := by
  simp only [List.all_map, List.all_eq_true, Function.comp]
  intro x _
  exact pu_row n x
theorem pu_rows (n : Nat) (l : List (List Str)) : pu (n + 2) (eRows l) = true := by
  simp only [eRows, pu]; exact pu_rowl n l
theorem pu_tab (n : Nat) (a : List Str) (l : List (List Str)) : pu (n + 3) (eTab a l) = true := by
  simp only [eTab, pu, List.all_cons, List.all_nil, pu_rows, Bool.and_true, Bool.and_eq_true]
  exact pu_row _ _
/-! ### operations over encodings, whatever the cells -/
section
variable {h : Hh} {n : Bool}
theorem dec_beq {α : Type} [BEq α] [LawfulBEq α] [DecidableEq α] (a b : α) : (a == b) = decide (a = b) := by
  by_cases h : a = b <;> simp [h]
theorem eqH_int {i j : Int} : eqH n (.int i) (.int j) h = .ok (.bl (n != decide (i = j))) h := by simp [eqH, top, pu, eqD, dec_beq]
theorem eqH_str {i j : Str} : eqH n (.str i) (.str j) h = .ok (.bl (n != decide (i = j))) h := by simp [eqH, top, pu, eqD, dec_beq]
theorem eqH_row {i j : List Str} : eqH n (eRow i) (eRow j) h = .ok (.bl (n != decide (i = j))) h := by
  have t : ∀ l, top h (eRow l) = eRow l := fun _ => rfl
  simp [eqH, t, pu_row 8, eqD_row]
theorem eqH_rows {i j : List (List Str)} : eqH n (eRows i) (eRows j) h = .ok (.bl (n != decide (i = j))) h := by
  have t : ∀ l, top h (eRows l) = eRows l := fun _ => rfl
  simp [eqH, t, pu_rows 7, eqD_rows]
theorem eqH_tab {a b : List Str} {i j : List (List Str)} : eqH n (eTab a i) (eTab b j) h = .ok (.bl (n != decide (a = b ∧ i = j))) h := by
  have t : ∀ a l, top h (eTab a l) = eTab a l := fun _ _ => rfl
  simp [eqH, t, pu_tab 6, eqD_tab]
theorem eqH_lnil {l : List D} (q : l.all (pu 8) = true) : eqH n (.lst l) (.lst []) h = .ok (.bl (n != l.isEmpty)) h := by
  cases l with
  | nil => simp [eqH, top, pu, eqD, eqDs]
  | cons a l => simp only [eqH, top, pu, q, eqD, eqDs]; rfl
theorem lenD_row {l : List Str} : lenD (eRow l) h = .ok (.int l.length) h := by simp [lenD, eRow, seqOf, top]
theorem lenD_rows {l : List (List Str)} : lenD (eRows l) h = .ok (.int l.length) h := by simp [lenD, eRows, seqOf, top]
theorem lenD_tab {a : List Str} {l : List (List Str)} : lenD (eTab a l) h = .ok (.int 2) h := by simp [lenD, eTab, seqOf, top]
theorem lenD_lst {l : List D} : lenD (.lst l) h = .ok (.int l.length) h := by simp [lenD, seqOf, top]
theorem lenD_tup {l : List D} : lenD (.tup l) h = .ok (.int l.length) h := by simp [lenD, seqOf, top]
theorem ix_tab0 {a : List Str} {l : List (List Str)} : ixD (eTab a l) (.int 0) h = .ok (eRow a) h := by simp [ixD, eTab, seqOf, top, TS.atI, ixN]
theorem ix_tab1 {a : List Str} {l : List (List Str)} : ixD (eTab a l) (.int 1) h = .ok (eRows l) h := by simp [ixD, eTab, seqOf, top, TS.atI, ixN]
end
end TS

set_option Elab.async false
set_option linter.all false
set_option maxRecDepth 100000
set_option maxHeartbeats 4000000
/-! TR2: what laws draw (second family). -/
namespace TS
open PySem
/-- the script's number at a place -/
def scAt (ns : List Int) (k : Nat) : Int := if k < ns.length then ns.getD k 0 else if ns = [] then 0 else ns.getD (k % ns.length) 0 * 31 + k
theorem P_cell_at (k : Nat) (ns : List Int) (i c : Nat) : pruns T (k + 1) 1 [.scr ns, .int i] c = .ok (.int (scAt ns i)) c := by
  rw [pr_of T_1]
  by_cases hi : i < ns.length
  · obtain ⟨x, e1, e2⟩ := atI_some (ns.map D.int) i (by omega) (by simpa using hi)
    have e3 : x = .int (scAt ns i) := by
      simp only [List.getElem?_map, Int.toNat_natCast, List.getElem?_eq_getElem hi, Option.map_some, Option.some.injEq] at e2
      rw [← e2]
      simp [scAt, hi, List.getD_eq_getElem?_getD]
    subst e3
    have hi' : (i : Int) < (ns.length : Int) := by omega
    simp [f1_law_cell_at, FnDef.prun, poutOf, pexs, pex, pe, pes, pbnd, pret, startE, pprim, prim, lft, a1, a2, int2, lenD, seqOf, top, hi', ixD, e1, ret]
  · have hi' : ¬ (i : Int) < (ns.length : Int) := by omega
    cases ns with
    | nil =>
      simp [f1_law_cell_at, FnDef.prun, poutOf, pexs, pex, pe, pes, pbnd, pret, startE, pprim, prim, lft, a1, a2, int2, lenD, seqOf, top, ixD, eqH, pu, eqD, eqDs, mkL, show ¬ (i : Int) < 0 by omega, ret, scAt]
    | cons n ns =>
      have hp : (0 : Int) < ((n :: ns).length : Nat) := by simp
      have hm : ((i : Int) % ((n :: ns).length : Nat)) = ((i % (n :: ns).length : Nat) : Int) := by simp
      have hlt : i % (n :: ns).length < (n :: ns).length := Nat.mod_lt _ (by simp)
      obtain ⟨x, e1, e2⟩ := atI_some ((n :: ns).map D.int) ((i : Int) % ((n :: ns).length : Nat)) (by rw [hm]; omega) (by rw [hm, List.length_map]; omega)
      have e3 : x = .int ((n :: ns).getD (i % (n :: ns).length) 0) := by
        rw [hm] at e2
        simp only [List.getElem?_map, Int.toNat_natCast, List.getElem?_eq_getElem hlt, Option.map_some, Option.some.injEq] at e2
        rw [← e2]
        simp only [List.getD_eq_getElem?_getD, List.getElem?_eq_getElem hlt, Option.getD_some]
      subst e3
      have hs : scAt (n :: ns) i = (n :: ns).getD (i % (n :: ns).length) 0 * 31 + i := by
        rw [scAt, if_neg hi, if_neg (by simp)]
      rw [hs]
      simp only [List.length_cons, List.map_cons, Int.natCast_add, Int.cast_ofNat_Int] at hi' e1 hp ⊢
      generalize (n :: ns).getD (i % (ns.length + 1)) 0 = v at *
      simp [f1_law_cell_at, FnDef.prun, poutOf, pexs, pex, pe, pes, pbnd, pret, startE, pprim, prim, lft, a1, a2, int2, lenD, seqOf, top, ixD, eqH, pu, eqD, eqDs, mkL, hi', pMod, guardM, e1, mulD, addD, big, ret]
def drB (ns : List Int) (c : Nat) (m : Int) : Int := ((scAt ns (c + 1) * 1103515245 + 7919 * ((c + 1 : Nat) : Int) + 12345) % 2147483647) ^ 5 % 2147483647 % 999983 % m
theorem drB_lo {ns : List Int} {c : Nat} {m : Int} (h : 0 < m) : 0 ≤ drB ns c m := Int.emod_nonneg _ (by omega)
theorem drB_hi {ns : List Int} {c : Nat} {m : Int} (h : 0 < m) : drB ns c m < m := Int.emod_lt_of_pos _ h
theorem P_mixed (k : Nat) (ns : List Int) (c c' : Nat) (m : Int) (hm : 0 < m) : pruns T (k + 2) 2 [.scr ns, .int (c + 1 : Nat), .int m] c' = .ok (.int (drB ns c m)) c' := by
  rw [pr_of T_2]
  have e := P_cell_at k ns (c + 1) c'
  unfold drB
  generalize ((c + 1 : Nat) : Int) = i at *
  generalize scAt ns (c + 1) = v at *
  have hd : ((v * 1103515245 + 7919 * i + 12345) % 2147483647).natAbs < 2 ^ 64 := by
    have := Int.emod_nonneg (v * 1103515245 + 7919 * i + 12345) (show (2147483647 : Int) ≠ 0 by decide)
    have := Int.emod_lt_of_pos (v * 1103515245 + 7919 * i + 12345) (show (0 : Int) < 2147483647 by decide)
    omega
  simp [f2_law_mixed, FnDef.prun, poutOf, pexs, pex, px, pe, pes, pbnd, pret, startE, pprim, prim, lft, a1, a2, int2, e, mulD, addD, big, pMod, pPow, guardM, hd, hm, ret]
theorem P_draw (k : Nat) (ns : List Int) (c : Nat) (m : Int) (hm : 0 < m) (hc : c < 100000) : pruns T (k + 3) 3 [.scr ns, .ref 0, .int m] c = .ok (.int (drB ns c m)) (c + 1) := by
  rw [pr_of T_3]
  have e := P_mixed k ns c (c + 1) m hm
  simp only [Int.natCast_add, Int.cast_ofNat_Int] at e
  simp [f3_law_draw, FnDef.prun, poutOf, pexs, pex, px, pxs, pe, pes, pbnd, pret, startE, pprim, prim, lft, a1, a2, isMut, okSlot, doMut, hc, lenD, seqOf, top, Tn, e]
theorem P_pick (k : Nat) (ns : List Int) (c : Nat) (s : D) (xs : List D) (h1 : seqOf [] s = some xs) (h0 : notRef s = true) (hx : xs ≠ []) (hc : c < 100000) : ∃ x ∈ xs, pruns T (k + 4) 5 [.scr ns, .ref 0, s] c = .ok x (c + 1) := by
  rw [pr_of T_5]
  have hl : (0 : Int) < xs.length := by
    have := List.length_pos_iff.mpr hx; omega
  have e := P_draw k ns c xs.length hl hc
  obtain ⟨x, e1, e2⟩ := atI_some xs (drB ns c xs.length) (drB_lo hl) (drB_hi hl)
  refine ⟨x, List.mem_of_getElem? e2, ?_⟩
  have hs : ∀ c, seqOf [Tn c] s = some xs := fun c => by rw [seqOf, top_nr h0 [Tn c] [], ← seqOf]; exact h1
  have hlen : ∀ c, lenD s [Tn c] = .ok (.int xs.length) [Tn c] := fun c => by
    cases s with
    | str _ => cases h1
    | _ => simp only [lenD, hs c]
  have hix : ∀ c, ixD s (.int (drB ns (c) xs.length)) = ixD s (.int (drB ns c xs.length)) := fun _ => rfl
  have hix : ixD s (.int (drB ns c xs.length)) [Tn (c + 1)] = .ok x [Tn (c + 1)] := by
    cases s with
    | str _ => cases h1
    | _ => simp only [ixD, hs, e1]
  simp [f5_law_pick, FnDef.prun, poutOf, pexs, pex, px, pxs, pe, pes, pbnd, pret, startE, pprim, prim, lft, a1, a2, hlen, e, hix]
end TS

set_option Elab.async false
set_option linter.all false
set_option maxRecDepth 100000
set_option maxHeartbeats 4000000
/-! TR3: drawn names and tables (second family). -/
namespace TS
open PySem
def w6 : List Str := ["a", "b", "c", "dd", "e", "zzzzzz"]
def c11 : List Str := ["", "", "x", "x", "y", "z", "x-y", "1.5", "a b", " ", "x y-z.1"]
theorem perm_erase {α : Type} : ∀ (l : List α) (i : Nat) (hi : i < l.length), (l[i] :: l.eraseIdx i).Perm l
  | a :: l, 0, _ => by simp
  | a :: l, i + 1, h => by
    simp only [List.getElem_cons_succ, List.eraseIdx_cons_succ]
    exact (List.Perm.swap ..).trans ((perm_erase l i (by simpa using h)).cons a)
theorem erase_map {α β : Type} (f : α → β) : ∀ (l : List α) (i : Nat), (l.map f).eraseIdx i = (l.eraseIdx i).map f
  | [], _ => by simp
  | a :: l, 0 => by simp
  | a :: l, i + 1 => by simp [erase_map f l i]
theorem P_names (k : Nat) (ns : List Int) (c : Nat) (most : Int) (hm : 0 ≤ most ∧ most ≤ 6) (hc : c < 9000) :
    ∃ (l : List Str) (c' : Nat), c ≤ c' ∧ c' ≤ c + 8 ∧ l.Nodup ∧ (∀ x ∈ l, x ∈ w6) ∧ (l.length : Int) ≤ most ∧ pruns T (k + 4) 4 [.scr ns, .ref 0, .int most] c = .ok (eRow l) c' := by
  rw [pr_of T_4]
  have e1 := P_draw k ns c (most + 1) (by omega) (by omega)
  have v0 := drB_lo (ns := ns) (c := c) (m := most + 1) (by omega)
  have v1 := drB_hi (ns := ns) (c := c) (m := most + 1) (by omega)
  generalize drB ns c (most + 1) = v at *
  let I : Nat → Env → Nat → Prop := fun i r c' => ∃ (left made : List Str) (x : Option D), r = [some (.scr ns), some (.ref 0), some (.int most), some (.lst (left.map .str)), some (.lst (made.map .str)), x] ∧ c' = c + 1 + i ∧ made.length = i ∧ (made ++ left).Perm w6
  obtain ⟨r', c', e2, left, made, x, rfl, rfl, ml, pm⟩ := pfor_inv (bd := bindTg (.one 5)) (body := pexs (pruns T (k + 3)) (ownss f4_law_names.body) [(.exp (.mth .append (.var 4) [(.mth .pop1 (.var 3) [(.op (.call 3) [(.var 0), (.var 1), (.op .len [(.var 3)])])])]))]) I ((List.range v.toNat).map fun (i : Nat) => .int (i : Int)) 0
    [some (.scr ns), some (.ref 0), some (.int most), some (.lst (w6.map .str)), some (.lst []), none] (c + 1) ⟨w6, [], none, rfl, rfl, rfl, List.Perm.refl _⟩ (by
      rintro j x r cc hx ⟨left, made, x5, rfl, rfl, ml, pm⟩
      have hj : j < v.toNat := by
        have := (List.getElem?_eq_some_iff.mp hx).1
        simpa using this
      have hl : made.length + left.length = 6 := by
        have := pm.length_eq
        simpa [w6] using this
      have hpos : (0 : Int) < (left.length : Int) := by omega
      have e3 := P_draw k ns (c + 1 + (0 + j)) left.length hpos (by omega)
      have u0 := drB_lo (ns := ns) (c := c + 1 + (0 + j)) (m := left.length) hpos
      have u1 := drB_hi (ns := ns) (c := c + 1 + (0 + j)) (m := left.length) hpos
      generalize drB ns (c + 1 + (0 + j)) left.length = u at *
      have hu : u.toNat < left.length := by omega
      refine ⟨_, _, _, rfl, ?_, left.eraseIdx u.toNat, made ++ [left[u.toNat]], some x, rfl, rfl, by simp [ml], ?_⟩
      · have : made.length < 100000 := by omega
        simp only [Nat.zero_add, Nat.add_assoc] at e3
        simp [FnDef.prun, poutOf, pexs, pex.eq_1, pex.eq_2, pex.eq_3, pex.eq_4, pex.eq_5, pex.eq_6, pex.eq_7, pex.eq_10, pex.eq_11, px, pxs, pe.eq_1, pe.eq_2, pe.eq_3, pe.eq_4, pe.eq_5, pe.eq_6, pe.eq_7, pe.eq_8, pe.eq_9, pe.eq_10, pe.eq_11, pes, pbnd, pret, startE, pprim, prim, lft, ret, a1, a2, int2, isMut, okSlot, doMut, pmut, f4_law_names, ownss, owns, isNew, lenD, seqOf, top, e3, u0, show u ≤ 100000 by omega, hu, erase_map, this, Nat.add_assoc]
      · rw [List.append_assoc]
        exact (List.Perm.append_left made (by simpa using perm_erase left u.toNat hu)).trans pm)
  simp only [List.length_map, List.length_range, Nat.zero_add] at e2 ml
  have vb : -100000 ≤ v ∧ v ≤ 100000 := by omega
  refine ⟨made, c + 1 + v.toNat, by omega, by omega, ?_, ?_, by omega, ?_⟩
  · have : (made ++ left).Nodup := pm.nodup_iff.mpr (by decide)
    exact (List.nodup_append.mp this).1
  · intro y hy
    exact pm.subset (List.mem_append_left _ hy)
  · refine prun_ret rfl ((pexs_next (r1 := [some (.scr ns), some (.ref 0), some (.int most), some (.lst (w6.map .str)), some (.lst []), none]) (c1 := c) ?_).trans ((pexs_next (pex_for (ds := [.int v]) (c1 := c + 1) ?_ ?_ e2)).trans (pexs_ret ?_)))
    · simp [FnDef.prun, poutOf, pexs, pex.eq_1, pex.eq_2, pex.eq_3, pex.eq_4, pex.eq_5, pex.eq_6, pex.eq_7, pex.eq_10, pex.eq_11, px, pxs, pe.eq_1, pe.eq_2, pe.eq_3, pe.eq_4, pe.eq_5, pe.eq_6, pe.eq_7, pe.eq_8, pe.eq_9, pe.eq_10, pe.eq_11, pes, pbnd, pret, startE, pprim, prim, lft, ret, a1, a2, int2, mkL, w6, f4_law_names]
    · simp [FnDef.prun, poutOf, pexs, pex.eq_1, pex.eq_2, pex.eq_3, pex.eq_4, pex.eq_5, pex.eq_6, pex.eq_7, pex.eq_10, pex.eq_11, px, pxs, pe.eq_1, pe.eq_2, pe.eq_3, pe.eq_4, pe.eq_5, pe.eq_6, pe.eq_7, pe.eq_8, pe.eq_9, pe.eq_10, pe.eq_11, pes, pbnd, pret, startE, pprim, prim, lft, ret, a1, a2, int2, addD, e1]
    · simp [pitems, notRef, itemsOf, itR1, vb]
    · simp [FnDef.prun, poutOf, pexs, pex.eq_1, pex.eq_2, pex.eq_3, pex.eq_4, pex.eq_5, pex.eq_6, pex.eq_7, pex.eq_10, pex.eq_11, px, pxs, pe.eq_1, pe.eq_2, pe.eq_3, pe.eq_4, pe.eq_5, pe.eq_6, pe.eq_7, pe.eq_8, pe.eq_9, pe.eq_10, pe.eq_11, pes, pbnd, pret, startE, pprim, prim, lft, ret, a1, a2, int2, pTuple, seqOf, top, eRow]
theorem P_cell_of (k : Nat) (ns : List Int) (c : Nat) (hc : c < 100000) : ∃ x ∈ c11, pruns T (k + 5) 6 [.scr ns, .ref 0] c = .ok (.str x) (c + 1) := by
  rw [pr_of T_6]
  obtain ⟨x, hx, e⟩ := P_pick k ns c (.lst (c11.map .str)) (c11.map .str) rfl rfl (by decide) hc
  obtain ⟨s, hs, rfl⟩ := List.mem_map.mp hx
  refine ⟨s, hs, ?_⟩
  simp only [c11, List.map_cons, List.map_nil] at e
  simp [FnDef.prun, poutOf, pexs, pex.eq_1, pex.eq_2, pex.eq_3, pex.eq_4, pex.eq_5, pex.eq_6, pex.eq_7, pex.eq_10, pex.eq_11, px, pxs, pe.eq_1, pe.eq_2, pe.eq_3, pe.eq_4, pe.eq_5, pe.eq_6, pe.eq_7, pe.eq_8, pe.eq_9, pe.eq_10, pe.eq_11, pes, pbnd, pret, startE, pprim, prim, lft, ret, a1, a2, int2, f6_law_cell_of, mkL, e]
end TS

set_option Elab.async false
set_option linter.all false
set_option maxRecDepth 100000
set_option maxHeartbeats 4000000
/-! TR4: drawn tables (second family). -/
namespace TS
open PySem
theorem strs_of {ds : List D} {l : List Str} (q : ∀ d ∈ ds, ∃ x ∈ l, d = .str x) : ∃ row : List Str, ds = row.map .str ∧ ∀ x ∈ row, x ∈ l := by
  induction ds with
  | nil => exact ⟨[], rfl, by simp⟩
  | cons d ds ih =>
    obtain ⟨row, e, q2⟩ := ih fun d hd => q d (List.mem_cons_of_mem _ hd)
    obtain ⟨x, hx, ex⟩ := q d List.mem_cons_self
    exact ⟨x :: row, by rw [ex, e]; rfl, by simp; exact ⟨hx, q2⟩⟩
theorem row_draw (k : Nat) (ns : List Int) (cs : List Str) (c : Nat) (hc : c < 90000) (hl : cs.length ≤ 6) (r : Env) (h0 : (wipeE r [8])[0]? = some (some (.scr ns))) (h1 : (wipeE r [8])[1]? = some (some (.ref 0))) (h4 : r[4]? = some (some (eRow cs))) (hlen : 2 < r.length) :
    ∃ row : List Str, row.length = cs.length ∧ (∀ x ∈ row, x ∈ c11) ∧ pe (pruns T (k + 5)) (.op .tuple [(.comp false (.op (.call 6) [(.var 0), (.var 1)]) (.one 8) .seq [(.var 4)] [] [8])]) r c = .ok (eRow row) (c + cs.length) := by
  obtain ⟨ds, c', e1, e2, e3, e4⟩ := pcomp_inv (bd := fun d => bindTg (.one 8) d (wipeE r [8])) (cond := pconds (pruns T (k + 5)) []) (elt := pe (pruns T (k + 5)) (.op (.call 6) [(.var 0), (.var 1)])) (fun i c' => c' = c + i) (fun d => ∃ x ∈ c11, d = .str x) (cs.map .str) 0 c rfl (by
    rintro j x cc hx rfl
    have hj : j < cs.length := by
      have := (List.getElem?_eq_some_iff.mp hx).1
      simpa using this
    obtain ⟨s, hs, e⟩ := P_cell_of k ns (c + (0 + j)) (by omega)
    refine ⟨_, .str s, _, rfl, rfl, ?_, rfl, s, hs, rfl⟩
    have g0 : ((wipeE r [8]).set 8 (some x))[0]? = some (some (.scr ns)) := by rw [List.getElem?_set_ne (by decide)]; exact h0
    have g1 : ((wipeE r [8]).set 8 (some x))[1]? = some (some (.ref 0)) := by rw [List.getElem?_set_ne (by decide)]; exact h1
    simp only [FnDef.prun, poutOf, pexs, pex.eq_1, pex.eq_2, pex.eq_3, pex.eq_4, pex.eq_5, pex.eq_6, pex.eq_7, pex.eq_10, pex.eq_11, px, pxs, pe.eq_1, pe.eq_2, pe.eq_3, pe.eq_4, pe.eq_5, pe.eq_6, pe.eq_7, pe.eq_8, pe.eq_9, pe.eq_10, pe.eq_11, pes, pbnd, pret, startE, pprim, prim, lft, ret, a1, a2, int2, g0, g1, e]
    rfl)
  obtain ⟨row, rfl, hr⟩ := strs_of e4
  simp only [List.length_map, Nat.zero_add] at e2 e3
  subst e2
  refine ⟨row, e3, hr, ?_⟩
  have := pe_comp (m := false) (ds := [eRow cs]) (P := pruns T (k + 5)) (r := r) (c := c) (c1 := c) (its := [.var 4]) (k := .seq) (by simp [FnDef.prun, poutOf, pexs, pex.eq_1, pex.eq_2, pex.eq_3, pex.eq_4, pex.eq_5, pex.eq_6, pex.eq_7, pex.eq_10, pex.eq_11, px, pxs, pe.eq_1, pe.eq_2, pe.eq_3, pe.eq_4, pe.eq_5, pe.eq_6, pe.eq_7, pe.eq_8, pe.eq_9, pe.eq_10, pe.eq_11, pes, pbnd, pret, startE, pprim, prim, lft, ret, a1, a2, int2, h4]) rfl e1 (by simp; omega)
  rw [pe, pes, pbnd, pbnd, this]
  simp [FnDef.prun, poutOf, pexs, pex.eq_1, pex.eq_2, pex.eq_3, pex.eq_4, pex.eq_5, pex.eq_6, pex.eq_7, pex.eq_10, pex.eq_11, px, pxs, pe.eq_1, pe.eq_2, pe.eq_3, pe.eq_4, pe.eq_5, pe.eq_6, pe.eq_7, pe.eq_8, pe.eq_9, pe.eq_10, pe.eq_11, pes, pbnd, pret, startE, pprim, prim, lft, ret, a1, a2, int2, pTuple, seqOf, top, eRow]
def tabBody : List S := [(.asg 7 (.op .tuple [(.comp false (.op (.call 6) [(.var 0), (.var 1)]) (.one 8) .seq [(.var 4)] [] [8])])),
  (.ite (.andB (.op .ne [(.var 5), (.op (.lst false) [])]) (.op .eq [(.op (.call 3) [(.var 0), (.var 1), (.cst (.int 4))]), (.cst (.int 0))])) [(.asg 7 (.op (.call 5) [(.var 0), (.var 1), (.var 5)]))] []),
  (.exp (.mth .append (.var 5) [(.var 7)]))]
theorem tab_turn (k : Nat) (ns : List Int) (c : Nat) (hc : c < 80000) (cs : List Str) (hn : cs.length ≤ 6) (made : List (List Str)) (hm : made.length < 1000) (good : ∀ r ∈ made, r.length = cs.length ∧ ∀ x ∈ r, x ∈ c11) (x2 x3 x6 x7 x8 : Option D) :
    ∃ (row : List Str) (c' : Nat), c' ≤ c + cs.length + 2 ∧ c ≤ c' ∧ row.length = cs.length ∧ (∀ x ∈ row, x ∈ c11) ∧
      pexs (pruns T (k + 5)) [5] tabBody [some (.scr ns), some (.ref 0), x2, x3, some (eRow cs), some (.lst (made.map eRow)), x6, x7, x8] c =
      .ok (.next [some (.scr ns), some (.ref 0), x2, x3, some (eRow cs), some (.lst ((made ++ [row]).map eRow)), x6, some (eRow row), x8]) c' := by
  obtain ⟨row, rl, rc, e⟩ := row_draw k ns cs c (by omega) hn [some (.scr ns), some (.ref 0), x2, x3, some (eRow cs), some (.lst (made.map eRow)), x6, x7, x8] rfl rfl rfl (by simp)
  have fin : ∀ (row : List Str) (c' : Nat), pexs (pruns T (k + 5)) [5] [(.exp (.mth .append (.var 5) [(.var 7)]))] [some (.scr ns), some (.ref 0), x2, x3, some (eRow cs), some (.lst (made.map eRow)), x6, some (eRow row), x8] c' =
      .ok (.next [some (.scr ns), some (.ref 0), x2, x3, some (eRow cs), some (.lst ((made ++ [row]).map eRow)), x6, some (eRow row), x8]) c' := fun row c' => by
    simp [FnDef.prun, poutOf, pexs, pex.eq_1, pex.eq_2, pex.eq_3, pex.eq_4, pex.eq_5, pex.eq_6, pex.eq_7, pex.eq_10, pex.eq_11, px, pxs, pe.eq_1, pe.eq_2, pe.eq_3, pe.eq_4, pe.eq_5, pe.eq_6, pe.eq_7, pe.eq_8, pe.eq_9, pe.eq_10, pe.eq_11, pes, pbnd, pret, startE, pprim, prim, lft, ret, a1, a2, int2, isMut, okSlot, doMut, pmut, show made.length < 100000 by omega]
  have st1 := pexs_next (P := pruns T (k + 5)) (own := [5]) (ss := tabBody.tail) (r := [some (.scr ns), some (.ref 0), x2, x3, some (eRow cs), some (.lst (made.map eRow)), x6, x7, x8]) (c := c) (c1 := c + cs.length) (r1 := [some (.scr ns), some (.ref 0), x2, x3, some (eRow cs), some (.lst (made.map eRow)), x6, some (eRow row), x8]) (s := .asg 7 (.op .tuple [(.comp false (.op (.call 6) [(.var 0), (.var 1)]) (.one 8) .seq [(.var 4)] [] [8])])) (by
    simp only [pex, px, pbnd, e, pret]; rfl)
  have h1 : tabBody = (.asg 7 (.op .tuple [(.comp false (.op (.call 6) [(.var 0), (.var 1)]) (.one 8) .seq [(.var 4)] [] [8])])) :: tabBody.tail := rfl
  rw [h1, st1]
  cases made with
  | nil =>
    refine ⟨row, c + cs.length, by omega, by omega, rl, rc, (pexs_next ?_).trans (fin row _)⟩
    simp [FnDef.prun, poutOf, pexs, pex.eq_1, pex.eq_2, pex.eq_3, pex.eq_4, pex.eq_5, pex.eq_6, pex.eq_7, pex.eq_10, pex.eq_11, px, pxs, pe.eq_1, pe.eq_2, pe.eq_3, pe.eq_4, pe.eq_5, pe.eq_6, pe.eq_7, pe.eq_8, pe.eq_9, pe.eq_10, pe.eq_11, pes, pbnd, pret, startE, pprim, prim, lft, ret, a1, a2, int2, mkL, eqH, top, pu, eqD, eqDs]
  | cons r0 rs =>
    have e3 := P_draw (k + 2) ns (c + cs.length) 4 (by omega) (by omega)
    have hp := pu_rowl 7 (r0 :: rs)
    simp only [List.map_cons] at hp
    by_cases hv : drB ns (c + cs.length) 4 = 0
    · obtain ⟨x, hx, e5⟩ := P_pick (k + 1) ns (c + cs.length + 1) (.lst ((r0 :: rs).map eRow)) ((r0 :: rs).map eRow) rfl rfl (by simp) (by omega)
      obtain ⟨rw_, hr, rfl⟩ := List.mem_map.mp hx
      refine ⟨rw_, c + cs.length + 1 + 1, by omega, by omega, (good rw_ hr).1, (good rw_ hr).2, (pexs_next ?_).trans (fin rw_ _)⟩
      simp only [List.map_cons] at e5
      rw [hv] at e3
      simp [FnDef.prun, poutOf, pexs, pex.eq_1, pex.eq_2, pex.eq_3, pex.eq_4, pex.eq_5, pex.eq_6, pex.eq_7, pex.eq_10, pex.eq_11, px, pxs, pe.eq_1, pe.eq_2, pe.eq_3, pe.eq_4, pe.eq_5, pe.eq_6, pe.eq_7, pe.eq_8, pe.eq_9, pe.eq_10, pe.eq_11, pes, pbnd, pret, startE, pprim, prim, lft, ret, a1, a2, int2, mkL, eqH, top, pu, eqD, eqDs, hp, e3, e5]
    · refine ⟨row, c + cs.length + 1, by omega, by omega, rl, rc, (pexs_next ?_).trans (fin row _)⟩
      have hb : (drB ns (c + cs.length) 4 == 0) = false := by simpa using hv
      simp [FnDef.prun, poutOf, pexs, pex.eq_1, pex.eq_2, pex.eq_3, pex.eq_4, pex.eq_5, pex.eq_6, pex.eq_7, pex.eq_10, pex.eq_11, px, pxs, pe.eq_1, pe.eq_2, pe.eq_3, pe.eq_4, pe.eq_5, pe.eq_6, pe.eq_7, pe.eq_8, pe.eq_9, pe.eq_10, pe.eq_11, pes, pbnd, pret, startE, pprim, prim, lft, ret, a1, a2, int2, mkL, eqH, top, pu, eqD, eqDs, hp, e3, hb]
theorem P_table (k : Nat) (ns : List Int) (c : Nat) (hc : c < 8000) (most rows : Int) (hm : 0 ≤ most ∧ most ≤ 6) (hr : 0 ≤ rows ∧ rows ≤ 12) :
    ∃ (cs : List Str) (rs : List (List Str)) (c' : Nat), c ≤ c' ∧ c' ≤ c + 200 ∧ cs.Nodup ∧ (∀ x ∈ cs, x ∈ w6) ∧ (cs.length : Int) ≤ most ∧ (rs.length : Int) ≤ rows ∧ (∀ r ∈ rs, r.length = cs.length ∧ ∀ x ∈ r, x ∈ c11) ∧
      pruns T (k + 6) 7 [.scr ns, .ref 0, .int most, .int rows] c = .ok (eTab cs rs) c' := by
  rw [pr_of T_7]
  obtain ⟨cs, c1, g0, hc1, nd, inw, lm, e1⟩ := P_names (k + 1) ns c most hm (by omega)
  have e2 := P_draw (k + 2) ns c1 (rows + 1) (by omega) (by omega)
  have v0 := drB_lo (ns := ns) (c := c1) (m := rows + 1) (by omega)
  have v1 := drB_hi (ns := ns) (c := c1) (m := rows + 1) (by omega)
  generalize drB ns c1 (rows + 1) = v at *
  have hcs : cs.length ≤ 6 := by omega
  let I : Nat → Env → Nat → Prop := fun i r c' => ∃ (x6 x7 x8 : Option D) (made : List (List Str)), r = [some (.scr ns), some (.ref 0), some (.int most), some (.int rows), some (eRow cs), some (.lst (made.map eRow)), x6, x7, x8] ∧ c1 + 1 ≤ c' ∧ c' ≤ c1 + 1 + 8 * i ∧ made.length = i ∧ ∀ r ∈ made, r.length = cs.length ∧ ∀ x ∈ r, x ∈ c11
  obtain ⟨r', c', e3, x6, x7, x8, made, rfl, hlo, hc', ml, good⟩ := pfor_inv (bd := bindTg (.one 6)) (body := pexs (pruns T (k + 5)) [5] tabBody) I ((List.range v.toNat).map fun (i : Nat) => .int (i : Int)) 0
    [some (.scr ns), some (.ref 0), some (.int most), some (.int rows), some (eRow cs), some (.lst []), none, none, none] (c1 + 1) ⟨none, none, none, [], rfl, by omega, by omega, rfl, by simp⟩ (by
      rintro j x r cc hx ⟨x6, x7, x8, made, rfl, hlo, hc', ml, good⟩
      have hj : j < v.toNat := by
        have := (List.getElem?_eq_some_iff.mp hx).1
        simpa using this
      obtain ⟨row, c2, b1, b2, g1, g2, e⟩ := tab_turn k ns cc (by omega) cs hcs made (by omega) good (some (.int most)) (some (.int rows)) (some x) x7 x8
      refine ⟨_, _, _, rfl, e, some x, some (eRow row), x8, made ++ [row], rfl, by omega, by omega, by simp [ml], fun r hr => ?_⟩
      rcases List.mem_append.mp hr with q | q
      · exact good r q
      · simp at q; subst q; exact ⟨g1, g2⟩)
  simp only [List.length_map, List.length_range, Nat.zero_add] at ml hc'
  have vb : -100000 ≤ v ∧ v ≤ 100000 := by omega
  refine ⟨cs, made, c', by omega, by omega, nd, inw, lm, by omega, good, ?_⟩
  refine prun_ret rfl ((pexs_next (r1 := [some (.scr ns), some (.ref 0), some (.int most), some (.int rows), some (eRow cs), none, none, none, none]) (c1 := c1) ?_).trans ((pexs_next (r1 := [some (.scr ns), some (.ref 0), some (.int most), some (.int rows), some (eRow cs), some (.lst []), none, none, none]) (c1 := c1) ?_).trans ((pexs_next (pex_for (ds := [.int v]) (c1 := c1 + 1) ?_ ?_ e3)).trans (pexs_ret ?_))))
  · simp [FnDef.prun, poutOf, pexs, pex.eq_1, pex.eq_2, pex.eq_3, pex.eq_4, pex.eq_5, pex.eq_6, pex.eq_7, pex.eq_10, pex.eq_11, px, pxs, pe.eq_1, pe.eq_2, pe.eq_3, pe.eq_4, pe.eq_5, pe.eq_6, pe.eq_7, pe.eq_8, pe.eq_9, pe.eq_10, pe.eq_11, pes, pbnd, pret, startE, pprim, prim, lft, ret, a1, a2, int2, e1, f7_law_table]
  · simp [FnDef.prun, poutOf, pexs, pex.eq_1, pex.eq_2, pex.eq_3, pex.eq_4, pex.eq_5, pex.eq_6, pex.eq_7, pex.eq_10, pex.eq_11, px, pxs, pe.eq_1, pe.eq_2, pe.eq_3, pe.eq_4, pe.eq_5, pe.eq_6, pe.eq_7, pe.eq_8, pe.eq_9, pe.eq_10, pe.eq_11, pes, pbnd, pret, startE, pprim, prim, lft, ret, a1, a2, int2, mkL]
  · simp [FnDef.prun, poutOf, pexs, pex.eq_1, pex.eq_2, pex.eq_3, pex.eq_4, pex.eq_5, pex.eq_6, pex.eq_7, pex.eq_10, pex.eq_11, px, pxs, pe.eq_1, pe.eq_2, pe.eq_3, pe.eq_4, pe.eq_5, pe.eq_6, pe.eq_7, pe.eq_8, pe.eq_9, pe.eq_10, pe.eq_11, pes, pbnd, pret, startE, pprim, prim, lft, ret, a1, a2, int2, addD, e2]
  · simp [pitems, notRef, itemsOf, itR1, vb]
  · simp [FnDef.prun, poutOf, pexs, pex.eq_1, pex.eq_2, pex.eq_3, pex.eq_4, pex.eq_5, pex.eq_6, pex.eq_7, pex.eq_10, pex.eq_11, px, pxs, pe.eq_1, pe.eq_2, pe.eq_3, pe.eq_4, pe.eq_5, pe.eq_6, pe.eq_7, pe.eq_8, pe.eq_9, pe.eq_10, pe.eq_11, pes, pbnd, pret, startE, pprim, prim, lft, ret, a1, a2, int2, pTuple, seqOf, top, eTab, eRows, mkT]
end TS

set_option Elab.async false
set_option linter.all false
set_option maxRecDepth 100000
set_option maxHeartbeats 4000000
/-! TR5: words, cells, columns, tables. -/
namespace TS
open PySem
def lettersL : List Nat := ("abcdefghijklmnopqrstuvwxyz" : Str).cps.toList
def signsL : List Nat := ("abcdefghijklmnopqrstuvwxyz0123456789-. " : Str).cps.toList
def wordB (s : Str) : Bool := decide (1 ≤ s.length ∧ s.length ≤ 6) && (strL (stripL lettersL s.cps.toList) == "")
def cellB (s : Str) : Bool := decide (s.length ≤ 8) && s.cps.toList.all fun ch => decide (ch ∈ signsL)
theorem P_is_word (k : Nat) (s : Str) (hs : s.length ≤ 100000) (c : Nat) : pruns T (k + 1) 8 [.str s] c = .ok (.bl (wordB s)) c := by
  rw [pr_of T_8]
  by_cases h1 : 1 ≤ s.length
  · by_cases h2 : s.length ≤ 6
    · have g1 : (1 : Int) ≤ (s.length : Int) := by omega
      have g2 : (s.length : Int) ≤ 6 := by omega
      simp [FnDef.prun, poutOf, pexs, pex.eq_1, pex.eq_2, pex.eq_3, pex.eq_4, pex.eq_5, pex.eq_6, pex.eq_7, pex.eq_10, pex.eq_11, px, pxs, pe.eq_1, pe.eq_2, pe.eq_3, pe.eq_4, pe.eq_5, pe.eq_6, pe.eq_7, pe.eq_8, pe.eq_9, pe.eq_10, pe.eq_11, pes, pbnd, pret, startE, pprim, prim, lft, ret, a1, a2, int2, f8_is_word, pIsi, isTy, truth, lenD, hs, g1, g2, kindOk, isStrD, pStrip, guardM, eqH, top, pu, eqD, wordB, h1, h2, lettersL]
    · have g1 : (1 : Int) ≤ (s.length : Int) := by omega
      have g2 : ¬ (s.length : Int) ≤ 6 := by omega
      simp [FnDef.prun, poutOf, pexs, pex.eq_1, pex.eq_2, pex.eq_3, pex.eq_4, pex.eq_5, pex.eq_6, pex.eq_7, pex.eq_10, pex.eq_11, px, pxs, pe.eq_1, pe.eq_2, pe.eq_3, pe.eq_4, pe.eq_5, pe.eq_6, pe.eq_7, pe.eq_8, pe.eq_9, pe.eq_10, pe.eq_11, pes, pbnd, pret, startE, pprim, prim, lft, ret, a1, a2, int2, f8_is_word, pIsi, isTy, truth, lenD, hs, g1, g2, wordB, h1, h2]
  · have g1 : ¬ (1 : Int) ≤ (s.length : Int) := by omega
    simp [FnDef.prun, poutOf, pexs, pex.eq_1, pex.eq_2, pex.eq_3, pex.eq_4, pex.eq_5, pex.eq_6, pex.eq_7, pex.eq_10, pex.eq_11, px, pxs, pe.eq_1, pe.eq_2, pe.eq_3, pe.eq_4, pe.eq_5, pe.eq_6, pe.eq_7, pe.eq_8, pe.eq_9, pe.eq_10, pe.eq_11, pes, pbnd, pret, startE, pprim, prim, lft, ret, a1, a2, int2, f8_is_word, pIsi, isTy, truth, lenD, hs, g1, wordB, h1]
theorem P_is_cell (k : Nat) (s : Str) (hs : s.length ≤ 100000) (c : Nat) : pruns T (k + 1) 10 [.str s] c = .ok (.bl (cellB s)) c := by
  rw [pr_of T_10]
  by_cases h2 : s.length ≤ 8
  · have g2 : (s.length : Int) ≤ 8 := by omega
    have e1 := pcomp_mapT (bd := fun d => bindTg (.one 1) d (wipeE [some (.str s), none] [1])) (cond := pconds (pruns T k) []) (elt := pe (pruns T k) (.op .inn [(.var 1), (.cst (.str "abcdefghijklmnopqrstuvwxyz0123456789-. "))])) (c := c) (fun ch => D.str (strL [ch])) (fun ch => D.bl (decide (ch ∈ signsL))) s.cps.toList (fun ch _ => ⟨_, rfl, rfl, by
      simp [FnDef.prun, poutOf, pexs, pex.eq_1, pex.eq_2, pex.eq_3, pex.eq_4, pex.eq_5, pex.eq_6, pex.eq_7, pex.eq_10, pex.eq_11, px, pxs, pe.eq_1, pe.eq_2, pe.eq_3, pe.eq_4, pe.eq_5, pe.eq_6, pe.eq_7, pe.eq_8, pe.eq_9, pe.eq_10, pe.eq_11, pes, pbnd, pret, startE, pprim, prim, lft, ret, a1, a2, int2, wipeE, inD, strL, signsL]⟩)
    have e2 := pe_comp (m := false) (P := pruns T k) (r := [some (.str s), none]) (c := c) (c1 := c) (its := [.var 0]) (k := .seq) (ds := [.str s]) (by simp [FnDef.prun, poutOf, pexs, pex.eq_1, pex.eq_2, pex.eq_3, pex.eq_4, pex.eq_5, pex.eq_6, pex.eq_7, pex.eq_10, pex.eq_11, px, pxs, pe.eq_1, pe.eq_2, pe.eq_3, pe.eq_4, pe.eq_5, pe.eq_6, pe.eq_7, pe.eq_8, pe.eq_9, pe.eq_10, pe.eq_11, pes, pbnd, pret, startE, pprim, prim, lft, ret, a1, a2, int2]) rfl e1 (by simp; exact hs)
    simp only [f8_is_word, FnDef.prun, f10_is_cell]
    have hall : ∀ l : List Nat, blsOf (l.map fun ch => D.bl (decide (ch ∈ signsL))) = some (l.map fun ch => decide (ch ∈ signsL)) := fun l => by
      induction l with
      | nil => rfl
      | cons a l ih => simp [blsOf, ih]
    simp [FnDef.prun, poutOf, pexs, pex.eq_1, pex.eq_2, pex.eq_3, pex.eq_4, pex.eq_5, pex.eq_6, pex.eq_7, pex.eq_10, pex.eq_11, px, pxs, pe.eq_1, pe.eq_2, pe.eq_3, pe.eq_4, pe.eq_5, pe.eq_6, pe.eq_7, pe.eq_8, pe.eq_9, pe.eq_10, pe.eq_11, pes, pbnd, pret, startE, pprim, prim, lft, ret, a1, a2, int2, pIsi, isTy, truth, lenD, hs, g2, e2, pAll, lstOf, top, hall, cellB, h2, List.all_map, Function.comp_def]
  · have g2 : ¬ (s.length : Int) ≤ 8 := by omega
    simp [FnDef.prun, poutOf, pexs, pex.eq_1, pex.eq_2, pex.eq_3, pex.eq_4, pex.eq_5, pex.eq_6, pex.eq_7, pex.eq_10, pex.eq_11, px, pxs, pe.eq_1, pe.eq_2, pe.eq_3, pe.eq_4, pe.eq_5, pe.eq_6, pe.eq_7, pe.eq_8, pe.eq_9, pe.eq_10, pe.eq_11, pes, pbnd, pret, startE, pprim, prim, lft, ret, a1, a2, int2, f10_is_cell, pIsi, isTy, truth, lenD, hs, g2, cellB, h2]
theorem wordB_len {s : Str} (h : wordB s = true) : s.length ≤ 6 := by
  simp only [wordB, Bool.and_eq_true, decide_eq_true_eq] at h; exact h.1.2
theorem cellB_len {s : Str} (h : cellB s = true) : s.length ≤ 8 := by
  simp only [cellB, Bool.and_eq_true, decide_eq_true_eq] at h; exact h.1
theorem blsOf_map {α : Type} (f : α → Bool) : ∀ l : List α, blsOf (l.map fun x => D.bl (f x)) = some (l.map f)
  | [] => rfl
  | a :: l => by simp [blsOf, blsOf_map f l]
theorem strsOf_map : ∀ l : List Str, strsOf (l.map D.str) = some l
  | [] => rfl
  | a :: l => by simp [strsOf, strsOf_map l]
theorem dedup_nd [DecidableEq α] : ∀ {l : List α}, l.Nodup → dedup l = l
  | [], _ => rfl
  | x :: l, h => by
    have h := List.nodup_cons.mp h
    rw [dedup, dedup_nd h.2, List.filter_eq_self.mpr]
    intro y hy
    simp only [decide_eq_true_eq]
    intro e; subst e; exact h.1 hy
def ColsOK (cs : List Str) : Prop := cs.length ≤ 6 ∧ (∀ x ∈ cs, wordB x = true) ∧ cs.Nodup
theorem P_are_columns (k : Nat) (cs : List Str) (h : ColsOK cs) (c : Nat) : pruns T (k + 2) 9 [eRow cs] c = .ok (.bl true) c := by
  rw [pr_of T_9]
  obtain ⟨h1, h2, h3⟩ := h
  have e1 := pcomp_mapT (bd := fun d => bindTg (.one 1) d (wipeE [some (eRow cs), none] [1])) (cond := pconds (pruns T (k + 1)) []) (elt := pe (pruns T (k + 1)) (.op (.call 8) [(.var 1)])) (c := c) D.str (fun x => D.bl (wordB x)) cs (fun x hx => ⟨_, rfl, rfl, by
      have := P_is_word k x (by have := wordB_len (h2 x hx); omega) c
      simp [FnDef.prun, poutOf, pexs, pex.eq_1, pex.eq_2, pex.eq_3, pex.eq_4, pex.eq_5, pex.eq_6, pex.eq_7, pex.eq_10, pex.eq_11, px, pxs, pe.eq_1, pe.eq_2, pe.eq_3, pe.eq_4, pe.eq_5, pe.eq_6, pe.eq_7, pe.eq_8, pe.eq_9, pe.eq_10, pe.eq_11, pes, pbnd, pret, startE, pprim, prim, lft, ret, a1, a2, int2, wipeE, this]⟩)
  have e2 := pe_comp (m := false) (P := pruns T (k + 1)) (r := [some (eRow cs), none]) (c := c) (c1 := c) (its := [.var 0]) (k := .seq) (ds := [eRow cs]) (by simp [FnDef.prun, poutOf, pexs, pex.eq_1, pex.eq_2, pex.eq_3, pex.eq_4, pex.eq_5, pex.eq_6, pex.eq_7, pex.eq_10, pex.eq_11, px, pxs, pe.eq_1, pe.eq_2, pe.eq_3, pe.eq_4, pe.eq_5, pe.eq_6, pe.eq_7, pe.eq_8, pe.eq_9, pe.eq_10, pe.eq_11, pes, pbnd, pret, startE, pprim, prim, lft, ret, a1, a2, int2]) rfl e1 (by simp; omega)
  have g1 : ¬ (6 : Int) < (cs.length : Int) := by omega
  have hall : (cs.map wordB).all id = true := by simpa using h2
  have hd : (dedup cs).length = cs.length := by rw [dedup_nd h3]
  have hlen : ∀ c, lenD (eRow cs) [Tn c] = .ok (.int cs.length) [Tn c] := fun c => by simp [lenD, eRow, seqOf, top]
  have hset : ∀ c, pLenset (eRow cs) [Tn c] = .ok (.int cs.length) [Tn c] := fun c => by
    simp [pLenset, eRow, seqOf, top, strsOf_map, hd, show cs.length < 1000 by omega]
  have hty : ∀ c, isTy .tTup (eRow cs) [Tn c] = some true := fun c => by simp [isTy, eRow]
  simp only [f9_are_columns]
  simp [FnDef.prun, poutOf, pexs, pex.eq_1, pex.eq_2, pex.eq_3, pex.eq_4, pex.eq_5, pex.eq_6, pex.eq_7, pex.eq_10, pex.eq_11, px, pxs, pe.eq_1, pe.eq_2, pe.eq_3, pe.eq_4, pe.eq_5, pe.eq_6, pe.eq_7, pe.eq_8, pe.eq_9, pe.eq_10, pe.eq_11, pes, pbnd, pret, startE, pprim, prim, lft, ret, a1, a2, int2, pIsi, hty, hlen, int2, g1, pNot, e2, pAll, lstOf, top, blsOf_map, hall, hset, eqH, pu, eqD]
def RowsOK (n : Nat) (rs : List (List Str)) : Prop := rs.length ≤ 12 ∧ ∀ r ∈ rs, r.length = n ∧ ∀ x ∈ r, cellB x = true
theorem P_is_table (k : Nat) (cs : List Str) (rs : List (List Str)) (h : ColsOK cs) (g : RowsOK cs.length rs) (c : Nat) : pruns T (k + 3) 11 [eTab cs rs] c = .ok (.bl true) c := by
  rw [pr_of T_11]
  have e1 := P_are_columns k cs h c
  have hcl : cs.length ≤ 6 := h.1
  have l1 : ∀ c, lenD (eRow cs) [Tn c] = .ok (.int cs.length) [Tn c] := fun c => by simp [lenD, eRow, seqOf, top]
  have l2 : ∀ c, lenD (eRows rs) [Tn c] = .ok (.int rs.length) [Tn c] := fun c => by simp [lenD, eRows, seqOf, top]
  have i0 : ∀ c, ixD (eTab cs rs) (.int 0) [Tn c] = .ok (eRow cs) [Tn c] := fun c => by simp [ixD, eTab, seqOf, top, TS.atI, ixN]
  have i1 : ∀ c, ixD (eTab cs rs) (.int 1) [Tn c] = .ok (eRows rs) [Tn c] := fun c => by simp [ixD, eTab, seqOf, top, TS.atI, ixN]
  have t0 : ∀ c, isTy .tTup (eTab cs rs) [Tn c] = some true := fun c => by simp [isTy, eTab]
  have t1 : ∀ c, isTy .tTup (eRows rs) [Tn c] = some true := fun c => by simp [isTy, eRows]
  have lt : ∀ c, lenD (eTab cs rs) [Tn c] = .ok (.int 2) [Tn c] := fun c => by simp [lenD, eTab, seqOf, top]
  have g1 : ¬ (12 : Int) < (rs.length : Int) := by have := g.1; omega
  have loop : pforL (bindTg (.one 1)) (pexs (pruns T (k + 2)) (ownss f11_is_table.body) [(.ite (.orB (.op .not [(.op (.isi .tTup) [(.var 1)])]) (.orB (.op .ne [(.op .len [(.var 1)]), (.op .len [(.op .ix [(.var 0), (.cst (.int 0))])])]) (.op .not [(.op .all [(.comp false (.op (.call 10) [(.var 2)]) (.one 2) .seq [(.var 1)] [] [2])])]))) [(.rtn (.cst (.bl false)))] [])]) (rs.map eRow) [some (eTab cs rs), none, none] c = .ok (.next [some (eTab cs rs), (rs.foldl (fun _ r => some (eRow r)) none), none]) c := by
    refine pfor_fold eRow (fun (s : Option D) => [some (eTab cs rs), s, none]) (fun _ r => some (eRow r)) rs none fun s x hx => ⟨_, rfl, ?_⟩
    obtain ⟨q1, q2⟩ := g.2 x hx
    have e3 := pcomp_mapT (bd := fun d => bindTg (.one 2) d (wipeE [some (eTab cs rs), some (eRow x), none] [2])) (cond := pconds (pruns T (k + 2)) []) (elt := pe (pruns T (k + 2)) (.op (.call 10) [(.var 2)])) (c := c) D.str (fun x => D.bl (cellB x)) x (fun y hy => ⟨_, rfl, rfl, by
      have := P_is_cell (k + 1) y (by have := cellB_len (q2 y hy); omega) c
      simp [FnDef.prun, poutOf, pexs, pex.eq_1, pex.eq_2, pex.eq_3, pex.eq_4, pex.eq_5, pex.eq_6, pex.eq_7, pex.eq_10, pex.eq_11, px, pxs, pe.eq_1, pe.eq_2, pe.eq_3, pe.eq_4, pe.eq_5, pe.eq_6, pe.eq_7, pe.eq_8, pe.eq_9, pe.eq_10, pe.eq_11, pes, pbnd, pret, startE, pprim, prim, lft, ret, a1, a2, int2, wipeE, this]⟩)
    have e4 := pe_comp (m := false) (P := pruns T (k + 2)) (r := [some (eTab cs rs), some (eRow x), none]) (c := c) (c1 := c) (its := [.var 1]) (k := .seq) (ds := [eRow x]) (by simp [FnDef.prun, poutOf, pexs, pex.eq_1, pex.eq_2, pex.eq_3, pex.eq_4, pex.eq_5, pex.eq_6, pex.eq_7, pex.eq_10, pex.eq_11, px, pxs, pe.eq_1, pe.eq_2, pe.eq_3, pe.eq_4, pe.eq_5, pe.eq_6, pe.eq_7, pe.eq_8, pe.eq_9, pe.eq_10, pe.eq_11, pes, pbnd, pret, startE, pprim, prim, lft, ret, a1, a2, int2]) rfl e3 (by simp; omega)
    have l3 : ∀ c, lenD (eRow x) [Tn c] = .ok (.int cs.length) [Tn c] := fun c => by simp [lenD, eRow, seqOf, top, q1]
    have t3 : ∀ c, isTy .tTup (eRow x) [Tn c] = some true := fun c => by simp [isTy, eRow]
    have hall : (x.map cellB).all id = true := by simpa using q2
    simp [FnDef.prun, poutOf, pexs, pex.eq_1, pex.eq_2, pex.eq_3, pex.eq_4, pex.eq_5, pex.eq_6, pex.eq_7, pex.eq_10, pex.eq_11, px, pxs, pe.eq_1, pe.eq_2, pe.eq_3, pe.eq_4, pe.eq_5, pe.eq_6, pe.eq_7, pe.eq_8, pe.eq_9, pe.eq_10, pe.eq_11, pes, pbnd, pret, startE, pprim, prim, lft, ret, a1, a2, int2, pIsi, t3, pNot, l3, i0, l1, eqH, top, pu, eqD, e4, pAll, lstOf, blsOf_map, hall]
  refine prun_ret rfl ((pexs_next (r1 := [some (eTab cs rs), none, none]) (c1 := c) ?_).trans ((pexs_next (r1 := [some (eTab cs rs), none, none]) (c1 := c) ?_).trans ((pexs_next (pex_for (ds := [eRows rs]) (c1 := c) ?_ rfl loop)).trans (pexs_ret ?_))))
  · simp [FnDef.prun, poutOf, pexs, pex.eq_1, pex.eq_2, pex.eq_3, pex.eq_4, pex.eq_5, pex.eq_6, pex.eq_7, pex.eq_10, pex.eq_11, px, pxs, pe.eq_1, pe.eq_2, pe.eq_3, pe.eq_4, pe.eq_5, pe.eq_6, pe.eq_7, pe.eq_8, pe.eq_9, pe.eq_10, pe.eq_11, pes, pbnd, pret, startE, pprim, prim, lft, ret, a1, a2, int2, pIsi, t0, pNot, lt, eqH, top, pu, eqD, i0, e1, f11_is_table]
  · simp [FnDef.prun, poutOf, pexs, pex.eq_1, pex.eq_2, pex.eq_3, pex.eq_4, pex.eq_5, pex.eq_6, pex.eq_7, pex.eq_10, pex.eq_11, px, pxs, pe.eq_1, pe.eq_2, pe.eq_3, pe.eq_4, pe.eq_5, pe.eq_6, pe.eq_7, pe.eq_8, pe.eq_9, pe.eq_10, pe.eq_11, pes, pbnd, pret, startE, pprim, prim, lft, ret, a1, a2, int2, pIsi, i1, t1, pNot, l2, g1]
  · simp [FnDef.prun, poutOf, pexs, pex.eq_1, pex.eq_2, pex.eq_3, pex.eq_4, pex.eq_5, pex.eq_6, pex.eq_7, pex.eq_10, pex.eq_11, px, pxs, pe.eq_1, pe.eq_2, pe.eq_3, pe.eq_4, pe.eq_5, pe.eq_6, pe.eq_7, pe.eq_8, pe.eq_9, pe.eq_10, pe.eq_11, pes, pbnd, pret, startE, pprim, prim, lft, ret, a1, a2, int2, i1]
  · simp [FnDef.prun, poutOf, pexs, pex.eq_1, pex.eq_2, pex.eq_3, pex.eq_4, pex.eq_5, pex.eq_6, pex.eq_7, pex.eq_10, pex.eq_11, px, pxs, pe.eq_1, pe.eq_2, pe.eq_3, pe.eq_4, pe.eq_5, pe.eq_6, pe.eq_7, pe.eq_8, pe.eq_9, pe.eq_10, pe.eq_11, pes, pbnd, pret, startE, pprim, prim, lft, ret, a1, a2, int2]
theorem P_need_table (k : Nat) (cs : List Str) (rs : List (List Str)) (h : ColsOK cs) (g : RowsOK cs.length rs) (c : Nat) : pruns T (k + 4) 12 [eTab cs rs] c = .ok .non c := by
  rw [pr_of T_12]
  have e1 := P_is_table k cs rs h g c
  simp [FnDef.prun, poutOf, pexs, pex.eq_1, pex.eq_2, pex.eq_3, pex.eq_4, pex.eq_5, pex.eq_6, pex.eq_7, pex.eq_10, pex.eq_11, px, pxs, pe.eq_1, pe.eq_2, pe.eq_3, pe.eq_4, pe.eq_5, pe.eq_6, pe.eq_7, pe.eq_8, pe.eq_9, pe.eq_10, pe.eq_11, pes, pbnd, pret, startE, pprim, prim, lft, ret, a1, a2, int2, f12_need_table, e1, pNot]
end TS

set_option Elab.async false
set_option linter.all false
set_option maxRecDepth 100000
set_option maxHeartbeats 4000000
/-! TR6: named. -/
namespace TS
open PySem
section
variable {cd : Env → PM D} {body : Env → PM Fl} {n : Nat} {r r2 : Env} {c c1 c2 : Nat}
theorem pwhile_go (e1 : cd r c = .ok (.bl true) c1) (e2 : body r c1 = .ok (.next r2) c2) : pwhileL cd body (n + 1) r c = pwhileL cd body n r2 c2 := by
  simp only [pwhileL, pbnd, e1, e2]
theorem pwhile_end (e1 : cd r c = .ok (.bl false) c1) : pwhileL cd body (n + 1) r c = .ok (.next r) c1 := by
  simp only [pwhileL, pbnd, e1, pret]
theorem pwhile_ret {d : D} (e1 : cd r c = .ok (.bl true) c1) (e2 : body r c1 = .ok (.ret d) c2) : pwhileL cd body (n + 1) r c = .ok (.ret d) c2 := by
  simp only [pwhileL, pbnd, e1, e2, pret]
end
def eN (k : Nat) : D := .int (k : Int)
def mis (here other : List Str) : List Nat := (List.range here.length).filter fun k => decide (here.getD k "" ≠ other.getD k "")
def frees (here other : List Str) : List Nat := (mis here other).filter fun k => decide (other.getD k "" ∉ here)
def nm : Nat → List Str → List Str → Option (List (Str × Str))
  | 0, _, _ => some []
  | n + 1, here, other => if mis here other = [] then some [] else match frees here other with
    | [] => none
    | a :: _ => (nm n (here.set a (other.getD a "")) other).map ((here.getD a "", other.getD a "") :: ·)
def eName (p : Str × Str) : D := .tup [.str "name", .str p.1, .str p.2]
theorem mis_set {here other : List Str} {a : Nat} (h : a ∈ mis here other) : mis (here.set a (other.getD a "")) other = (mis here other).erase a := by
  have nd : (mis here other).Nodup := List.nodup_range.sublist List.filter_sublist
  rw [List.Nodup.erase_eq_filter nd]
  unfold mis
  rw [List.length_set, List.filter_filter]
  apply List.filter_congr
  intro k hk
  have hk : k < here.length := List.mem_range.mp hk
  by_cases e : k = a
  · subst e
    simp [List.getD_eq_getElem?_getD, List.getElem?_set, hk]
  · have e' : ¬ a = k := fun z => e z.symm
    have : (here.set a (other.getD a "")).getD k "" = here.getD k "" := by
      simp [List.getD_eq_getElem?_getD, List.getElem?_set, e']
    rw [this]
    simp [e]
theorem idx_map {a : Nat} : ∀ {l : List Nat}, a ∈ l → ∃ j, (l.map eN).findIdx? (fun z => eqD z (eN a)) = some j ∧ (l.map eN).eraseIdx j = (l.erase a).map eN
  | [], h => by cases h
  | b :: l, h => by
    by_cases e : b = a
    · subst e
      exact ⟨0, by simp [List.findIdx?_cons, eqD, eN], by simp⟩
    · have h' : a ∈ l := by
        rcases List.mem_cons.mp h with q | q
        · exact absurd q.symm e
        · exact q
      obtain ⟨j, h1, h2⟩ := idx_map h'
      refine ⟨j + 1, ?_, ?_⟩
      · have : eqD (eN b) (eN a) = false := by simp [eqD, eN]; omega
        simp [List.findIdx?_cons, this, h1]
      · rw [List.erase_cons_tail (by simpa using e)]
        simp [h2]
theorem pu_eN (l : List Nat) : (l.map eN).all (pu 9) = true := by
  simp only [List.all_map, List.all_eq_true, Function.comp]
  intro x _; rfl
theorem atI_getD {l : List Str} {k : Nat} (h : k < l.length) : TS.atI (l.map D.str) (k : Int) = some (.str (l.getD k "")) := by
  simp only [TS.atI, ixN, List.length_map, show (0 : Int) ≤ (k : Int) by omega, show (k : Int) < (l.length : Int) by omega, if_true, Option.bind_some, Int.toNat_natCast]
  simp [List.getElem?_map, List.getElem?_eq_getElem h, List.getD_eq_getElem?_getD]
theorem ix_row {l : List Str} {k : Nat} (h : k < l.length) (c : Nat) : ixD (eRow l) (.int (k : Int)) [Tn c] = .ok (.str (l.getD k "")) [Tn c] := by
  simp only [ixD, eRow, seqOf, top, atI_getD h]
theorem ix_lst {l : List Str} {k : Nat} (h : k < l.length) (c : Nat) : ixD (.lst (l.map .str)) (.int (k : Int)) [Tn c] = .ok (.str (l.getD k "")) [Tn c] := by
  simp only [ixD, seqOf, top, atI_getD h]
theorem any_str (l : List Str) (x : Str) : ((l.map D.str).any fun z => eqD z (.str x)) = decide (x ∈ l) := by
  induction l with
  | nil => rfl
  | cons a l ih =>
    simp only [List.map_cons, List.any_cons, eqD, ih, List.mem_cons]
    by_cases h : a = x
    · subst h; simp
    · have h' : ¬ x = a := fun z => h z.symm
      simp [h, h']
theorem inD_strs (n : Bool) (l : List Str) (x : Str) (c : Nat) : inD n (.str x) (.lst (l.map .str)) [Tn c] = .ok (.bl (n != decide (x ∈ l))) [Tn c] := by
  simp only [inD, seqOf, top, pu_strs 9 l, any_str]
  rfl
theorem inD_row (n : Bool) (l : List Str) (x : Str) (c : Nat) : inD n (.str x) (eRow l) [Tn c] = .ok (.bl (n != decide (x ∈ l))) [Tn c] := by
  simp only [inD, eRow, seqOf, top, pu_strs 9 l, any_str]
  rfl
theorem mem_mis {here other : List Str} {k : Nat} (h : k ∈ mis here other) : k < here.length := List.mem_range.mp (List.mem_filter.mp h).1
def nmBody : List S := [(.asg 5 (.comp false (.var 6) (.one 6) .seq [(.var 4)] [(.op .nin [(.op .ix [(.op .ix [(.var 1), (.cst (.int 0))]), (.var 6)]), (.var 2)])] [6])),
  (.ite (.op .eq [(.var 5), (.op (.lst false) [])]) [(.rtn (.cst .non))] []),
  (.asg 6 (.op .ix [(.var 5), (.cst (.int 0))])),
  (.exp (.mth .append (.var 3) [(.op .tup [(.cst (.str "name")), (.op .ix [(.var 2), (.var 6)]), (.op .ix [(.op .ix [(.var 1), (.cst (.int 0))]), (.var 6)])])])),
  (.put (.var 2) (.var 6) (.op .ix [(.op .ix [(.var 1), (.cst (.int 0))]), (.var 6)])),
  (.exp (.mth .remove (.var 4) [(.var 6)]))]
theorem named_loop (k : Nat) (t0 : D) (ds : List Str) (qs : List (List Str)) (hd : ds.length ≤ 6) (c : Nat) : ∀ (n w : Nat) (here : List Str) (made : List (Str × Str)) (x5 x6 : Option D), (mis here ds).length ≤ n → n < w → here.length = ds.length → made.length + n ≤ 6 →
    (nm n here ds = none ∧ pwhileL (pe (pruns T k) (.op .ne [(.var 4), (.op (.lst false) [])])) (pexs (pruns T k) [2, 3, 4] nmBody) w [some t0, some (eTab ds qs), some (.lst (here.map .str)), some (.lst (made.map eName)), some (.lst ((mis here ds).map eN)), x5, x6] c = .ok (.ret .non) c) ∨
    (∃ l, nm n here ds = some l ∧ ∃ here' x4 y5 y6, pwhileL (pe (pruns T k) (.op .ne [(.var 4), (.op (.lst false) [])])) (pexs (pruns T k) [2, 3, 4] nmBody) w [some t0, some (eTab ds qs), some (.lst (here.map .str)), some (.lst (made.map eName)), some (.lst ((mis here ds).map eN)), x5, x6] c = .ok (.next [some t0, some (eTab ds qs), here', some (.lst ((made ++ l).map eName)), x4, y5, y6]) c) := by
  have i0 : ∀ c, ixD (eTab ds qs) (.int 0) [Tn c] = .ok (eRow ds) [Tn c] := fun c => by simp [ixD, eTab, seqOf, top, TS.atI, ixN]
  intro n
  induction n with
  | zero =>
    intro w here made x5 x6 hm hw hl hn
    have hmis : mis here ds = [] := List.length_eq_zero_iff.mp (by omega)
    obtain ⟨w, rfl⟩ : ∃ v, w = v + 1 := ⟨w - 1, by omega⟩
    refine .inr ⟨[], rfl, some (.lst (here.map .str)), some (.lst []), x5, x6, ?_⟩
    rw [hmis, List.append_nil]
    exact pwhile_end (by simp [FnDef.prun, poutOf, pexs, pex.eq_1, pex.eq_2, pex.eq_3, pex.eq_4, pex.eq_5, pex.eq_6, pex.eq_7, pex.eq_10, pex.eq_11, px, pxs, pe.eq_1, pe.eq_2, pe.eq_3, pe.eq_4, pe.eq_5, pe.eq_6, pe.eq_7, pe.eq_8, pe.eq_9, pe.eq_10, pe.eq_11, pes, pbnd, pret, startE, pprim, prim, lft, ret, a1, a2, int2, mkL, eqH, top, pu, eqD, eqDs])
  | succ n ih =>
    intro w here made x5 x6 hm hw hl hn
    obtain ⟨w, rfl⟩ : ∃ v, w = v + 1 := ⟨w - 1, by omega⟩
    by_cases hmis : mis here ds = []
    · refine .inr ⟨[], by simp [nm, hmis], some (.lst (here.map .str)), some (.lst []), x5, x6, ?_⟩
      rw [hmis, List.append_nil]
      exact pwhile_end (by simp [FnDef.prun, poutOf, pexs, pex.eq_1, pex.eq_2, pex.eq_3, pex.eq_4, pex.eq_5, pex.eq_6, pex.eq_7, pex.eq_10, pex.eq_11, px, pxs, pe.eq_1, pe.eq_2, pe.eq_3, pe.eq_4, pe.eq_5, pe.eq_6, pe.eq_7, pe.eq_8, pe.eq_9, pe.eq_10, pe.eq_11, pes, pbnd, pret, startE, pprim, prim, lft, ret, a1, a2, int2, mkL, eqH, top, pu, eqD, eqDs])
    · have go : pe (pruns T k) (.op .ne [(.var 4), (.op (.lst false) [])]) [some t0, some (eTab ds qs), some (.lst (here.map .str)), some (.lst (made.map eName)), some (.lst ((mis here ds).map eN)), x5, x6] c = .ok (.bl true) c := by
        have hp := pu_eN (mis here ds)
        cases hz : mis here ds with
        | nil => exact absurd hz hmis
        | cons a l =>
          rw [hz] at hp
          simp only [List.map_cons] at hp
          have : (eN a :: l.map eN).all (pu 8) = true := by
            simp only [List.all_cons, List.all_map, Function.comp_def, Bool.and_eq_true, List.all_eq_true]
            exact ⟨rfl, fun _ _ => rfl⟩
          simp [FnDef.prun, poutOf, pexs, pex.eq_1, pex.eq_2, pex.eq_3, pex.eq_4, pex.eq_5, pex.eq_6, pex.eq_7, pex.eq_10, pex.eq_11, px, pxs, pe.eq_1, pe.eq_2, pe.eq_3, pe.eq_4, pe.eq_5, pe.eq_6, pe.eq_7, pe.eq_8, pe.eq_9, pe.eq_10, pe.eq_11, pes, pbnd, pret, startE, pprim, prim, lft, ret, a1, a2, int2, mkL, eqH, top, pu, eqD, eqDs, this]
      have e1 := pcomp_filterT (bd := fun d => bindTg (.one 6) d (wipeE [some t0, some (eTab ds qs), some (.lst (here.map .str)), some (.lst (made.map eName)), some (.lst ((mis here ds).map eN)), x5, x6] [6])) (cond := pconds (pruns T k) [(.op .nin [(.op .ix [(.op .ix [(.var 1), (.cst (.int 0))]), (.var 6)]), (.var 2)])]) (elt := pe (pruns T k) (.var 6)) (c := c) eN (fun j => decide (ds.getD j "" ∉ here)) eN (mis here ds) (fun j hj => ⟨_, rfl, by
        have hj2 := mem_mis hj
        simp [FnDef.prun, poutOf, pexs, pex.eq_1, pex.eq_2, pex.eq_3, pex.eq_4, pex.eq_5, pex.eq_6, pex.eq_7, pex.eq_10, pex.eq_11, px, pxs, pe.eq_1, pe.eq_2, pe.eq_3, pe.eq_4, pe.eq_5, pe.eq_6, pe.eq_7, pe.eq_8, pe.eq_9, pe.eq_10, pe.eq_11, pes, pbnd, pret, startE, pprim, prim, lft, ret, a1, a2, int2, pconds, wipeE, i0, eN, ix_row (l := ds) (k := j) (by omega), inD_strs], fun _ => by simp [FnDef.prun, poutOf, pexs, pex.eq_1, pex.eq_2, pex.eq_3, pex.eq_4, pex.eq_5, pex.eq_6, pex.eq_7, pex.eq_10, pex.eq_11, px, pxs, pe.eq_1, pe.eq_2, pe.eq_3, pe.eq_4, pe.eq_5, pe.eq_6, pe.eq_7, pe.eq_8, pe.eq_9, pe.eq_10, pe.eq_11, pes, pbnd, pret, startE, pprim, prim, lft, ret, a1, a2, int2, wipeE]⟩)
      have e2 := pe_comp (m := false) (P := pruns T k) (r := [some t0, some (eTab ds qs), some (.lst (here.map .str)), some (.lst (made.map eName)), some (.lst ((mis here ds).map eN)), x5, x6]) (c := c) (c1 := c) (its := [.var 4]) (k := .seq) (ds := [.lst ((mis here ds).map eN)]) (by simp [FnDef.prun, poutOf, pexs, pex.eq_1, pex.eq_2, pex.eq_3, pex.eq_4, pex.eq_5, pex.eq_6, pex.eq_7, pex.eq_10, pex.eq_11, px, pxs, pe.eq_1, pe.eq_2, pe.eq_3, pe.eq_4, pe.eq_5, pe.eq_6, pe.eq_7, pe.eq_8, pe.eq_9, pe.eq_10, pe.eq_11, pes, pbnd, pret, startE, pprim, prim, lft, ret, a1, a2, int2]) rfl e1 (by
        have : ((mis here ds).filter fun j => decide (ds.getD j "" ∉ here)).length ≤ (mis here ds).length := List.length_filter_le _ _
        rw [List.length_map]; omega)
      have hfr : ((mis here ds).filter fun j => decide (ds.getD j "" ∉ here)) = frees here ds := rfl
      rw [hfr] at e2
      cases hf : frees here ds with
      | nil =>
        refine .inl ⟨by simp [nm, hmis, hf], pwhile_ret go ?_⟩
        rw [hf] at e2
        simp only [nmBody]
        simp [FnDef.prun, poutOf, pexs, pex.eq_1, pex.eq_2, pex.eq_3, pex.eq_4, pex.eq_5, pex.eq_6, pex.eq_7, pex.eq_10, pex.eq_11, px, pxs, pe.eq_1, pe.eq_2, pe.eq_3, pe.eq_4, pe.eq_5, pe.eq_6, pe.eq_7, pe.eq_8, pe.eq_9, pe.eq_10, pe.eq_11, pes, pbnd, pret, startE, pprim, prim, lft, ret, a1, a2, int2, e2, mkL, eqH, top, pu, eqD, eqDs]
      | cons a fs =>
        have ha : a ∈ mis here ds := (List.mem_filter.mp (by rw [← hfr] at hf; rw [hf]; exact List.mem_cons_self : a ∈ (mis here ds).filter fun j => decide (ds.getD j "" ∉ here))).1
        have hal := mem_mis ha
        have step := ih w (here.set a (ds.getD a "")) (made ++ [(here.getD a "", ds.getD a "")]) (some (.lst ((frees here ds).map eN))) (some (eN a)) (by rw [mis_set ha, List.length_erase_of_mem ha]; omega) (by omega) (by simpa using hl) (by simp; omega)
        have hbody : pexs (pruns T k) [2, 3, 4] nmBody [some t0, some (eTab ds qs), some (.lst (here.map .str)), some (.lst (made.map eName)), some (.lst ((mis here ds).map eN)), x5, x6] c = .ok (.next [some t0, some (eTab ds qs), some (.lst ((here.set a (ds.getD a "")).map .str)), some (.lst ((made ++ [(here.getD a "", ds.getD a "")]).map eName)), some (.lst ((mis (here.set a (ds.getD a "")) ds).map eN)), some (.lst ((frees here ds).map eN)), some (eN a)]) c := by
          obtain ⟨j, j1, j2⟩ := idx_map ha
          rw [hf] at e2 ⊢
          simp only [List.map_cons] at e2 ⊢
          have hpu : (eN a :: fs.map eN).all (pu 8) = true := by
            simp only [List.all_cons, List.all_map, Function.comp_def, Bool.and_eq_true, List.all_eq_true]
            exact ⟨rfl, fun _ _ => rfl⟩
          have hpm := pu_eN (mis here ds)
          have hml : made.length < 100000 := by omega
          have hix : ixN here.length (a : Int) = some a := by
            simp only [ixN, show (0 : Int) ≤ (a : Int) by omega, show (a : Int) < (here.length : Int) by omega, if_true, Int.toNat_natCast]
          have hpa : pu 9 (eN a) = true := rfl
          have hrow := fun c => ix_row (l := ds) (k := a) (by omega) c
          have hlst := fun c => ix_lst (l := here) (k := a) hal c
          have hset : (here.map D.str).set a (.str (ds.getD a "")) = (here.set a (ds.getD a "")).map .str := by rw [List.map_set]
          have h0 : ∀ c, ixD (.lst (eN a :: fs.map eN)) (.int 0) [Tn c] = .ok (eN a) [Tn c] := fun c => by simp [ixD, seqOf, top, TS.atI, ixN]
          have heN : eN a = .int (a : Int) := rfl
          have hr : ∀ c, ixD (eRow ds) (eN a) [Tn c] = .ok (.str (ds.getD a "")) [Tn c] := hrow
          have hh : ∀ c, ixD (.lst (here.map .str)) (eN a) [Tn c] = .ok (.str (here.getD a "")) [Tn c] := hlst
          refine (pexs_next (r1 := [some t0, some (eTab ds qs), some (.lst (here.map .str)), some (.lst (made.map eName)), some (.lst ((mis here ds).map eN)), some (.lst (eN a :: fs.map eN)), x6]) (c1 := c) ?_).trans ?_
          · simp [FnDef.prun, poutOf, pexs, pex.eq_1, pex.eq_2, pex.eq_3, pex.eq_4, pex.eq_5, pex.eq_6, pex.eq_7, pex.eq_10, pex.eq_11, px, pxs, pe.eq_1, pe.eq_2, pe.eq_3, pe.eq_4, pe.eq_5, pe.eq_6, pe.eq_7, pe.eq_8, pe.eq_9, pe.eq_10, pe.eq_11, pes, pbnd, pret, startE, pprim, prim, lft, ret, a1, a2, int2, e2]
          refine (pexs_next (r1 := [some t0, some (eTab ds qs), some (.lst (here.map .str)), some (.lst (made.map eName)), some (.lst ((mis here ds).map eN)), some (.lst (eN a :: fs.map eN)), x6]) (c1 := c) ?_).trans ?_
          · simp [FnDef.prun, poutOf, pexs, pex.eq_1, pex.eq_2, pex.eq_3, pex.eq_4, pex.eq_5, pex.eq_6, pex.eq_7, pex.eq_10, pex.eq_11, px, pxs, pe.eq_1, pe.eq_2, pe.eq_3, pe.eq_4, pe.eq_5, pe.eq_6, pe.eq_7, pe.eq_8, pe.eq_9, pe.eq_10, pe.eq_11, pes, pbnd, pret, startE, pprim, prim, lft, ret, a1, a2, int2, mkL, eqH, top, pu, eqD, eqDs, hpu]
          refine (pexs_next (r1 := [some t0, some (eTab ds qs), some (.lst (here.map .str)), some (.lst (made.map eName)), some (.lst ((mis here ds).map eN)), some (.lst (eN a :: fs.map eN)), some (eN a)]) (c1 := c) ?_).trans ?_
          · simp [FnDef.prun, poutOf, pexs, pex.eq_1, pex.eq_2, pex.eq_3, pex.eq_4, pex.eq_5, pex.eq_6, pex.eq_7, pex.eq_10, pex.eq_11, px, pxs, pe.eq_1, pe.eq_2, pe.eq_3, pe.eq_4, pe.eq_5, pe.eq_6, pe.eq_7, pe.eq_8, pe.eq_9, pe.eq_10, pe.eq_11, pes, pbnd, pret, startE, pprim, prim, lft, ret, a1, a2, int2, h0]
          refine (pexs_next (r1 := [some t0, some (eTab ds qs), some (.lst (here.map .str)), some (.lst ((made ++ [(here.getD a "", ds.getD a "")]).map eName)), some (.lst ((mis here ds).map eN)), some (.lst (eN a :: fs.map eN)), some (eN a)]) (c1 := c) ?_).trans ?_
          · simp [FnDef.prun, poutOf, pexs, pex.eq_1, pex.eq_2, pex.eq_3, pex.eq_4, pex.eq_5, pex.eq_6, pex.eq_7, pex.eq_10, pex.eq_11, px, pxs, pe.eq_1, pe.eq_2, pe.eq_3, pe.eq_4, pe.eq_5, pe.eq_6, pe.eq_7, pe.eq_8, pe.eq_9, pe.eq_10, pe.eq_11, pes, pbnd, pret, startE, pprim, prim, lft, ret, a1, a2, int2, isMut, okSlot, doMut, pmut, hml, mkT, i0, hr, hh, eName]
          refine (pexs_next (r1 := [some t0, some (eTab ds qs), some (.lst ((here.set a (ds.getD a "")).map .str)), some (.lst ((made ++ [(here.getD a "", ds.getD a "")]).map eName)), some (.lst ((mis here ds).map eN)), some (.lst (eN a :: fs.map eN)), some (eN a)]) (c1 := c) ?_).trans ?_
          · simp only [heN] at hr ⊢
            simp [FnDef.prun, poutOf, pexs, pex.eq_1, pex.eq_2, pex.eq_3, pex.eq_4, pex.eq_5, pex.eq_6, pex.eq_7, pex.eq_10, pex.eq_11, px, pxs, pe.eq_1, pe.eq_2, pe.eq_3, pe.eq_4, pe.eq_5, pe.eq_6, pe.eq_7, pe.eq_8, pe.eq_9, pe.eq_10, pe.eq_11, pes, pbnd, pret, startE, pprim, prim, lft, ret, a1, a2, int2, okSlot, i0, hr, doPut, hix]
          refine (pexs_next (r1 := [some t0, some (eTab ds qs), some (.lst ((here.set a (ds.getD a "")).map .str)), some (.lst ((made ++ [(here.getD a "", ds.getD a "")]).map eName)), some (.lst (((mis here ds).erase a).map eN)), some (.lst (eN a :: fs.map eN)), some (eN a)]) (c1 := c) ?_).trans ?_
          · simp [FnDef.prun, poutOf, pexs, pex.eq_1, pex.eq_2, pex.eq_3, pex.eq_4, pex.eq_5, pex.eq_6, pex.eq_7, pex.eq_10, pex.eq_11, px, pxs, pe.eq_1, pe.eq_2, pe.eq_3, pe.eq_4, pe.eq_5, pe.eq_6, pe.eq_7, pe.eq_8, pe.eq_9, pe.eq_10, pe.eq_11, pes, pbnd, pret, startE, pprim, prim, lft, ret, a1, a2, int2, isMut, okSlot, doMut, pmut, hpa, hpm, j1, j2]
          · rw [mis_set ha]; rfl
        rcases step with ⟨s1, s2⟩ | ⟨l, s1, here', x4, x5', x6', s2⟩
        · exact   .inl ⟨by rw [nm, if_neg hmis, hf]; simp only [s1, Option.map_none], (pwhile_go go hbody).trans s2⟩
        · refine .inr ⟨(here.getD a "", ds.getD a "") :: l, by rw [nm, if_neg hmis, hf]; simp only [s1, Option.map_some], here', x4, x5', x6', (pwhile_go go hbody).trans ?_⟩
          rw [s2, List.append_assoc]; rfl
def TabOK (cs : List Str) (rs : List (List Str)) : Prop := ColsOK cs ∧ RowsOK cs.length rs
def eOpt : Option (List (Str × Str)) → D
  | none => .non
  | some l => .tup (l.map eName)
def namedV (cs : List Str) (rs : List (List Str)) (ds : List Str) (qs : List (List Str)) : Option (List (Str × Str)) := if rs ≠ qs ∨ cs.length ≠ ds.length then none else nm 6 cs ds
theorem nm_len : ∀ (n : Nat) (a b : List Str) (l : List (Str × Str)), nm n a b = some l → l.length ≤ n
  | 0, a, b, l, h => by cases h; simp
  | n + 1, a, b, l, h => by
    rw [nm] at h
    split at h
    · cases h; simp
    · split at h
      · cases h
      · rename_i x _ _
        cases q : nm n (a.set x (b.getD x "")) b with
        | none => rw [q] at h; cases h
        | some m => rw [q] at h; cases h; have := nm_len n _ _ _ q; simp; omega
theorem P_named (k : Nat) (cs ds : List Str) (rs qs : List (List Str)) (h1 : TabOK cs rs) (h2 : TabOK ds qs) (c : Nat) : pruns T (k + 5) 13 [eTab cs rs, eTab ds qs] c = .ok (eOpt (namedV cs rs ds qs)) c := by
  rw [pr_of T_13]
  have e1 := P_need_table k cs rs h1.1 h1.2 c
  have e2 := P_need_table k ds qs h2.1 h2.2 c
  have hcs : cs.length ≤ 6 := h1.1.1
  have hds : ds.length ≤ 6 := h2.1.1
  have st2 : pexs (pruns T (k + 4)) (ownss f13_named.body) f13_named.body (startE 2 7 [eTab cs rs, eTab ds qs]) c = pexs (pruns T (k + 4)) (ownss f13_named.body) (f13_named.body.drop 2) (startE 2 7 [eTab cs rs, eTab ds qs]) c := by
    refine (pexs_next (r1 := startE 2 7 [eTab cs rs, eTab ds qs]) (c1 := c) ?_).trans (pexs_next (r1 := startE 2 7 [eTab cs rs, eTab ds qs]) (c1 := c) ?_)
    · simp [FnDef.prun, poutOf, pexs, pex.eq_1, pex.eq_2, pex.eq_3, pex.eq_4, pex.eq_5, pex.eq_6, pex.eq_7, pex.eq_10, pex.eq_11, px, pxs, pe.eq_1, pe.eq_2, pe.eq_3, pe.eq_4, pe.eq_5, pe.eq_6, pe.eq_7, pe.eq_8, pe.eq_9, pe.eq_10, pe.eq_11, pes, pbnd, pret, startE, pprim, prim, lft, ret, a1, a2, int2, e1]
    · simp [FnDef.prun, poutOf, pexs, pex.eq_1, pex.eq_2, pex.eq_3, pex.eq_4, pex.eq_5, pex.eq_6, pex.eq_7, pex.eq_10, pex.eq_11, px, pxs, pe.eq_1, pe.eq_2, pe.eq_3, pe.eq_4, pe.eq_5, pe.eq_6, pe.eq_7, pe.eq_8, pe.eq_9, pe.eq_10, pe.eq_11, pes, pbnd, pret, startE, pprim, prim, lft, ret, a1, a2, int2, e2]
  by_cases hb : rs ≠ qs ∨ cs.length ≠ ds.length
  · rw [namedV, if_pos hb]
    refine prun_ret rfl (st2.trans (pexs_ret ?_))
    by_cases hr : rs = qs
    · have hl : ¬ (cs.length : Int) = (ds.length : Int) := by
        rcases hb with q | q
        · exact absurd hr q
        · omega
      have hb2 : ¬ cs.length = ds.length := by omega
      simp only [decide_eq_false hl, FnDef.prun, poutOf, pexs, pex.eq_1, pex.eq_2, pex.eq_3, pex.eq_4, pex.eq_5, pex.eq_6, pex.eq_7, pex.eq_10, pex.eq_11, px, pxs, pe.eq_1, pe.eq_2, pe.eq_3, pe.eq_4, pe.eq_5, pe.eq_6, pe.eq_7, pe.eq_8, pe.eq_9, pe.eq_10, pe.eq_11, pes, pbnd, pret, startE, pprim, prim, lft, ret, a1, a2, int2, eqH_int, eqH_str, eqH_row, eqH_rows, eqH_tab, lenD_row, lenD_rows, lenD_tab, lenD_lst, lenD_tup, ix_tab0, ix_tab1, hr]
      simp [FnDef.prun, poutOf, pexs, pex.eq_1, pex.eq_2, pex.eq_3, pex.eq_4, pex.eq_5, pex.eq_6, pex.eq_7, pex.eq_10, pex.eq_11, px, pxs, pe.eq_1, pe.eq_2, pe.eq_3, pe.eq_4, pe.eq_5, pe.eq_6, pe.eq_7, pe.eq_8, pe.eq_9, pe.eq_10, pe.eq_11, pes, pbnd, pret, startE, pprim, prim, lft, ret, a1, a2, int2, eqH_int, eqH_str, eqH_row, eqH_rows, eqH_tab, lenD_row, lenD_rows, lenD_tab, lenD_lst, lenD_tup, ix_tab0, ix_tab1, hr, hb2, eOpt, decide_eq_false hl]
    · simp [FnDef.prun, poutOf, pexs, pex.eq_1, pex.eq_2, pex.eq_3, pex.eq_4, pex.eq_5, pex.eq_6, pex.eq_7, pex.eq_10, pex.eq_11, px, pxs, pe.eq_1, pe.eq_2, pe.eq_3, pe.eq_4, pe.eq_5, pe.eq_6, pe.eq_7, pe.eq_8, pe.eq_9, pe.eq_10, pe.eq_11, pes, pbnd, pret, startE, pprim, prim, lft, ret, a1, a2, int2, eqH_int, eqH_str, eqH_row, eqH_rows, eqH_tab, lenD_row, lenD_rows, lenD_tab, lenD_lst, lenD_tup, ix_tab0, ix_tab1, hr, eOpt]
  · have hr : rs = qs := by
      by_cases q : rs = qs
      · exact q
      · exact absurd (.inl q) hb
    have hl : cs.length = ds.length := by
      by_cases q : cs.length = ds.length
      · exact q
      · exact absurd (.inr q) hb
    rw [namedV, if_neg hb]
    have e3 := pcomp_filterT (bd := fun d => bindTg (.one 6) d (wipeE [some (eTab cs rs), some (eTab ds qs), some (.lst (cs.map .str)), some (.lst []), none, none, none] [6])) (cond := pconds (pruns T (k + 4)) [(.op .ne [(.op .ix [(.var 2), (.var 6)]), (.op .ix [(.op .ix [(.var 1), (.cst (.int 0))]), (.var 6)])])]) (elt := pe (pruns T (k + 4)) (.var 6)) (c := c) eN (fun j => decide (cs.getD j "" ≠ ds.getD j "")) eN (List.range cs.length) (fun j hj => ⟨_, rfl, by
      have hj : j < cs.length := List.mem_range.mp hj
      have hj2 : j < ds.length := by omega
      have q1 := fun c => ix_row hj2 c
      have q2 := fun c => ix_lst hj c
      simp only [eN]
      simp [FnDef.prun, poutOf, pexs, pex.eq_1, pex.eq_2, pex.eq_3, pex.eq_4, pex.eq_5, pex.eq_6, pex.eq_7, pex.eq_10, pex.eq_11, px, pxs, pe.eq_1, pe.eq_2, pe.eq_3, pe.eq_4, pe.eq_5, pe.eq_6, pe.eq_7, pe.eq_8, pe.eq_9, pe.eq_10, pe.eq_11, pes, pbnd, pret, startE, pprim, prim, lft, ret, a1, a2, int2, pconds, wipeE, eqH_int, eqH_str, eqH_row, eqH_rows, eqH_tab, lenD_row, lenD_rows, lenD_tab, lenD_lst, lenD_tup, ix_tab0, ix_tab1, q1, q2], fun _ => by simp [FnDef.prun, poutOf, pexs, pex.eq_1, pex.eq_2, pex.eq_3, pex.eq_4, pex.eq_5, pex.eq_6, pex.eq_7, pex.eq_10, pex.eq_11, px, pxs, pe.eq_1, pe.eq_2, pe.eq_3, pe.eq_4, pe.eq_5, pe.eq_6, pe.eq_7, pe.eq_8, pe.eq_9, pe.eq_10, pe.eq_11, pes, pbnd, pret, startE, pprim, prim, lft, ret, a1, a2, int2, wipeE]⟩)
    have e4 := pe_comp (m := true) (P := pruns T (k + 4)) (r := [some (eTab cs rs), some (eTab ds qs), some (.lst (cs.map .str)), some (.lst []), none, none, none]) (c := c) (c1 := c) (its := [(.op .len [(.var 2)])]) (k := .rng1) (ds := [.int cs.length]) (xs := (List.range cs.length).map eN) (by simp [FnDef.prun, poutOf, pexs, pex.eq_1, pex.eq_2, pex.eq_3, pex.eq_4, pex.eq_5, pex.eq_6, pex.eq_7, pex.eq_10, pex.eq_11, px, pxs, pe.eq_1, pe.eq_2, pe.eq_3, pe.eq_4, pe.eq_5, pe.eq_6, pe.eq_7, pe.eq_8, pe.eq_9, pe.eq_10, pe.eq_11, pes, pbnd, pret, startE, pprim, prim, lft, ret, a1, a2, int2, lenD, seqOf, top]) (by
        have : -100000 ≤ (cs.length : Int) ∧ (cs.length : Int) ≤ 100000 := by omega
        simp only [pitems, List.all_cons, List.all_nil, notRef, Bool.and_self, if_true, itemsOf, itR1, if_pos this, Int.toNat_natCast]
        rfl) e3 (by
        have : ((List.range cs.length).filter fun j => decide (cs.getD j "" ≠ ds.getD j "")).length ≤ (List.range cs.length).length := List.length_filter_le _ _
        rw [List.length_map]; rw [List.length_range] at this; omega)
    have hm : ((List.range cs.length).filter fun j => decide (cs.getD j "" ≠ ds.getD j "")) = mis cs ds := rfl
    rw [hm] at e4
    have hml : (mis cs ds).length ≤ 6 := by
      have : (mis cs ds).length ≤ (List.range cs.length).length := List.length_filter_le _ _
      rw [List.length_range] at this; omega
    have st : pexs (pruns T (k + 4)) (ownss f13_named.body) f13_named.body (startE 2 7 [eTab cs rs, eTab ds qs]) c = pexs (pruns T (k + 4)) [2, 3, 4] (f13_named.body.drop 6) [some (eTab cs rs), some (eTab ds qs), some (.lst (cs.map .str)), some (.lst []), some (.lst ((mis cs ds).map eN)), none, none] c := by
      refine st2.trans ((pexs_next (r1 := startE 2 7 [eTab cs rs, eTab ds qs]) (c1 := c) ?_).trans ((pexs_next (r1 := [some (eTab cs rs), some (eTab ds qs), some (.lst (cs.map .str)), none, none, none, none]) (c1 := c) ?_).trans ((pexs_next (r1 := [some (eTab cs rs), some (eTab ds qs), some (.lst (cs.map .str)), some (.lst []), none, none, none]) (c1 := c) ?_).trans (pexs_next ?_))))
      · simp [FnDef.prun, poutOf, pexs, pex.eq_1, pex.eq_2, pex.eq_3, pex.eq_4, pex.eq_5, pex.eq_6, pex.eq_7, pex.eq_10, pex.eq_11, px, pxs, pe.eq_1, pe.eq_2, pe.eq_3, pe.eq_4, pe.eq_5, pe.eq_6, pe.eq_7, pe.eq_8, pe.eq_9, pe.eq_10, pe.eq_11, pes, pbnd, pret, startE, pprim, prim, lft, ret, a1, a2, int2, eqH_int, eqH_str, eqH_row, eqH_rows, eqH_tab, lenD_row, lenD_rows, lenD_tab, lenD_lst, lenD_tup, ix_tab0, ix_tab1, hr, hl]
      · simp [FnDef.prun, poutOf, pexs, pex.eq_1, pex.eq_2, pex.eq_3, pex.eq_4, pex.eq_5, pex.eq_6, pex.eq_7, pex.eq_10, pex.eq_11, px, pxs, pe.eq_1, pe.eq_2, pe.eq_3, pe.eq_4, pe.eq_5, pe.eq_6, pe.eq_7, pe.eq_8, pe.eq_9, pe.eq_10, pe.eq_11, pes, pbnd, pret, startE, pprim, prim, lft, ret, a1, a2, int2, eqH_int, eqH_str, eqH_row, eqH_rows, eqH_tab, lenD_row, lenD_rows, lenD_tab, lenD_lst, lenD_tup, ix_tab0, ix_tab1, pList]; simp [eRow, seqOf, top, mkL, FnDef.prun, poutOf, pexs, pex.eq_1, pex.eq_2, pex.eq_3, pex.eq_4, pex.eq_5, pex.eq_6, pex.eq_7, pex.eq_10, pex.eq_11, px, pxs, pe.eq_1, pe.eq_2, pe.eq_3, pe.eq_4, pe.eq_5, pe.eq_6, pe.eq_7, pe.eq_8, pe.eq_9, pe.eq_10, pe.eq_11, pes, pbnd, pret, startE, pprim, prim, lft, ret, a1, a2, int2, show cs.length ≤ 100000 by omega]
      · simp [FnDef.prun, poutOf, pexs, pex.eq_1, pex.eq_2, pex.eq_3, pex.eq_4, pex.eq_5, pex.eq_6, pex.eq_7, pex.eq_10, pex.eq_11, px, pxs, pe.eq_1, pe.eq_2, pe.eq_3, pe.eq_4, pe.eq_5, pe.eq_6, pe.eq_7, pe.eq_8, pe.eq_9, pe.eq_10, pe.eq_11, pes, pbnd, pret, startE, pprim, prim, lft, ret, a1, a2, int2, mkL]
      · simp [FnDef.prun, poutOf, pexs, pex.eq_1, pex.eq_2, pex.eq_3, pex.eq_4, pex.eq_5, pex.eq_6, pex.eq_7, pex.eq_10, pex.eq_11, px, pxs, pe.eq_1, pe.eq_2, pe.eq_3, pe.eq_4, pe.eq_5, pe.eq_6, pe.eq_7, pe.eq_8, pe.eq_9, pe.eq_10, pe.eq_11, pes, pbnd, pret, startE, pprim, prim, lft, ret, a1, a2, int2, e4]
    have loop := named_loop (k + 4) (eTab cs rs) ds qs hds c 6 1000 cs [] none none hml (by omega) hl (by simp)
    simp only [List.map_nil] at loop
    rcases loop with ⟨n1, n2⟩ | ⟨l, n1, here', x4, y5, y6, n2⟩
    · rw [n1]
      refine prun_ret rfl (st.trans (pexs_ret ?_))
      rw [pex.eq_9]; exact n2
    · rw [n1]
      refine prun_ret rfl (st.trans ((pexs_next (r1 := [some (eTab cs rs), some (eTab ds qs), here', some (.lst (([] ++ l).map eName)), x4, y5, y6]) (c1 := c) ?_).trans (pexs_ret ?_)))
      · rw [pex.eq_9]; exact n2
      · simp [FnDef.prun, poutOf, pexs, pex.eq_1, pex.eq_2, pex.eq_3, pex.eq_4, pex.eq_5, pex.eq_6, pex.eq_7, pex.eq_10, pex.eq_11, px, pxs, pe.eq_1, pe.eq_2, pe.eq_3, pe.eq_4, pe.eq_5, pe.eq_6, pe.eq_7, pe.eq_8, pe.eq_9, pe.eq_10, pe.eq_11, pes, pbnd, pret, startE, pprim, prim, lft, ret, a1, a2, int2, pTuple, seqOf, top, eOpt]
end TS

set_option Elab.async false
set_option linter.all false
set_option maxRecDepth 100000
set_option maxHeartbeats 4000000
/-! TR7: deeds, and the columns behind them. -/
namespace TS
open PySem
inductive Deed where
  | split (x sign a b : Str) | join (x o sign n : Str) | strike (x : Str) | name (x n : Str) | move (x : Str) (p : Nat)
  | order (x : Str) | keep (x s : Str) | unlike (x : Str) | fill (x : Str) | lead (x : Str) (ps : List (Str × Str))
  deriving DecidableEq
def ePair (p : Str × Str) : D := .tup [.str p.1, .str p.2]
def eDeed : Deed → D
  | .split x s a b => .tup [.str "split", .str x, .str s, .str a, .str b]
  | .join x o s n => .tup [.str "join", .str x, .str o, .str s, .str n]
  | .strike x => .tup [.str "strike", .str x]
  | .name x n => .tup [.str "name", .str x, .str n]
  | .move x p => .tup [.str "move", .str x, .int (p : Int)]
  | .order x => .tup [.str "order", .str x]
  | .keep x s => .tup [.str "keep", .str x, .str s]
  | .unlike x => .tup [.str "unlike", .str x]
  | .fill x => .tup [.str "fill", .str x]
  | .lead x ps => .tup [.str "lead", .str x, .tup (ps.map ePair)]
def Deed.col : Deed → Str
  | .split x _ _ _ => x
  | .join x _ _ _ => x
  | .strike x => x
  | .name x _ => x
  | .move x _ => x
  | .order x => x
  | .keep x _ => x
  | .unlike x => x
  | .fill x => x
  | .lead x _ => x
def renamedV (cs : List Str) (at_ : Nat) (name : Str) (gone : Option Str) : Option (List Str) :=
  let row := (cs.zipIdx.filter fun p => !decide (some p.1 = gone) || decide (p.2 = at_)).map (·.1)
  if name ∈ row.filter (fun o => decide (o ≠ cs.getD at_ "")) then none else some (row.map fun o => if o = cs.getD at_ "" then name else o)
def restV (cs : List Str) (k : Nat) : List Str := cs.take k ++ cs.drop (k + 1)
def colsBehind (cs : List Str) (d : Deed) : Option (List Str) :=
  if d.col ∈ cs then
    let k := cs.idxOf d.col
    match d with
    | .split _ _ a b => if a = b ∨ a ∈ restV cs k ∨ b ∈ restV cs k ∨ cs.length = 6 then none else some (cs.take k ++ [a, b] ++ cs.drop (k + 1))
    | .join x o _ n => if o = x ∨ o ∉ cs then none else renamedV cs k n (some o)
    | .strike _ => some (restV cs k)
    | .name _ n => renamedV cs k n none
    | .move x p => if cs.length ≤ p then none else some ((restV cs k).take p ++ [x] ++ (restV cs k).drop p)
    | _ => some cs
  else none
def eCols : Option (List Str) → D
  | none => .non
  | some l => eRow l
section
variable {h : Hh} {n m : Bool}
theorem eqH_sn {i : Str} : eqH n (.str i) .non h = .ok (.bl (n != false)) h := by simp [eqH, top, pu, eqD]
theorem ix0 {a : D} {l : List D} : ixD (.tup (a :: l)) (.int 0) h = .ok a h := by
  simp [ixD, seqOf, top, TS.atI, ixN]
theorem ix1 {a b : D} {l : List D} : ixD (.tup (a :: b :: l)) (.int 1) h = .ok b h := by
  simp [ixD, seqOf, top, TS.atI, ixN, show (1 : Int) < (l.length : Int) + 1 + 1 by omega]
theorem ix2 {a b d : D} {l : List D} : ixD (.tup (a :: b :: d :: l)) (.int 2) h = .ok d h := by
  simp [ixD, seqOf, top, TS.atI, ixN, show (2 : Int) < (l.length : Int) + 1 + 1 + 1 by omega]
theorem ix3 {a b d e : D} {l : List D} : ixD (.tup (a :: b :: d :: e :: l)) (.int 3) h = .ok e h := by
  simp [ixD, seqOf, top, TS.atI, ixN, show (3 : Int) < (l.length : Int) + 1 + 1 + 1 + 1 by omega]
theorem ix4 {a b d e f : D} {l : List D} : ixD (.tup (a :: b :: d :: e :: f :: l)) (.int 4) h = .ok f h := by
  simp [ixD, seqOf, top, TS.atI, ixN, show (4 : Int) < (l.length : Int) + 1 + 1 + 1 + 1 + 1 by omega]
theorem lx0 {a : D} {l : List D} : ixD (.lst (a :: l)) (.int 0) h = .ok a h := by
  simp [ixD, seqOf, top, TS.atI, ixN]
theorem lx1 {a b : D} {l : List D} : ixD (.lst (a :: b :: l)) (.int 1) h = .ok b h := by
  simp [ixD, seqOf, top, TS.atI, ixN, show (1 : Int) < (l.length : Int) + 1 + 1 by omega]
theorem cut_hi {α : Type} (l : List α) (k : Nat) : cut l none (some (k : Int)) = l.take k := by
  simp only [cut, sIx, show ¬ ((k : Int) < 0) by omega, if_false, Int.toNat_natCast, Nat.sub_zero, List.drop_zero]
  rw [List.take_eq_take_iff]; omega
theorem cut_lo {α : Type} (l : List α) (k : Nat) : cut l (some (k : Int)) none = l.drop k := by
  simp only [cut, sIx, show ¬ ((k : Int) < 0) by omega, if_false, Int.toNat_natCast]
  by_cases q : k ≤ l.length
  · rw [Nat.min_eq_left q, List.take_of_length_le (by simp)]
  · rw [Nat.min_eq_right (by omega), List.drop_of_length_le (by omega), List.drop_of_length_le (by omega)]; simp
theorem slD_hi {l : List D} {k : Nat} : slD false true [.tup l, .int (k : Int)] h = .ok (.tup (l.take k)) h := by
  simp only [slD, partO, cut_hi]
theorem slD_lo {l : List D} {k : Nat} : slD true false [.tup l, .int (k : Int)] h = .ok (.tup (l.drop k)) h := by
  simp only [slD, partO, cut_lo]
theorem slRow_hi {l : List Str} {k : Nat} : slD false true [eRow l, .int (k : Int)] h = .ok (eRow (l.take k)) h := by
  simp only [eRow, slD_hi, List.map_take]
theorem slRow_lo {l : List Str} {k : Nat} : slD true false [eRow l, .int (k : Int)] h = .ok (eRow (l.drop k)) h := by
  simp only [eRow, slD_lo, List.map_drop]
theorem slRow_lo1 {l : List Str} {k : Nat} : slD true false [eRow l, .int ((k : Int) + 1)] h = .ok (eRow (l.drop (k + 1))) h := slRow_lo (k := k + 1)
theorem add_row {a b : List Str} (q : a.length + b.length ≤ 100000) : addD m (eRow a) (eRow b) h = .ok (eRow (a ++ b)) h := by
  simp [addD, eRow, mkT, q, ret]
theorem inD_row' {l : List Str} {x : Str} : inD n (.str x) (eRow l) h = .ok (.bl (n != decide (x ∈ l))) h := by
  simp only [inD, eRow, seqOf, top, pu_strs 9 l, any_str]
  rfl
theorem inD_strs' {l : List Str} {x : Str} : inD n (.str x) (.lst (l.map .str)) h = .ok (.bl (n != decide (x ∈ l))) h := by
  simp only [inD, seqOf, top, pu_strs 9 l, any_str]
  rfl
theorem find_str {x : Str} : ∀ {l : List Str}, x ∈ l → (l.map D.str).findIdx? (fun z => eqD z (.str x)) = some (l.idxOf x)
  | [], q => by cases q
  | a :: l, q => by
    by_cases e : a = x
    · subst e; simp [List.findIdx?_cons, eqD]
    · have q' : x ∈ l := by
        rcases List.mem_cons.mp q with z | z
        · exact absurd z.symm e
        · exact z
      have := find_str q'
      rw [List.map_cons, List.findIdx?_cons, this]
      simp [eqD, e, List.idxOf_cons]
      simp [List.idxOf_cons, dec_beq, e]
theorem index_row {l : List Str} {x : Str} (q : x ∈ l) : pIndex (eRow l) (.str x) h = .ok (.int (l.idxOf x : Nat)) h := by
  have e := find_str q
  simp only [pIndex, eRow, seqOf, top, pu_strs 9 l, e]
  rfl
theorem ixRow {l : List Str} {k : Nat} (q : k < l.length) : ixD (eRow l) (.int (k : Int)) h = .ok (.str (l.getD k "")) h := by
  simp only [ixD, eRow, seqOf, top, atI_getD q]
theorem tup_cons {a : D} {l : List D} : True := trivial
end
def eGone : Option Str → D
  | none => .non
  | some s => .str s
theorem zipIdx_str (l : List Str) : (l.map D.str).zipIdx.map (fun p => D.tup [.int (p.2 : Nat), p.1]) = l.zipIdx.map (fun p => D.tup [.int (p.2 : Nat), .str p.1]) := by
  rw [List.zipIdx_map, List.map_map]
  rfl
theorem P_renamed (k : Nat) (cs : List Str) (a : Nat) (name : Str) (gone : Option Str) (h1 : cs.length ≤ 1000) (ha : a < cs.length) (c : Nat) : pruns T (k + 1) 20 [eRow cs, .int (a : Int), .str name, eGone gone] c = .ok (eCols (renamedV cs a name gone)) c := by
  rw [pr_of T_20]
  have e1 := pcomp_filterT (bd := fun d => bindTg (.many [5, 6]) d (wipeE [some (eRow cs), some (.int (a : Int)), some (.str name), some (eGone gone), none, none, none] [5, 6])) (cond := pconds (pruns T k) [(.orB (.op .ne [(.var 6), (.var 3)]) (.op .eq [(.var 5), (.var 1)]))]) (elt := pe (pruns T k) (.var 6)) (c := c) (fun (p : Str × Nat) => D.tup [.int (p.2 : Nat), .str p.1]) (fun p => !decide (some p.1 = gone) || decide (p.2 = a)) (fun p => .str p.1) cs.zipIdx (fun p _ => ⟨_, rfl, by
      cases gone with
      | none => simp [FnDef.prun, poutOf, pexs, pex.eq_1, pex.eq_2, pex.eq_3, pex.eq_4, pex.eq_5, pex.eq_6, pex.eq_7, pex.eq_10, pex.eq_11, px, pxs, pe.eq_1, pe.eq_2, pe.eq_3, pe.eq_4, pe.eq_5, pe.eq_6, pe.eq_7, pe.eq_8, pe.eq_9, pe.eq_10, pe.eq_11, pes, pbnd, pret, startE, pprim, prim, lft, ret, a1, a2, int2, pconds, wipeE, eGone, eqH_sn]
      | some g =>
        by_cases q : p.1 = g
        · by_cases q2 : p.2 = a
          · simp [FnDef.prun, poutOf, pexs, pex.eq_1, pex.eq_2, pex.eq_3, pex.eq_4, pex.eq_5, pex.eq_6, pex.eq_7, pex.eq_10, pex.eq_11, px, pxs, pe.eq_1, pe.eq_2, pe.eq_3, pe.eq_4, pe.eq_5, pe.eq_6, pe.eq_7, pe.eq_8, pe.eq_9, pe.eq_10, pe.eq_11, pes, pbnd, pret, startE, pprim, prim, lft, ret, a1, a2, int2, pconds, wipeE, eGone, eqH_int, eqH_str, eqH_row, eqH_rows, eqH_tab, lenD_row, lenD_rows, lenD_tab, lenD_lst, lenD_tup, ix_tab0, ix_tab1, q, q2]
          · have q3 : ¬ ((p.2 : Int) = (a : Int)) := by omega
            simp [FnDef.prun, poutOf, pexs, pex.eq_1, pex.eq_2, pex.eq_3, pex.eq_4, pex.eq_5, pex.eq_6, pex.eq_7, pex.eq_10, pex.eq_11, px, pxs, pe.eq_1, pe.eq_2, pe.eq_3, pe.eq_4, pe.eq_5, pe.eq_6, pe.eq_7, pe.eq_8, pe.eq_9, pe.eq_10, pe.eq_11, pes, pbnd, pret, startE, pprim, prim, lft, ret, a1, a2, int2, pconds, wipeE, eGone, eqH_int, eqH_str, eqH_row, eqH_rows, eqH_tab, lenD_row, lenD_rows, lenD_tab, lenD_lst, lenD_tup, ix_tab0, ix_tab1, q, q2, decide_eq_false q3]
        · simp [FnDef.prun, poutOf, pexs, pex.eq_1, pex.eq_2, pex.eq_3, pex.eq_4, pex.eq_5, pex.eq_6, pex.eq_7, pex.eq_10, pex.eq_11, px, pxs, pe.eq_1, pe.eq_2, pe.eq_3, pe.eq_4, pe.eq_5, pe.eq_6, pe.eq_7, pe.eq_8, pe.eq_9, pe.eq_10, pe.eq_11, pes, pbnd, pret, startE, pprim, prim, lft, ret, a1, a2, int2, pconds, wipeE, eGone, eqH_int, eqH_str, eqH_row, eqH_rows, eqH_tab, lenD_row, lenD_rows, lenD_tab, lenD_lst, lenD_tup, ix_tab0, ix_tab1, q], fun _ => by simp [FnDef.prun, poutOf, pexs, pex.eq_1, pex.eq_2, pex.eq_3, pex.eq_4, pex.eq_5, pex.eq_6, pex.eq_7, pex.eq_10, pex.eq_11, px, pxs, pe.eq_1, pe.eq_2, pe.eq_3, pe.eq_4, pe.eq_5, pe.eq_6, pe.eq_7, pe.eq_8, pe.eq_9, pe.eq_10, pe.eq_11, pes, pbnd, pret, startE, pprim, prim, lft, ret, a1, a2, int2, wipeE]⟩)
  have hlen : ((cs.zipIdx.filter fun p => !decide (some p.1 = gone) || decide (p.2 = a)).map (fun p => D.str p.1)).length ≤ 1000 := by
    rw [List.length_map]
    refine Nat.le_trans (List.length_filter_le _ _) ?_
    simpa using h1
  have e2 := pe_comp (m := false) (P := pruns T k) (r := [some (eRow cs), some (.int (a : Int)), some (.str name), some (eGone gone), none, none, none]) (c := c) (c1 := c) (its := [.var 0]) (k := .enm) (ds := [eRow cs]) (by simp [FnDef.prun, poutOf, pexs, pex.eq_1, pex.eq_2, pex.eq_3, pex.eq_4, pex.eq_5, pex.eq_6, pex.eq_7, pex.eq_10, pex.eq_11, px, pxs, pe.eq_1, pe.eq_2, pe.eq_3, pe.eq_4, pe.eq_5, pe.eq_6, pe.eq_7, pe.eq_8, pe.eq_9, pe.eq_10, pe.eq_11, pes, pbnd, pret, startE, pprim, prim, lft, ret, a1, a2, int2]) (by
    simp only [pitems, List.all_cons, List.all_nil, notRef, eRow, Bool.and_self, if_true, itemsOf, itE, seqOf, top, Option.map_some]
    rw [zipIdx_str]) e1 (by omega)
  have hrow : ((cs.zipIdx.filter fun p => !decide (some p.1 = gone) || decide (p.2 = a)).map (fun p => D.str p.1)) = ((cs.zipIdx.filter fun p => !decide (some p.1 = gone) || decide (p.2 = a)).map (·.1)).map D.str := by rw [List.map_map]; rfl
  rw [hrow] at e2 hlen
  unfold renamedV
  dsimp only
  generalize (cs.zipIdx.filter fun p => !decide (some p.1 = gone) || decide (p.2 = a)).map (·.1) = row at *
  have hz : ∀ h, ixD (eRow cs) (.int (a : Int)) h = .ok (.str (cs.getD a "")) h := fun h => ixRow ha
  generalize cs.getD a "" = z at *
  have e3 := pcomp_filterT (bd := fun d => bindTg (.one 6) d (wipeE [some (eRow cs), some (.int (a : Int)), some (.str name), some (eGone gone), some (.lst (row.map .str)), none, none] [6])) (cond := pconds (pruns T k) [(.op .ne [(.var 6), (.op .ix [(.var 0), (.var 1)])])]) (elt := pe (pruns T k) (.var 6)) (c := c) D.str (fun o => decide (o ≠ z)) D.str row (fun o _ => ⟨_, rfl, by
      simp [FnDef.prun, poutOf, pexs, pex.eq_1, pex.eq_2, pex.eq_3, pex.eq_4, pex.eq_5, pex.eq_6, pex.eq_7, pex.eq_10, pex.eq_11, px, pxs, pe.eq_1, pe.eq_2, pe.eq_3, pe.eq_4, pe.eq_5, pe.eq_6, pe.eq_7, pe.eq_8, pe.eq_9, pe.eq_10, pe.eq_11, pes, pbnd, pret, startE, pprim, prim, lft, ret, a1, a2, int2, pconds, wipeE, eqH_int, eqH_str, eqH_row, eqH_rows, eqH_tab, lenD_row, lenD_rows, lenD_tab, lenD_lst, lenD_tup, ix_tab0, ix_tab1, hz], fun _ => by simp [FnDef.prun, poutOf, pexs, pex.eq_1, pex.eq_2, pex.eq_3, pex.eq_4, pex.eq_5, pex.eq_6, pex.eq_7, pex.eq_10, pex.eq_11, px, pxs, pe.eq_1, pe.eq_2, pe.eq_3, pe.eq_4, pe.eq_5, pe.eq_6, pe.eq_7, pe.eq_8, pe.eq_9, pe.eq_10, pe.eq_11, pes, pbnd, pret, startE, pprim, prim, lft, ret, a1, a2, int2, wipeE]⟩)
  have e4 := pe_comp (m := false) (P := pruns T k) (r := [some (eRow cs), some (.int (a : Int)), some (.str name), some (eGone gone), some (.lst (row.map .str)), none, none]) (c := c) (c1 := c) (its := [.var 4]) (k := .seq) (ds := [.lst (row.map .str)]) (by simp [FnDef.prun, poutOf, pexs, pex.eq_1, pex.eq_2, pex.eq_3, pex.eq_4, pex.eq_5, pex.eq_6, pex.eq_7, pex.eq_10, pex.eq_11, px, pxs, pe.eq_1, pe.eq_2, pe.eq_3, pe.eq_4, pe.eq_5, pe.eq_6, pe.eq_7, pe.eq_8, pe.eq_9, pe.eq_10, pe.eq_11, pes, pbnd, pret, startE, pprim, prim, lft, ret, a1, a2, int2]) rfl e3 (by
    rw [List.length_map] at hlen ⊢
    have := List.length_filter_le (fun o => decide (o ≠ z)) row
    omega)
  have e5 := pcomp_mapT (bd := fun d => bindTg (.one 6) d (wipeE [some (eRow cs), some (.int (a : Int)), some (.str name), some (eGone gone), some (.lst (row.map .str)), none, none] [6])) (cond := pconds (pruns T k) []) (elt := pe (pruns T k) (.op .ix [(.op (.lst false) [(.var 6), (.var 2)]), (.op .toInt [(.op .eq [(.var 6), (.op .ix [(.var 0), (.var 1)])])])])) (c := c) D.str (fun o => D.str (if o = z then name else o)) row (fun o _ => ⟨_, rfl, rfl, by
      by_cases q : o = z
      · simp only [q, if_true]
        simp [FnDef.prun, poutOf, pexs, pex.eq_1, pex.eq_2, pex.eq_3, pex.eq_4, pex.eq_5, pex.eq_6, pex.eq_7, pex.eq_10, pex.eq_11, px, pxs, pe.eq_1, pe.eq_2, pe.eq_3, pe.eq_4, pe.eq_5, pe.eq_6, pe.eq_7, pe.eq_8, pe.eq_9, pe.eq_10, pe.eq_11, pes, pbnd, pret, startE, pprim, prim, lft, ret, a1, a2, int2, wipeE, eqH_int, eqH_str, eqH_row, eqH_rows, eqH_tab, lenD_row, lenD_rows, lenD_tab, lenD_lst, lenD_tup, ix_tab0, ix_tab1, hz, mkL, pInt, lx1]
      · simp only [q, if_false]
        simp [FnDef.prun, poutOf, pexs, pex.eq_1, pex.eq_2, pex.eq_3, pex.eq_4, pex.eq_5, pex.eq_6, pex.eq_7, pex.eq_10, pex.eq_11, px, pxs, pe.eq_1, pe.eq_2, pe.eq_3, pe.eq_4, pe.eq_5, pe.eq_6, pe.eq_7, pe.eq_8, pe.eq_9, pe.eq_10, pe.eq_11, pes, pbnd, pret, startE, pprim, prim, lft, ret, a1, a2, int2, wipeE, eqH_int, eqH_str, eqH_row, eqH_rows, eqH_tab, lenD_row, lenD_rows, lenD_tab, lenD_lst, lenD_tup, ix_tab0, ix_tab1, hz, mkL, pInt, q, lx0]⟩)
  have e6 := pe_comp (m := false) (P := pruns T k) (r := [some (eRow cs), some (.int (a : Int)), some (.str name), some (eGone gone), some (.lst (row.map .str)), none, none]) (c := c) (c1 := c) (its := [.var 4]) (k := .seq) (ds := [.lst (row.map .str)]) (by simp [FnDef.prun, poutOf, pexs, pex.eq_1, pex.eq_2, pex.eq_3, pex.eq_4, pex.eq_5, pex.eq_6, pex.eq_7, pex.eq_10, pex.eq_11, px, pxs, pe.eq_1, pe.eq_2, pe.eq_3, pe.eq_4, pe.eq_5, pe.eq_6, pe.eq_7, pe.eq_8, pe.eq_9, pe.eq_10, pe.eq_11, pes, pbnd, pret, startE, pprim, prim, lft, ret, a1, a2, int2]) rfl e5 (by
    rw [List.length_map] at hlen ⊢; omega)
  have hr : (row.map fun o => D.str (if o = z then name else o)) = (row.map fun o => if o = z then name else o).map D.str := by rw [List.map_map]; rfl
  rw [hr] at e6
  clear e3 e5 hr
  generalize row.filter (fun o => decide (o ≠ z)) = fl at *
  refine prun_ret rfl ((pexs_next (r1 := [some (eRow cs), some (.int (a : Int)), some (.str name), some (eGone gone), some (.lst (row.map .str)), none, none]) (c1 := c) ?_).trans ?_)
  · simp only [f20_renamed]; simp [FnDef.prun, poutOf, pexs, pex.eq_1, pex.eq_2, pex.eq_3, pex.eq_4, pex.eq_5, pex.eq_6, pex.eq_7, pex.eq_10, pex.eq_11, px, pxs, pe.eq_1, pe.eq_2, pe.eq_3, pe.eq_4, pe.eq_5, pe.eq_6, pe.eq_7, pe.eq_8, pe.eq_9, pe.eq_10, pe.eq_11, pes, pbnd, pret, startE, pprim, prim, lft, ret, a1, a2, int2, e2]
  · by_cases q : name ∈ fl
    · rw [if_pos q]
      refine pexs_ret ?_
      simp [FnDef.prun, poutOf, pexs, pex.eq_1, pex.eq_2, pex.eq_3, pex.eq_4, pex.eq_5, pex.eq_6, pex.eq_7, pex.eq_10, pex.eq_11, px, pxs, pe.eq_1, pe.eq_2, pe.eq_3, pe.eq_4, pe.eq_5, pe.eq_6, pe.eq_7, pe.eq_8, pe.eq_9, pe.eq_10, pe.eq_11, pes, pbnd, pret, startE, pprim, prim, lft, ret, a1, a2, int2, e4, inD_strs', q, eCols]
    · rw [if_neg q]
      refine (pexs_next (r1 := [some (eRow cs), some (.int (a : Int)), some (.str name), some (eGone gone), some (.lst (row.map .str)), none, none]) (c1 := c) ?_).trans (pexs_ret ?_)
      · simp [FnDef.prun, poutOf, pexs, pex.eq_1, pex.eq_2, pex.eq_3, pex.eq_4, pex.eq_5, pex.eq_6, pex.eq_7, pex.eq_10, pex.eq_11, px, pxs, pe.eq_1, pe.eq_2, pe.eq_3, pe.eq_4, pe.eq_5, pe.eq_6, pe.eq_7, pe.eq_8, pe.eq_9, pe.eq_10, pe.eq_11, pes, pbnd, pret, startE, pprim, prim, lft, ret, a1, a2, int2, e4, inD_strs', q]
      · simp only [pex.eq_6, pe.eq_3, pes, pbnd, e6, pret, pprim, prim, lft, a1, pTuple, seqOf, top]; rfl
theorem pexs_skip {P : Nat → List D → PM D} {own : List Nat} {t : E} {a ss : List S} {r : Env} {c c1 : Nat} (e : pe P t r c = .ok (.bl false) c1) : pexs P own (.ite t a [] :: ss) r c = pexs P own ss r c1 :=
  pexs_next (by rw [pex.eq_7, pbnd_ok e]; rfl)
theorem pexs_in {P : Nat → List D → PM D} {own : List Nat} {t : E} {a b ss : List S} {r : Env} {c c1 c2 : Nat} {d : D} (e : pe P t r c = .ok (.bl true) c1) (e2 : pexs P own a r c1 = .ok (.ret d) c2) : pexs P own (.ite t a b :: ss) r c = .ok (.ret d) c2 :=
  pexs_ret (by rw [pex.eq_7, pbnd_ok e]; exact e2)
theorem wtest {P : Nat → List D → PM D} {w v : Str} {r : Env} {i c : Nat} (e : r[i]? = some (some (.str w))) : pe P (.op .eq [.var i, .cst (.str v)]) r c = .ok (.bl (decide (w = v))) c := by
  simp [FnDef.prun, poutOf, pexs, pex.eq_1, pex.eq_2, pex.eq_3, pex.eq_4, pex.eq_5, pex.eq_6, pex.eq_7, pex.eq_10, pex.eq_11, px, pxs, pe.eq_1, pe.eq_2, pe.eq_3, pe.eq_4, pe.eq_5, pe.eq_6, pe.eq_7, pe.eq_8, pe.eq_9, pe.eq_10, pe.eq_11, pes, pbnd, pret, startE, pprim, prim, lft, ret, a1, a2, int2, eqH_int, eqH_str, eqH_row, eqH_rows, eqH_tab, lenD_row, lenD_rows, lenD_tab, lenD_lst, lenD_tup, ix_tab0, ix_tab1, e]
theorem P_columns_behind (k : Nat) (cs : List Str) (d : Deed) (h1 : cs.length ≤ 1000) (c : Nat) : pruns T (k + 2) 21 [eRow cs, eDeed d] c = .ok (eCols (colsBehind cs d)) c := by
  rw [pr_of T_21]
  unfold colsBehind
  by_cases hc : d.col ∈ cs
  · rw [if_pos hc]
    have ha : cs.idxOf d.col < cs.length := List.idxOf_lt_length_of_mem hc
    have hi := fun h => index_row (h := h) hc
    have hk : kindOk .index (eRow cs) [] = true := rfl
    have hn := fun (g : Option Str) (nm : Str) => P_renamed k cs (cs.idxOf d.col) nm g h1 ha c
    have hrest : ∀ j, (cs.take j).length + (cs.drop (j + 1)).length ≤ 100000 := fun j => by simp; omega
    have hn0 : ∀ nm, pruns T (k + 1) 20 [eRow cs, .int (cs.idxOf d.col : Nat), .str nm, .non] c = .ok (eCols (renamedV cs (cs.idxOf d.col) nm none)) c := fun nm => hn none nm
    have hn1 : ∀ nm g, pruns T (k + 1) 20 [eRow cs, .int (cs.idxOf d.col : Nat), .str nm, .str g] c = .ok (eCols (renamedV cs (cs.idxOf d.col) nm (some g))) c := fun nm g => hn (some g) nm
    clear hn
    generalize hj : cs.idxOf d.col = j at *
    have add1 : ∀ h m, addD m (.int (j : Int)) (.int 1) h = .ok (.int ((j : Int) + 1)) h := fun h m => rfl
    have arest : ∀ h, addD false (eRow (cs.take j)) (eRow (cs.drop (j + 1))) h = .ok (eRow (restV cs j)) h := fun h => add_row (hrest j)
    have hw : ∃ w l, eDeed d = .tup (.str w :: .str d.col :: l) := by cases d <;> exact ⟨_, _, rfl⟩
    obtain ⟨w, l, hw⟩ := hw
    have st : pexs (pruns T (k + 1)) (ownss f21_columns_behind.body) f21_columns_behind.body (startE 2 5 [eRow cs, eDeed d]) c = pexs (pruns T (k + 1)) (ownss f21_columns_behind.body) (f21_columns_behind.body.drop 4) [some (eRow cs), some (eDeed d), some (.str w), some (.int (j : Int)), some (eRow (restV cs j))] c := by
      rw [hw]
      refine (pexs_next (r1 := [some (eRow cs), some (.tup (.str w :: .str d.col :: l)), some (.str w), none, none]) (c1 := c) ?_).trans ((pexs_skip (c1 := c) ?_).trans ((pexs_next (r1 := [some (eRow cs), some (.tup (.str w :: .str d.col :: l)), some (.str w), some (.int (j : Int)), none]) (c1 := c) ?_).trans (pexs_next ?_)))
      · simp [FnDef.prun, poutOf, pexs, pex.eq_1, pex.eq_2, pex.eq_3, pex.eq_4, pex.eq_5, pex.eq_6, pex.eq_7, pex.eq_10, pex.eq_11, px, pxs, pe.eq_1, pe.eq_2, pe.eq_3, pe.eq_4, pe.eq_5, pe.eq_6, pe.eq_7, pe.eq_8, pe.eq_9, pe.eq_10, pe.eq_11, pes, pbnd, pret, startE, pprim, prim, lft, ret, a1, a2, int2, ix0]
      · simp [FnDef.prun, poutOf, pexs, pex.eq_1, pex.eq_2, pex.eq_3, pex.eq_4, pex.eq_5, pex.eq_6, pex.eq_7, pex.eq_10, pex.eq_11, px, pxs, pe.eq_1, pe.eq_2, pe.eq_3, pe.eq_4, pe.eq_5, pe.eq_6, pe.eq_7, pe.eq_8, pe.eq_9, pe.eq_10, pe.eq_11, pes, pbnd, pret, startE, pprim, prim, lft, ret, a1, a2, int2, ix1, inD_row', hc]
      · simp [FnDef.prun, poutOf, pexs, pex.eq_1, pex.eq_2, pex.eq_3, pex.eq_4, pex.eq_5, pex.eq_6, pex.eq_7, pex.eq_10, pex.eq_11, px, pxs, pe.eq_1, pe.eq_2, pe.eq_3, pe.eq_4, pe.eq_5, pe.eq_6, pe.eq_7, pe.eq_8, pe.eq_9, pe.eq_10, pe.eq_11, pes, pbnd, pret, startE, pprim, prim, lft, ret, a1, a2, int2, hk, ix1, hi, isMut]
      · simp [FnDef.prun, poutOf, pexs, pex.eq_1, pex.eq_2, pex.eq_3, pex.eq_4, pex.eq_5, pex.eq_6, pex.eq_7, pex.eq_10, pex.eq_11, px, pxs, pe.eq_1, pe.eq_2, pe.eq_3, pe.eq_4, pe.eq_5, pe.eq_6, pe.eq_7, pe.eq_8, pe.eq_9, pe.eq_10, pe.eq_11, pes, pbnd, pret, startE, pprim, prim, lft, ret, a1, a2, int2, slRow_hi, slRow_lo1, add1, arest]
    refine prun_ret rfl (st.trans ?_)
    cases d with
    | split x s a b =>
      cases hw
      simp only [Deed.col] at *
      refine (pexs_in (by rw [wtest rfl]; rfl) ?_)
      by_cases q : a = b ∨ a ∈ restV cs j ∨ b ∈ restV cs j ∨ cs.length = 6
      · rw [if_pos q]
        refine pexs_in (c1 := c) ?_ (by simp [FnDef.prun, poutOf, pexs, pex.eq_1, pex.eq_2, pex.eq_3, pex.eq_4, pex.eq_5, pex.eq_6, pex.eq_7, pex.eq_10, pex.eq_11, px, pxs, pe.eq_1, pe.eq_2, pe.eq_3, pe.eq_4, pe.eq_5, pe.eq_6, pe.eq_7, pe.eq_8, pe.eq_9, pe.eq_10, pe.eq_11, pes, pbnd, pret, startE, pprim, prim, lft, ret, a1, a2, int2, eCols])
        by_cases q1 : a = b
        · simp [FnDef.prun, poutOf, pexs, pex.eq_1, pex.eq_2, pex.eq_3, pex.eq_4, pex.eq_5, pex.eq_6, pex.eq_7, pex.eq_10, pex.eq_11, px, pxs, pe.eq_1, pe.eq_2, pe.eq_3, pe.eq_4, pe.eq_5, pe.eq_6, pe.eq_7, pe.eq_8, pe.eq_9, pe.eq_10, pe.eq_11, pes, pbnd, pret, startE, pprim, prim, lft, ret, a1, a2, int2, eDeed, eqH_int, eqH_str, eqH_row, eqH_rows, eqH_tab, lenD_row, lenD_rows, lenD_tab, lenD_lst, lenD_tup, ix_tab0, ix_tab1, ix3, ix4, q1]
        · by_cases q2 : a ∈ restV cs j
          · simp [FnDef.prun, poutOf, pexs, pex.eq_1, pex.eq_2, pex.eq_3, pex.eq_4, pex.eq_5, pex.eq_6, pex.eq_7, pex.eq_10, pex.eq_11, px, pxs, pe.eq_1, pe.eq_2, pe.eq_3, pe.eq_4, pe.eq_5, pe.eq_6, pe.eq_7, pe.eq_8, pe.eq_9, pe.eq_10, pe.eq_11, pes, pbnd, pret, startE, pprim, prim, lft, ret, a1, a2, int2, eDeed, eqH_int, eqH_str, eqH_row, eqH_rows, eqH_tab, lenD_row, lenD_rows, lenD_tab, lenD_lst, lenD_tup, ix_tab0, ix_tab1, ix3, ix4, q1, inD_row', q2]
          · by_cases q3 : b ∈ restV cs j
            · simp [FnDef.prun, poutOf, pexs, pex.eq_1, pex.eq_2, pex.eq_3, pex.eq_4, pex.eq_5, pex.eq_6, pex.eq_7, pex.eq_10, pex.eq_11, px, pxs, pe.eq_1, pe.eq_2, pe.eq_3, pe.eq_4, pe.eq_5, pe.eq_6, pe.eq_7, pe.eq_8, pe.eq_9, pe.eq_10, pe.eq_11, pes, pbnd, pret, startE, pprim, prim, lft, ret, a1, a2, int2, eDeed, eqH_int, eqH_str, eqH_row, eqH_rows, eqH_tab, lenD_row, lenD_rows, lenD_tab, lenD_lst, lenD_tup, ix_tab0, ix_tab1, ix3, ix4, q1, inD_row', q2, q3]
            · have q4 : cs.length = 6 := by simpa [q1, q2, q3] using q
              simp [FnDef.prun, poutOf, pexs, pex.eq_1, pex.eq_2, pex.eq_3, pex.eq_4, pex.eq_5, pex.eq_6, pex.eq_7, pex.eq_10, pex.eq_11, px, pxs, pe.eq_1, pe.eq_2, pe.eq_3, pe.eq_4, pe.eq_5, pe.eq_6, pe.eq_7, pe.eq_8, pe.eq_9, pe.eq_10, pe.eq_11, pes, pbnd, pret, startE, pprim, prim, lft, ret, a1, a2, int2, eDeed, eqH_int, eqH_str, eqH_row, eqH_rows, eqH_tab, lenD_row, lenD_rows, lenD_tab, lenD_lst, lenD_tup, ix_tab0, ix_tab1, ix3, ix4, q1, inD_row', q2, q3, q4]
      · rw [if_neg q]
        simp only [not_or] at q
        have q4 : ¬ ((cs.length : Int) = 6) := by omega
        refine (pexs_skip (c1 := c) ?_).trans (pexs_ret ?_)
        · simp [FnDef.prun, poutOf, pexs, pex.eq_1, pex.eq_2, pex.eq_3, pex.eq_4, pex.eq_5, pex.eq_6, pex.eq_7, pex.eq_10, pex.eq_11, px, pxs, pe.eq_1, pe.eq_2, pe.eq_3, pe.eq_4, pe.eq_5, pe.eq_6, pe.eq_7, pe.eq_8, pe.eq_9, pe.eq_10, pe.eq_11, pes, pbnd, pret, startE, pprim, prim, lft, ret, a1, a2, int2, eDeed, eqH_int, eqH_str, eqH_row, eqH_rows, eqH_tab, lenD_row, lenD_rows, lenD_tab, lenD_lst, lenD_tup, ix_tab0, ix_tab1, ix3, ix4, q.1, inD_row', q.2.1, q.2.2.1, decide_eq_false q4]
        · have s3 : ∀ h, slD true false [.tup [.str "split", .str x, .str s, .str a, .str b], .int 3] h = .ok (eRow [a, b]) h := fun h => slD_lo (k := 3)
          have u1 : ∀ h, addD false (eRow (cs.take j)) (eRow [a, b]) h = .ok (eRow (cs.take j ++ [a, b])) h := fun h => add_row (by simp; omega)
          have u2 : ∀ h, addD false (eRow (cs.take j ++ [a, b])) (eRow (cs.drop (j + 1))) h = .ok (eRow (cs.take j ++ [a, b] ++ cs.drop (j + 1))) h := fun h => add_row (by simp; omega)
          simp [FnDef.prun, poutOf, pexs, pex.eq_1, pex.eq_2, pex.eq_3, pex.eq_4, pex.eq_5, pex.eq_6, pex.eq_7, pex.eq_10, pex.eq_11, px, pxs, pe.eq_1, pe.eq_2, pe.eq_3, pe.eq_4, pe.eq_5, pe.eq_6, pe.eq_7, pe.eq_8, pe.eq_9, pe.eq_10, pe.eq_11, pes, pbnd, pret, startE, pprim, prim, lft, ret, a1, a2, int2, eDeed, s3, slRow_hi, slRow_lo1, add1, u1, u2, eCols]
          try (simp only [List.append_assoc] at u2; simp [u2])
    | join x o s n =>
      cases hw
      simp only [Deed.col] at *
      refine (pexs_skip (by rw [wtest rfl]; simp only [show (("join" : Str) = "split") = False by decide]; rfl)).trans <| (pexs_in (by rw [wtest rfl]; rfl) ?_)
      by_cases q : o = x ∨ o ∉ cs
      · rw [if_pos q]
        refine pexs_in (c1 := c) ?_ (by simp [FnDef.prun, poutOf, pexs, pex.eq_1, pex.eq_2, pex.eq_3, pex.eq_4, pex.eq_5, pex.eq_6, pex.eq_7, pex.eq_10, pex.eq_11, px, pxs, pe.eq_1, pe.eq_2, pe.eq_3, pe.eq_4, pe.eq_5, pe.eq_6, pe.eq_7, pe.eq_8, pe.eq_9, pe.eq_10, pe.eq_11, pes, pbnd, pret, startE, pprim, prim, lft, ret, a1, a2, int2, eCols])
        by_cases q1 : o = x
        · simp [FnDef.prun, poutOf, pexs, pex.eq_1, pex.eq_2, pex.eq_3, pex.eq_4, pex.eq_5, pex.eq_6, pex.eq_7, pex.eq_10, pex.eq_11, px, pxs, pe.eq_1, pe.eq_2, pe.eq_3, pe.eq_4, pe.eq_5, pe.eq_6, pe.eq_7, pe.eq_8, pe.eq_9, pe.eq_10, pe.eq_11, pes, pbnd, pret, startE, pprim, prim, lft, ret, a1, a2, int2, eDeed, eqH_int, eqH_str, eqH_row, eqH_rows, eqH_tab, lenD_row, lenD_rows, lenD_tab, lenD_lst, lenD_tup, ix_tab0, ix_tab1, ix1, ix2, q1]
        · have q2 : o ∉ cs := by simpa [q1] using q
          simp [FnDef.prun, poutOf, pexs, pex.eq_1, pex.eq_2, pex.eq_3, pex.eq_4, pex.eq_5, pex.eq_6, pex.eq_7, pex.eq_10, pex.eq_11, px, pxs, pe.eq_1, pe.eq_2, pe.eq_3, pe.eq_4, pe.eq_5, pe.eq_6, pe.eq_7, pe.eq_8, pe.eq_9, pe.eq_10, pe.eq_11, pes, pbnd, pret, startE, pprim, prim, lft, ret, a1, a2, int2, eDeed, eqH_int, eqH_str, eqH_row, eqH_rows, eqH_tab, lenD_row, lenD_rows, lenD_tab, lenD_lst, lenD_tup, ix_tab0, ix_tab1, ix1, ix2, q1, inD_row', q2]
      · rw [if_neg q]
        simp only [not_or, Classical.not_not] at q
        refine (pexs_skip (c1 := c) ?_).trans (pexs_ret ?_)
        · simp [FnDef.prun, poutOf, pexs, pex.eq_1, pex.eq_2, pex.eq_3, pex.eq_4, pex.eq_5, pex.eq_6, pex.eq_7, pex.eq_10, pex.eq_11, px, pxs, pe.eq_1, pe.eq_2, pe.eq_3, pe.eq_4, pe.eq_5, pe.eq_6, pe.eq_7, pe.eq_8, pe.eq_9, pe.eq_10, pe.eq_11, pes, pbnd, pret, startE, pprim, prim, lft, ret, a1, a2, int2, eDeed, eqH_int, eqH_str, eqH_row, eqH_rows, eqH_tab, lenD_row, lenD_rows, lenD_tab, lenD_lst, lenD_tup, ix_tab0, ix_tab1, ix1, ix2, q.1, inD_row', q.2]
        · simp [FnDef.prun, poutOf, pexs, pex.eq_1, pex.eq_2, pex.eq_3, pex.eq_4, pex.eq_5, pex.eq_6, pex.eq_7, pex.eq_10, pex.eq_11, px, pxs, pe.eq_1, pe.eq_2, pe.eq_3, pe.eq_4, pe.eq_5, pe.eq_6, pe.eq_7, pe.eq_8, pe.eq_9, pe.eq_10, pe.eq_11, pes, pbnd, pret, startE, pprim, prim, lft, ret, a1, a2, int2, eDeed, ix4, ix2, hn1]
    | strike x =>
      cases hw
      simp only [Deed.col] at *
      refine (pexs_skip (by rw [wtest rfl]; simp only [show (("strike" : Str) = "split") = False by decide]; rfl)).trans <| (pexs_skip (by rw [wtest rfl]; simp only [show (("strike" : Str) = "join") = False by decide]; rfl)).trans <| (pexs_in (by rw [wtest rfl]; rfl) ?_)
      simp [FnDef.prun, poutOf, pexs, pex.eq_1, pex.eq_2, pex.eq_3, pex.eq_4, pex.eq_5, pex.eq_6, pex.eq_7, pex.eq_10, pex.eq_11, px, pxs, pe.eq_1, pe.eq_2, pe.eq_3, pe.eq_4, pe.eq_5, pe.eq_6, pe.eq_7, pe.eq_8, pe.eq_9, pe.eq_10, pe.eq_11, pes, pbnd, pret, startE, pprim, prim, lft, ret, a1, a2, int2, eDeed, eCols]
    | name x n =>
      cases hw
      simp only [Deed.col] at *
      refine (pexs_skip (by rw [wtest rfl]; simp only [show (("name" : Str) = "split") = False by decide]; rfl)).trans <| (pexs_skip (by rw [wtest rfl]; simp only [show (("name" : Str) = "join") = False by decide]; rfl)).trans <| (pexs_skip (by rw [wtest rfl]; simp only [show (("name" : Str) = "strike") = False by decide]; rfl)).trans <| (pexs_in (by rw [wtest rfl]; rfl) ?_)
      simp [FnDef.prun, poutOf, pexs, pex.eq_1, pex.eq_2, pex.eq_3, pex.eq_4, pex.eq_5, pex.eq_6, pex.eq_7, pex.eq_10, pex.eq_11, px, pxs, pe.eq_1, pe.eq_2, pe.eq_3, pe.eq_4, pe.eq_5, pe.eq_6, pe.eq_7, pe.eq_8, pe.eq_9, pe.eq_10, pe.eq_11, pes, pbnd, pret, startE, pprim, prim, lft, ret, a1, a2, int2, eDeed, ix2, hn0]
    | move x p =>
      cases hw
      simp only [Deed.col] at *
      refine (pexs_skip (by rw [wtest rfl]; simp only [show (("move" : Str) = "split") = False by decide]; rfl)).trans <| (pexs_skip (by rw [wtest rfl]; simp only [show (("move" : Str) = "join") = False by decide]; rfl)).trans <| (pexs_skip (by rw [wtest rfl]; simp only [show (("move" : Str) = "strike") = False by decide]; rfl)).trans <| (pexs_skip (by rw [wtest rfl]; simp only [show (("move" : Str) = "name") = False by decide]; rfl)).trans <| (pexs_in (by rw [wtest rfl]; rfl) ?_)
      have hrl : (restV cs j).length ≤ 1000 := by simp [restV]; omega
      by_cases q : cs.length ≤ p
      · rw [if_pos q]
        have q' : (cs.length : Int) ≤ (p : Int) := by omega
        exact pexs_in (c1 := c) (by simp [FnDef.prun, poutOf, pexs, pex.eq_1, pex.eq_2, pex.eq_3, pex.eq_4, pex.eq_5, pex.eq_6, pex.eq_7, pex.eq_10, pex.eq_11, px, pxs, pe.eq_1, pe.eq_2, pe.eq_3, pe.eq_4, pe.eq_5, pe.eq_6, pe.eq_7, pe.eq_8, pe.eq_9, pe.eq_10, pe.eq_11, pes, pbnd, pret, startE, pprim, prim, lft, ret, a1, a2, int2, eDeed, eqH_int, eqH_str, eqH_row, eqH_rows, eqH_tab, lenD_row, lenD_rows, lenD_tab, lenD_lst, lenD_tup, ix_tab0, ix_tab1, ix2, q]) (by simp [FnDef.prun, poutOf, pexs, pex.eq_1, pex.eq_2, pex.eq_3, pex.eq_4, pex.eq_5, pex.eq_6, pex.eq_7, pex.eq_10, pex.eq_11, px, pxs, pe.eq_1, pe.eq_2, pe.eq_3, pe.eq_4, pe.eq_5, pe.eq_6, pe.eq_7, pe.eq_8, pe.eq_9, pe.eq_10, pe.eq_11, pes, pbnd, pret, startE, pprim, prim, lft, ret, a1, a2, int2, eCols])
      · rw [if_neg q]
        have q' : ¬ (cs.length : Int) ≤ (p : Int) := by omega
        refine (pexs_skip (c1 := c) ?_).trans (pexs_ret ?_)
        · simp [FnDef.prun, poutOf, pexs, pex.eq_1, pex.eq_2, pex.eq_3, pex.eq_4, pex.eq_5, pex.eq_6, pex.eq_7, pex.eq_10, pex.eq_11, px, pxs, pe.eq_1, pe.eq_2, pe.eq_3, pe.eq_4, pe.eq_5, pe.eq_6, pe.eq_7, pe.eq_8, pe.eq_9, pe.eq_10, pe.eq_11, pes, pbnd, pret, startE, pprim, prim, lft, ret, a1, a2, int2, eDeed, eqH_int, eqH_str, eqH_row, eqH_rows, eqH_tab, lenD_row, lenD_rows, lenD_tab, lenD_lst, lenD_tup, ix_tab0, ix_tab1, ix2, q]
        · have u1 : ∀ h, addD false (eRow ((restV cs j).take p)) (.tup [.str x]) h = .ok (eRow ((restV cs j).take p ++ [x])) h := fun h => add_row (b := [x]) (by simp; omega)
          have u2 : ∀ h, addD false (eRow ((restV cs j).take p ++ [x])) (eRow ((restV cs j).drop p)) h = .ok (eRow ((restV cs j).take p ++ [x] ++ (restV cs j).drop p)) h := fun h => add_row (by simp; omega)
          simp [FnDef.prun, poutOf, pexs, pex.eq_1, pex.eq_2, pex.eq_3, pex.eq_4, pex.eq_5, pex.eq_6, pex.eq_7, pex.eq_10, pex.eq_11, px, pxs, pe.eq_1, pe.eq_2, pe.eq_3, pe.eq_4, pe.eq_5, pe.eq_6, pe.eq_7, pe.eq_8, pe.eq_9, pe.eq_10, pe.eq_11, pes, pbnd, pret, startE, pprim, prim, lft, ret, a1, a2, int2, eDeed, ix1, ix2, slRow_hi, slRow_lo, mkT, u1, u2, eCols]
          try (simp only [List.append_assoc] at u2; simp [u2])
    | order x =>
      cases hw
      refine (pexs_skip (by rw [wtest rfl]; simp only [show (("order" : Str) = "split") = False by decide]; rfl)).trans <| (pexs_skip (by rw [wtest rfl]; simp only [show (("order" : Str) = "join") = False by decide]; rfl)).trans <| (pexs_skip (by rw [wtest rfl]; simp only [show (("order" : Str) = "strike") = False by decide]; rfl)).trans <| (pexs_skip (by rw [wtest rfl]; simp only [show (("order" : Str) = "name") = False by decide]; rfl)).trans <| (pexs_skip (by rw [wtest rfl]; simp only [show (("order" : Str) = "move") = False by decide]; rfl)).trans <| (pexs_ret ?_)
      simp [FnDef.prun, poutOf, pexs, pex.eq_1, pex.eq_2, pex.eq_3, pex.eq_4, pex.eq_5, pex.eq_6, pex.eq_7, pex.eq_10, pex.eq_11, px, pxs, pe.eq_1, pe.eq_2, pe.eq_3, pe.eq_4, pe.eq_5, pe.eq_6, pe.eq_7, pe.eq_8, pe.eq_9, pe.eq_10, pe.eq_11, pes, pbnd, pret, startE, pprim, prim, lft, ret, a1, a2, int2, eDeed, eCols]
    | keep x s =>
      cases hw
      refine (pexs_skip (by rw [wtest rfl]; simp only [show (("keep" : Str) = "split") = False by decide]; rfl)).trans <| (pexs_skip (by rw [wtest rfl]; simp only [show (("keep" : Str) = "join") = False by decide]; rfl)).trans <| (pexs_skip (by rw [wtest rfl]; simp only [show (("keep" : Str) = "strike") = False by decide]; rfl)).trans <| (pexs_skip (by rw [wtest rfl]; simp only [show (("keep" : Str) = "name") = False by decide]; rfl)).trans <| (pexs_skip (by rw [wtest rfl]; simp only [show (("keep" : Str) = "move") = False by decide]; rfl)).trans <| (pexs_ret ?_)
      simp [FnDef.prun, poutOf, pexs, pex.eq_1, pex.eq_2, pex.eq_3, pex.eq_4, pex.eq_5, pex.eq_6, pex.eq_7, pex.eq_10, pex.eq_11, px, pxs, pe.eq_1, pe.eq_2, pe.eq_3, pe.eq_4, pe.eq_5, pe.eq_6, pe.eq_7, pe.eq_8, pe.eq_9, pe.eq_10, pe.eq_11, pes, pbnd, pret, startE, pprim, prim, lft, ret, a1, a2, int2, eDeed, eCols]
    | unlike x =>
      cases hw
      refine (pexs_skip (by rw [wtest rfl]; simp only [show (("unlike" : Str) = "split") = False by decide]; rfl)).trans <| (pexs_skip (by rw [wtest rfl]; simp only [show (("unlike" : Str) = "join") = False by decide]; rfl)).trans <| (pexs_skip (by rw [wtest rfl]; simp only [show (("unlike" : Str) = "strike") = False by decide]; rfl)).trans <| (pexs_skip (by rw [wtest rfl]; simp only [show (("unlike" : Str) = "name") = False by decide]; rfl)).trans <| (pexs_skip (by rw [wtest rfl]; simp only [show (("unlike" : Str) = "move") = False by decide]; rfl)).trans <| (pexs_ret ?_)
      simp [FnDef.prun, poutOf, pexs, pex.eq_1, pex.eq_2, pex.eq_3, pex.eq_4, pex.eq_5, pex.eq_6, pex.eq_7, pex.eq_10, pex.eq_11, px, pxs, pe.eq_1, pe.eq_2, pe.eq_3, pe.eq_4, pe.eq_5, pe.eq_6, pe.eq_7, pe.eq_8, pe.eq_9, pe.eq_10, pe.eq_11, pes, pbnd, pret, startE, pprim, prim, lft, ret, a1, a2, int2, eDeed, eCols]
    | fill x =>
      cases hw
      refine (pexs_skip (by rw [wtest rfl]; simp only [show (("fill" : Str) = "split") = False by decide]; rfl)).trans <| (pexs_skip (by rw [wtest rfl]; simp only [show (("fill" : Str) = "join") = False by decide]; rfl)).trans <| (pexs_skip (by rw [wtest rfl]; simp only [show (("fill" : Str) = "strike") = False by decide]; rfl)).trans <| (pexs_skip (by rw [wtest rfl]; simp only [show (("fill" : Str) = "name") = False by decide]; rfl)).trans <| (pexs_skip (by rw [wtest rfl]; simp only [show (("fill" : Str) = "move") = False by decide]; rfl)).trans <| (pexs_ret ?_)
      simp [FnDef.prun, poutOf, pexs, pex.eq_1, pex.eq_2, pex.eq_3, pex.eq_4, pex.eq_5, pex.eq_6, pex.eq_7, pex.eq_10, pex.eq_11, px, pxs, pe.eq_1, pe.eq_2, pe.eq_3, pe.eq_4, pe.eq_5, pe.eq_6, pe.eq_7, pe.eq_8, pe.eq_9, pe.eq_10, pe.eq_11, pes, pbnd, pret, startE, pprim, prim, lft, ret, a1, a2, int2, eDeed, eCols]
    | lead x ps =>
      cases hw
      refine (pexs_skip (by rw [wtest rfl]; simp only [show (("lead" : Str) = "split") = False by decide]; rfl)).trans <| (pexs_skip (by rw [wtest rfl]; simp only [show (("lead" : Str) = "join") = False by decide]; rfl)).trans <| (pexs_skip (by rw [wtest rfl]; simp only [show (("lead" : Str) = "strike") = False by decide]; rfl)).trans <| (pexs_skip (by rw [wtest rfl]; simp only [show (("lead" : Str) = "name") = False by decide]; rfl)).trans <| (pexs_skip (by rw [wtest rfl]; simp only [show (("lead" : Str) = "move") = False by decide]; rfl)).trans <| (pexs_ret ?_)
      simp [FnDef.prun, poutOf, pexs, pex.eq_1, pex.eq_2, pex.eq_3, pex.eq_4, pex.eq_5, pex.eq_6, pex.eq_7, pex.eq_10, pex.eq_11, px, pxs, pe.eq_1, pe.eq_2, pe.eq_3, pe.eq_4, pe.eq_5, pe.eq_6, pe.eq_7, pe.eq_8, pe.eq_9, pe.eq_10, pe.eq_11, pes, pbnd, pret, startE, pprim, prim, lft, ret, a1, a2, int2, eDeed, eCols]
  · rw [if_neg hc]
    have hw : ∃ w l, eDeed d = .tup (.str w :: .str d.col :: l) := by cases d <;> exact ⟨_, _, rfl⟩
    obtain ⟨w, l, hw⟩ := hw
    rw [hw]
    refine prun_ret rfl ((pexs_next (r1 := [some (eRow cs), some (.tup (.str w :: .str d.col :: l)), some (.str w), none, none]) (c1 := c) ?_).trans (pexs_in (c1 := c) ?_ (by simp [FnDef.prun, poutOf, pexs, pex.eq_1, pex.eq_2, pex.eq_3, pex.eq_4, pex.eq_5, pex.eq_6, pex.eq_7, pex.eq_10, pex.eq_11, px, pxs, pe.eq_1, pe.eq_2, pe.eq_3, pe.eq_4, pe.eq_5, pe.eq_6, pe.eq_7, pe.eq_8, pe.eq_9, pe.eq_10, pe.eq_11, pes, pbnd, pret, startE, pprim, prim, lft, ret, a1, a2, int2, eCols])))
    · simp [FnDef.prun, poutOf, pexs, pex.eq_1, pex.eq_2, pex.eq_3, pex.eq_4, pex.eq_5, pex.eq_6, pex.eq_7, pex.eq_10, pex.eq_11, px, pxs, pe.eq_1, pe.eq_2, pe.eq_3, pe.eq_4, pe.eq_5, pe.eq_6, pe.eq_7, pe.eq_8, pe.eq_9, pe.eq_10, pe.eq_11, pes, pbnd, pret, startE, pprim, prim, lft, ret, a1, a2, int2, ix0, f21_columns_behind]
    · simp [FnDef.prun, poutOf, pexs, pex.eq_1, pex.eq_2, pex.eq_3, pex.eq_4, pex.eq_5, pex.eq_6, pex.eq_7, pex.eq_10, pex.eq_11, px, pxs, pe.eq_1, pe.eq_2, pe.eq_3, pe.eq_4, pe.eq_5, pe.eq_6, pe.eq_7, pe.eq_8, pe.eq_9, pe.eq_10, pe.eq_11, pes, pbnd, pret, startE, pprim, prim, lft, ret, a1, a2, int2, eDeed, ix1, inD_row', hc]
end TS

set_option Elab.async false
set_option linter.all false
set_option maxRecDepth 100000
set_option maxHeartbeats 4000000
/-! TR8: what is a deed. -/
namespace TS
open PySem
def signB (s : Str) : Bool := cellB s && decide (s.length = 1)
def PairsOK (ps : List (Str × Str)) : Prop := ps.length ≤ 4 ∧ (∀ p ∈ ps, cellB p.1 = true ∧ cellB p.2 = true) ∧ (ps.map (·.1)).Nodup
def DeedOK : Deed → Prop
  | .split x s a b => wordB x = true ∧ signB s = true ∧ wordB a = true ∧ wordB b = true
  | .join x o s n => wordB x = true ∧ wordB o = true ∧ signB s = true ∧ wordB n = true
  | .strike x => wordB x = true
  | .name x n => wordB x = true ∧ wordB n = true
  | .move x p => wordB x = true ∧ p ≤ 5
  | .order x => wordB x = true
  | .keep x s => wordB x = true ∧ cellB s = true
  | .unlike x => wordB x = true
  | .fill x => wordB x = true
  | .lead x ps => wordB x = true ∧ PairsOK ps
theorem DeedOK.col {d : Deed} (h : DeedOK d) : wordB d.col = true := by
  cases d <;> first | exact h.1 | exact h
theorem P_word (k : Nat) {s : Str} (h : wordB s = true) (c : Nat) : pruns T (k + 1) 8 [.str s] c = .ok (.bl true) c := by
  rw [P_is_word k s (by have := wordB_len h; omega), h]
theorem P_cell (k : Nat) {s : Str} (h : cellB s = true) (c : Nat) : pruns T (k + 1) 10 [.str s] c = .ok (.bl true) c := by
  rw [P_is_cell k s (by have := cellB_len h; omega), h]
theorem P_is_sign (k : Nat) {s : Str} (h : signB s = true) (c : Nat) : pruns T (k + 2) 16 [.str s] c = .ok (.bl true) c := by
  rw [pr_of T_16]
  simp only [signB, Bool.and_eq_true, decide_eq_true_eq] at h
  have e := P_cell k h.1 c
  have hl : s.length ≤ 100000 := by omega
  simp [FnDef.prun, poutOf, pexs, pex.eq_1, pex.eq_2, pex.eq_3, pex.eq_4, pex.eq_5, pex.eq_6, pex.eq_7, pex.eq_10, pex.eq_11, px, pxs, pe.eq_1, pe.eq_2, pe.eq_3, pe.eq_4, pe.eq_5, pe.eq_6, pe.eq_7, pe.eq_8, pe.eq_9, pe.eq_10, pe.eq_11, pes, pbnd, pret, startE, pprim, prim, lft, ret, a1, a2, int2, f16_is_sign, e, truth, lenD, hl, eqH_int, h.2]
theorem P_are_pairs (k : Nat) (ps : List (Str × Str)) (h : PairsOK ps) (c : Nat) : pruns T (k + 2) 14 [.tup (ps.map ePair)] c = .ok (.bl true) c := by
  rw [pr_of T_14]
  obtain ⟨h1, h2, h3⟩ := h
  have loop : pforL (bindTg (.one 1)) (pexs (pruns T (k + 1)) (ownss f14_are_pairs.body) [(.ite (.orB (.op .not [(.op (.isi .tTup) [(.var 1)])]) (.orB (.op .ne [(.op .len [(.var 1)]), (.cst (.int 2))]) (.orB (.op .not [(.op (.call 10) [(.op .ix [(.var 1), (.cst (.int 0))])])]) (.op .not [(.op (.call 10) [(.op .ix [(.var 1), (.cst (.int 1))])])])))) [(.rtn (.cst (.bl false)))] [])]) (ps.map ePair) [some (.tup (ps.map ePair)), none] c = .ok (.next [some (.tup (ps.map ePair)), (ps.foldl (fun _ r => some (ePair r)) none)]) c := by
    refine pfor_fold ePair (fun (s : Option D) => [some (.tup (ps.map ePair)), s]) (fun _ r => some (ePair r)) ps none fun s p hp => ⟨_, rfl, ?_⟩
    obtain ⟨q1, q2⟩ := h2 p hp
    have e1 := P_cell k q1 c
    have e2 := P_cell k q2 c
    simp [FnDef.prun, poutOf, pexs, pex.eq_1, pex.eq_2, pex.eq_3, pex.eq_4, pex.eq_5, pex.eq_6, pex.eq_7, pex.eq_10, pex.eq_11, px, pxs, pe.eq_1, pe.eq_2, pe.eq_3, pe.eq_4, pe.eq_5, pe.eq_6, pe.eq_7, pe.eq_8, pe.eq_9, pe.eq_10, pe.eq_11, pes, pbnd, pret, startE, pprim, prim, lft, ret, a1, a2, int2, eqH_int, eqH_str, eqH_row, eqH_rows, eqH_tab, lenD_row, lenD_rows, lenD_tab, lenD_lst, lenD_tup, ix_tab0, ix_tab1, pIsi, isTy, ePair, pNot, ix0, ix1, e1, e2]
  generalize ps.foldl (fun _ r => some (ePair r)) none = z at *
  have e3 := pcomp_mapT (bd := fun d => bindTg (.one 1) d (wipeE [some (.tup (ps.map ePair)), z] [1])) (cond := pconds (pruns T (k + 1)) []) (elt := pe (pruns T (k + 1)) (.op .ix [(.var 1), (.cst (.int 0))])) (c := c) ePair (fun p => D.str p.1) ps (fun p _ => ⟨_, rfl, rfl, by
      simp [FnDef.prun, poutOf, pexs, pex.eq_1, pex.eq_2, pex.eq_3, pex.eq_4, pex.eq_5, pex.eq_6, pex.eq_7, pex.eq_10, pex.eq_11, px, pxs, pe.eq_1, pe.eq_2, pe.eq_3, pe.eq_4, pe.eq_5, pe.eq_6, pe.eq_7, pe.eq_8, pe.eq_9, pe.eq_10, pe.eq_11, pes, pbnd, pret, startE, pprim, prim, lft, ret, a1, a2, int2, wipeE, ePair, ix0]⟩)
  have hm : (ps.map fun p => D.str p.1) = (ps.map (·.1)).map D.str := by rw [List.map_map]; rfl
  have e4 := pe_comp (m := false) (P := pruns T (k + 1)) (r := [some (.tup (ps.map ePair)), z]) (c := c) (c1 := c) (its := [.var 0]) (k := .seq) (ds := [.tup (ps.map ePair)]) (by simp [FnDef.prun, poutOf, pexs, pex.eq_1, pex.eq_2, pex.eq_3, pex.eq_4, pex.eq_5, pex.eq_6, pex.eq_7, pex.eq_10, pex.eq_11, px, pxs, pe.eq_1, pe.eq_2, pe.eq_3, pe.eq_4, pe.eq_5, pe.eq_6, pe.eq_7, pe.eq_8, pe.eq_9, pe.eq_10, pe.eq_11, pes, pbnd, pret, startE, pprim, prim, lft, ret, a1, a2, int2]) rfl e3 (by simp; omega)
  rw [hm] at e4
  have hset : ∀ c, pLenset (.lst ((ps.map (·.1)).map D.str)) [Tn c] = .ok (.int ps.length) [Tn c] := fun c => by
    simp only [pLenset, seqOf, top, Option.bind_some, strsOf_map, dedup_nd h3, List.length_map, if_pos (show ps.length < 1000 by omega)]
  have g1 : ¬ (4 : Int) < (ps.length : Int) := by omega
  refine prun_ret rfl ((pexs_skip (c1 := c) ?_).trans ((pexs_next (pex_for (ds := [.tup (ps.map ePair)]) (c1 := c) ?_ rfl loop)).trans (pexs_ret ?_)))
  · simp [FnDef.prun, poutOf, pexs, pex.eq_1, pex.eq_2, pex.eq_3, pex.eq_4, pex.eq_5, pex.eq_6, pex.eq_7, pex.eq_10, pex.eq_11, px, pxs, pe.eq_1, pe.eq_2, pe.eq_3, pe.eq_4, pe.eq_5, pe.eq_6, pe.eq_7, pe.eq_8, pe.eq_9, pe.eq_10, pe.eq_11, pes, pbnd, pret, startE, pprim, prim, lft, ret, a1, a2, int2, eqH_int, eqH_str, eqH_row, eqH_rows, eqH_tab, lenD_row, lenD_rows, lenD_tab, lenD_lst, lenD_tup, ix_tab0, ix_tab1, pIsi, isTy, pNot, g1, f14_are_pairs]
  · simp [FnDef.prun, poutOf, pexs, pex.eq_1, pex.eq_2, pex.eq_3, pex.eq_4, pex.eq_5, pex.eq_6, pex.eq_7, pex.eq_10, pex.eq_11, px, pxs, pe.eq_1, pe.eq_2, pe.eq_3, pe.eq_4, pe.eq_5, pe.eq_6, pe.eq_7, pe.eq_8, pe.eq_9, pe.eq_10, pe.eq_11, pes, pbnd, pret, startE, pprim, prim, lft, ret, a1, a2, int2, f14_are_pairs]
  · clear hm e3
    generalize (ps.map (·.1)).map D.str = fl at *
    simp [FnDef.prun, poutOf, pexs, pex.eq_1, pex.eq_2, pex.eq_3, pex.eq_4, pex.eq_5, pex.eq_6, pex.eq_7, pex.eq_10, pex.eq_11, px, pxs, pe.eq_1, pe.eq_2, pe.eq_3, pe.eq_4, pe.eq_5, pe.eq_6, pe.eq_7, pe.eq_8, pe.eq_9, pe.eq_10, pe.eq_11, pes, pbnd, pret, startE, pprim, prim, lft, ret, a1, a2, int2, e4, hset, eqH_int, eqH_str, eqH_row, eqH_rows, eqH_tab, lenD_row, lenD_rows, lenD_tab, lenD_lst, lenD_tup, ix_tab0, ix_tab1]
theorem P_is_whole (k : Nat) (p : Nat) (h : p ≤ 5) (c : Nat) : pruns T (k + 1) 15 [.int (p : Int), .int 0, .int 5] c = .ok (.bl true) c := by
  rw [pr_of T_15]
  have h1 : (p : Int) ≤ 5 := by omega
  simp [FnDef.prun, poutOf, pexs, pex.eq_1, pex.eq_2, pex.eq_3, pex.eq_4, pex.eq_5, pex.eq_6, pex.eq_7, pex.eq_10, pex.eq_11, px, pxs, pe.eq_1, pe.eq_2, pe.eq_3, pe.eq_4, pe.eq_5, pe.eq_6, pe.eq_7, pe.eq_8, pe.eq_9, pe.eq_10, pe.eq_11, pes, pbnd, pret, startE, pprim, prim, lft, ret, a1, a2, int2, f15_is_whole, pIsi, isTy, truth, pNot, h1]
theorem P_is_deed (k : Nat) (d : Deed) (h : DeedOK d) (c : Nat) : pruns T (k + 3) 17 [eDeed d] c = .ok (.bl true) c := by
  rw [pr_of T_17]
  have ew := P_word (k + 1) h.col c
  have hw : ∃ w l, eDeed d = .tup (.str w :: .str d.col :: l) := by cases d <;> exact ⟨_, _, rfl⟩
  obtain ⟨w, l, hw⟩ := hw
  have hg : ∀ h, pGget [(Str.ofString "split", 5), (Str.ofString "join", 5), (Str.ofString "strike", 2), (Str.ofString "name", 3), (Str.ofString "order", 2), (Str.ofString "keep", 3), (Str.ofString "fill", 2), (Str.ofString "lead", 3), (Str.ofString "move", 3), (Str.ofString "unlike", 2)] (.str w) (.int 0) h = .ok (.int ((l.length : Nat) + 2)) h := fun h => by
    cases d <;> (cases hw; rfl)
  have st : pexs (pruns T (k + 2)) (ownss f17_is_deed.body) f17_is_deed.body (startE 1 1 [eDeed d]) c = pexs (pruns T (k + 2)) (ownss f17_is_deed.body) (f17_is_deed.body.drop 2) [some (eDeed d)] c := by
    rw [hw]
    have g0 : ¬ ((l.length : Int) + 1 + 1 < 2) := by omega
    have g1 : (l.length : Int) + 1 + 1 = (l.length : Int) + 2 := by omega
    refine (pexs_skip (c1 := c) ?_).trans (pexs_skip (c1 := c) ?_)
    · simp [FnDef.prun, poutOf, pexs, pex.eq_1, pex.eq_2, pex.eq_3, pex.eq_4, pex.eq_5, pex.eq_6, pex.eq_7, pex.eq_10, pex.eq_11, px, pxs, pe.eq_1, pe.eq_2, pe.eq_3, pe.eq_4, pe.eq_5, pe.eq_6, pe.eq_7, pe.eq_8, pe.eq_9, pe.eq_10, pe.eq_11, pes, pbnd, pret, startE, pprim, prim, lft, ret, a1, a2, int2, eqH_int, eqH_str, eqH_row, eqH_rows, eqH_tab, lenD_row, lenD_rows, lenD_tab, lenD_lst, lenD_tup, ix_tab0, ix_tab1, pIsi, isTy, pNot, ix0, g0]
    · simp [FnDef.prun, poutOf, pexs, pex.eq_1, pex.eq_2, pex.eq_3, pex.eq_4, pex.eq_5, pex.eq_6, pex.eq_7, pex.eq_10, pex.eq_11, px, pxs, pe.eq_1, pe.eq_2, pe.eq_3, pe.eq_4, pe.eq_5, pe.eq_6, pe.eq_7, pe.eq_8, pe.eq_9, pe.eq_10, pe.eq_11, pes, pbnd, pret, startE, pprim, prim, lft, ret, a1, a2, int2, eqH_int, eqH_str, eqH_row, eqH_rows, eqH_tab, lenD_row, lenD_rows, lenD_tab, lenD_lst, lenD_tup, ix_tab0, ix_tab1, ix0, ix1, hg, g1, ew, pNot]
  refine prun_ret rfl (st.trans ?_)
  clear st hg
  have wt : ∀ (v : Str) , pe (pruns T (k + 2)) (.op .eq [(.op .ix [(.var 0), (.cst (.int 0))]), (.cst (.str v))]) [some (eDeed d)] c = .ok (.bl (decide (w = v))) c := fun v => by
    rw [hw]; simp [FnDef.prun, poutOf, pexs, pex.eq_1, pex.eq_2, pex.eq_3, pex.eq_4, pex.eq_5, pex.eq_6, pex.eq_7, pex.eq_10, pex.eq_11, px, pxs, pe.eq_1, pe.eq_2, pe.eq_3, pe.eq_4, pe.eq_5, pe.eq_6, pe.eq_7, pe.eq_8, pe.eq_9, pe.eq_10, pe.eq_11, pes, pbnd, pret, startE, pprim, prim, lft, ret, a1, a2, int2, ix0, eqH_int, eqH_str, eqH_row, eqH_rows, eqH_tab, lenD_row, lenD_rows, lenD_tab, lenD_lst, lenD_tup, ix_tab0, ix_tab1]
  cases d with
  | split x s a b =>
    cases hw
    refine (pexs_in (c1 := c) (by rw [wt]; rfl) ?_)
    obtain ⟨q1, q2, q3, q4⟩ := h
    have e2 := P_is_sign k q2 c
    have e3 := P_word (k + 1) q3 c
    have e4 := P_word (k + 1) q4 c
    simp [FnDef.prun, poutOf, pexs, pex.eq_1, pex.eq_2, pex.eq_3, pex.eq_4, pex.eq_5, pex.eq_6, pex.eq_7, pex.eq_10, pex.eq_11, px, pxs, pe.eq_1, pe.eq_2, pe.eq_3, pe.eq_4, pe.eq_5, pe.eq_6, pe.eq_7, pe.eq_8, pe.eq_9, pe.eq_10, pe.eq_11, pes, pbnd, pret, startE, pprim, prim, lft, ret, a1, a2, int2, eDeed, ix2, ix3, ix4, e2, e3, e4, truth]
  | join x o s n =>
    cases hw
    refine (pexs_skip (c1 := c) (by rw [wt]; simp only [show (("join" : Str) = "split") = False by decide]; rfl)).trans <| (pexs_in (c1 := c) (by rw [wt]; rfl) ?_)
    obtain ⟨q1, q2, q3, q4⟩ := h
    have e2 := P_word (k + 1) q2 c
    have e3 := P_is_sign k q3 c
    have e4 := P_word (k + 1) q4 c
    simp [FnDef.prun, poutOf, pexs, pex.eq_1, pex.eq_2, pex.eq_3, pex.eq_4, pex.eq_5, pex.eq_6, pex.eq_7, pex.eq_10, pex.eq_11, px, pxs, pe.eq_1, pe.eq_2, pe.eq_3, pe.eq_4, pe.eq_5, pe.eq_6, pe.eq_7, pe.eq_8, pe.eq_9, pe.eq_10, pe.eq_11, pes, pbnd, pret, startE, pprim, prim, lft, ret, a1, a2, int2, eDeed, ix2, ix3, ix4, e2, e3, e4, truth]
  | name x n =>
    cases hw
    refine (pexs_skip (c1 := c) (by rw [wt]; simp only [show (("name" : Str) = "split") = False by decide]; rfl)).trans <| (pexs_skip (c1 := c) (by rw [wt]; simp only [show (("name" : Str) = "join") = False by decide]; rfl)).trans <| (pexs_in (c1 := c) (by rw [wt]; rfl) ?_)
    have e2 := P_word (k + 1) h.2 c
    simp [FnDef.prun, poutOf, pexs, pex.eq_1, pex.eq_2, pex.eq_3, pex.eq_4, pex.eq_5, pex.eq_6, pex.eq_7, pex.eq_10, pex.eq_11, px, pxs, pe.eq_1, pe.eq_2, pe.eq_3, pe.eq_4, pe.eq_5, pe.eq_6, pe.eq_7, pe.eq_8, pe.eq_9, pe.eq_10, pe.eq_11, pes, pbnd, pret, startE, pprim, prim, lft, ret, a1, a2, int2, eDeed, ix2, e2]
  | keep x s =>
    cases hw
    refine (pexs_skip (c1 := c) (by rw [wt]; simp only [show (("keep" : Str) = "split") = False by decide]; rfl)).trans <| (pexs_skip (c1 := c) (by rw [wt]; simp only [show (("keep" : Str) = "join") = False by decide]; rfl)).trans <| (pexs_skip (c1 := c) (by rw [wt]; simp only [show (("keep" : Str) = "name") = False by decide]; rfl)).trans <| (pexs_in (c1 := c) (by rw [wt]; rfl) ?_)
    have e2 := P_cell (k + 1) h.2 c
    simp [FnDef.prun, poutOf, pexs, pex.eq_1, pex.eq_2, pex.eq_3, pex.eq_4, pex.eq_5, pex.eq_6, pex.eq_7, pex.eq_10, pex.eq_11, px, pxs, pe.eq_1, pe.eq_2, pe.eq_3, pe.eq_4, pe.eq_5, pe.eq_6, pe.eq_7, pe.eq_8, pe.eq_9, pe.eq_10, pe.eq_11, pes, pbnd, pret, startE, pprim, prim, lft, ret, a1, a2, int2, eDeed, ix2, e2]
  | lead x ps =>
    cases hw
    refine (pexs_skip (c1 := c) (by rw [wt]; simp only [show (("lead" : Str) = "split") = False by decide]; rfl)).trans <| (pexs_skip (c1 := c) (by rw [wt]; simp only [show (("lead" : Str) = "join") = False by decide]; rfl)).trans <| (pexs_skip (c1 := c) (by rw [wt]; simp only [show (("lead" : Str) = "name") = False by decide]; rfl)).trans <| (pexs_skip (c1 := c) (by rw [wt]; simp only [show (("lead" : Str) = "keep") = False by decide]; rfl)).trans <| (pexs_in (c1 := c) (by rw [wt]; rfl) ?_)
    have e2 := P_are_pairs k ps h.2 c
    simp [FnDef.prun, poutOf, pexs, pex.eq_1, pex.eq_2, pex.eq_3, pex.eq_4, pex.eq_5, pex.eq_6, pex.eq_7, pex.eq_10, pex.eq_11, px, pxs, pe.eq_1, pe.eq_2, pe.eq_3, pe.eq_4, pe.eq_5, pe.eq_6, pe.eq_7, pe.eq_8, pe.eq_9, pe.eq_10, pe.eq_11, pes, pbnd, pret, startE, pprim, prim, lft, ret, a1, a2, int2, eDeed, ix2, e2]
  | strike x =>
    cases hw
    refine (pexs_skip (c1 := c) (by rw [wt]; simp only [show (("strike" : Str) = "split") = False by decide]; rfl)).trans <| (pexs_skip (c1 := c) (by rw [wt]; simp only [show (("strike" : Str) = "join") = False by decide]; rfl)).trans <| (pexs_skip (c1 := c) (by rw [wt]; simp only [show (("strike" : Str) = "name") = False by decide]; rfl)).trans <| (pexs_skip (c1 := c) (by rw [wt]; simp only [show (("strike" : Str) = "keep") = False by decide]; rfl)).trans <| (pexs_skip (c1 := c) (by rw [wt]; simp only [show (("strike" : Str) = "lead") = False by decide]; rfl)).trans <| (pexs_ret ?_)
    simp [FnDef.prun, poutOf, pexs, pex.eq_1, pex.eq_2, pex.eq_3, pex.eq_4, pex.eq_5, pex.eq_6, pex.eq_7, pex.eq_10, pex.eq_11, px, pxs, pe.eq_1, pe.eq_2, pe.eq_3, pe.eq_4, pe.eq_5, pe.eq_6, pe.eq_7, pe.eq_8, pe.eq_9, pe.eq_10, pe.eq_11, pes, pbnd, pret, startE, pprim, prim, lft, ret, a1, a2, int2, eDeed, ix0, eqH_int, eqH_str, eqH_row, eqH_rows, eqH_tab, lenD_row, lenD_rows, lenD_tab, lenD_lst, lenD_tup, ix_tab0, ix_tab1, truth, show (("strike" : Str) = "move") = False by decide]
  | order x =>
    cases hw
    refine (pexs_skip (c1 := c) (by rw [wt]; simp only [show (("order" : Str) = "split") = False by decide]; rfl)).trans <| (pexs_skip (c1 := c) (by rw [wt]; simp only [show (("order" : Str) = "join") = False by decide]; rfl)).trans <| (pexs_skip (c1 := c) (by rw [wt]; simp only [show (("order" : Str) = "name") = False by decide]; rfl)).trans <| (pexs_skip (c1 := c) (by rw [wt]; simp only [show (("order" : Str) = "keep") = False by decide]; rfl)).trans <| (pexs_skip (c1 := c) (by rw [wt]; simp only [show (("order" : Str) = "lead") = False by decide]; rfl)).trans <| (pexs_ret ?_)
    simp [FnDef.prun, poutOf, pexs, pex.eq_1, pex.eq_2, pex.eq_3, pex.eq_4, pex.eq_5, pex.eq_6, pex.eq_7, pex.eq_10, pex.eq_11, px, pxs, pe.eq_1, pe.eq_2, pe.eq_3, pe.eq_4, pe.eq_5, pe.eq_6, pe.eq_7, pe.eq_8, pe.eq_9, pe.eq_10, pe.eq_11, pes, pbnd, pret, startE, pprim, prim, lft, ret, a1, a2, int2, eDeed, ix0, eqH_int, eqH_str, eqH_row, eqH_rows, eqH_tab, lenD_row, lenD_rows, lenD_tab, lenD_lst, lenD_tup, ix_tab0, ix_tab1, truth, show (("order" : Str) = "move") = False by decide]
  | unlike x =>
    cases hw
    refine (pexs_skip (c1 := c) (by rw [wt]; simp only [show (("unlike" : Str) = "split") = False by decide]; rfl)).trans <| (pexs_skip (c1 := c) (by rw [wt]; simp only [show (("unlike" : Str) = "join") = False by decide]; rfl)).trans <| (pexs_skip (c1 := c) (by rw [wt]; simp only [show (("unlike" : Str) = "name") = False by decide]; rfl)).trans <| (pexs_skip (c1 := c) (by rw [wt]; simp only [show (("unlike" : Str) = "keep") = False by decide]; rfl)).trans <| (pexs_skip (c1 := c) (by rw [wt]; simp only [show (("unlike" : Str) = "lead") = False by decide]; rfl)).trans <| (pexs_ret ?_)
    simp [FnDef.prun, poutOf, pexs, pex.eq_1, pex.eq_2, pex.eq_3, pex.eq_4, pex.eq_5, pex.eq_6, pex.eq_7, pex.eq_10, pex.eq_11, px, pxs, pe.eq_1, pe.eq_2, pe.eq_3, pe.eq_4, pe.eq_5, pe.eq_6, pe.eq_7, pe.eq_8, pe.eq_9, pe.eq_10, pe.eq_11, pes, pbnd, pret, startE, pprim, prim, lft, ret, a1, a2, int2, eDeed, ix0, eqH_int, eqH_str, eqH_row, eqH_rows, eqH_tab, lenD_row, lenD_rows, lenD_tab, lenD_lst, lenD_tup, ix_tab0, ix_tab1, truth, show (("unlike" : Str) = "move") = False by decide]
  | fill x =>
    cases hw
    refine (pexs_skip (c1 := c) (by rw [wt]; simp only [show (("fill" : Str) = "split") = False by decide]; rfl)).trans <| (pexs_skip (c1 := c) (by rw [wt]; simp only [show (("fill" : Str) = "join") = False by decide]; rfl)).trans <| (pexs_skip (c1 := c) (by rw [wt]; simp only [show (("fill" : Str) = "name") = False by decide]; rfl)).trans <| (pexs_skip (c1 := c) (by rw [wt]; simp only [show (("fill" : Str) = "keep") = False by decide]; rfl)).trans <| (pexs_skip (c1 := c) (by rw [wt]; simp only [show (("fill" : Str) = "lead") = False by decide]; rfl)).trans <| (pexs_ret ?_)
    simp [FnDef.prun, poutOf, pexs, pex.eq_1, pex.eq_2, pex.eq_3, pex.eq_4, pex.eq_5, pex.eq_6, pex.eq_7, pex.eq_10, pex.eq_11, px, pxs, pe.eq_1, pe.eq_2, pe.eq_3, pe.eq_4, pe.eq_5, pe.eq_6, pe.eq_7, pe.eq_8, pe.eq_9, pe.eq_10, pe.eq_11, pes, pbnd, pret, startE, pprim, prim, lft, ret, a1, a2, int2, eDeed, ix0, eqH_int, eqH_str, eqH_row, eqH_rows, eqH_tab, lenD_row, lenD_rows, lenD_tab, lenD_lst, lenD_tup, ix_tab0, ix_tab1, truth, show (("fill" : Str) = "move") = False by decide]
  | move x p =>
    cases hw
    refine (pexs_skip (c1 := c) (by rw [wt]; simp only [show (("move" : Str) = "split") = False by decide]; rfl)).trans <| (pexs_skip (c1 := c) (by rw [wt]; simp only [show (("move" : Str) = "join") = False by decide]; rfl)).trans <| (pexs_skip (c1 := c) (by rw [wt]; simp only [show (("move" : Str) = "name") = False by decide]; rfl)).trans <| (pexs_skip (c1 := c) (by rw [wt]; simp only [show (("move" : Str) = "keep") = False by decide]; rfl)).trans <| (pexs_skip (c1 := c) (by rw [wt]; simp only [show (("move" : Str) = "lead") = False by decide]; rfl)).trans <| (pexs_ret ?_)
    have e2 := P_is_whole (k + 1) p h.2 c
    simp [FnDef.prun, poutOf, pexs, pex.eq_1, pex.eq_2, pex.eq_3, pex.eq_4, pex.eq_5, pex.eq_6, pex.eq_7, pex.eq_10, pex.eq_11, px, pxs, pe.eq_1, pe.eq_2, pe.eq_3, pe.eq_4, pe.eq_5, pe.eq_6, pe.eq_7, pe.eq_8, pe.eq_9, pe.eq_10, pe.eq_11, pes, pbnd, pret, startE, pprim, prim, lft, ret, a1, a2, int2, eDeed, ix0, ix2, eqH_int, eqH_str, eqH_row, eqH_rows, eqH_tab, lenD_row, lenD_rows, lenD_tab, lenD_lst, lenD_tup, ix_tab0, ix_tab1, truth, e2]
end TS

set_option Elab.async false
set_option linter.all false
set_option maxRecDepth 100000
set_option maxHeartbeats 4000000
/-! TR9: deeds done. -/
namespace TS
open PySem
abbrev Tab := List Str × List (List Str)
def eT (t : Tab) : D := eTab t.1 t.2
theorem P_are_deeds (k : Nat) (ds : List Deed) (h : ∀ d ∈ ds, DeedOK d) (hl : ds.length ≤ 12) (c : Nat) : pruns T (k + 4) 18 [.tup (ds.map eDeed)] c = .ok (.bl true) c := by
  rw [pr_of T_18]
  have e1 := pcomp_mapT (bd := fun d => bindTg (.one 1) d (wipeE [some (.tup (ds.map eDeed)), none] [1])) (cond := pconds (pruns T (k + 3)) []) (elt := pe (pruns T (k + 3)) (.op (.call 17) [(.var 1)])) (c := c) eDeed (fun _ => D.bl true) ds (fun d hd => ⟨_, rfl, rfl, by
      have := P_is_deed k d (h d hd) c
      simp [FnDef.prun, poutOf, pexs, pex.eq_1, pex.eq_2, pex.eq_3, pex.eq_4, pex.eq_5, pex.eq_6, pex.eq_7, pex.eq_10, pex.eq_11, px, pxs, pe.eq_1, pe.eq_2, pe.eq_3, pe.eq_4, pe.eq_5, pe.eq_6, pe.eq_7, pe.eq_8, pe.eq_9, pe.eq_10, pe.eq_11, pes, pbnd, pret, startE, pprim, prim, lft, ret, a1, a2, int2, wipeE, this]⟩)
  have e2 := pe_comp (m := false) (P := pruns T (k + 3)) (r := [some (.tup (ds.map eDeed)), none]) (c := c) (c1 := c) (its := [.var 0]) (k := .seq) (ds := [.tup (ds.map eDeed)]) (by simp [FnDef.prun, poutOf, pexs, pex.eq_1, pex.eq_2, pex.eq_3, pex.eq_4, pex.eq_5, pex.eq_6, pex.eq_7, pex.eq_10, pex.eq_11, px, pxs, pe.eq_1, pe.eq_2, pe.eq_3, pe.eq_4, pe.eq_5, pe.eq_6, pe.eq_7, pe.eq_8, pe.eq_9, pe.eq_10, pe.eq_11, pes, pbnd, pret, startE, pprim, prim, lft, ret, a1, a2, int2]) rfl e1 (by simp; omega)
  have g : (ds.length : Int) ≤ 12 := by omega
  have hall := blsOf_map (fun _ : Deed => true) ds
  have ha : ((ds.map fun _ => true).all id) = true := by simp
  simp only [f18_are_deeds]
  simp [FnDef.prun, poutOf, pexs, pex.eq_1, pex.eq_2, pex.eq_3, pex.eq_4, pex.eq_5, pex.eq_6, pex.eq_7, pex.eq_10, pex.eq_11, px, pxs, pe.eq_1, pe.eq_2, pe.eq_3, pe.eq_4, pe.eq_5, pe.eq_6, pe.eq_7, pe.eq_8, pe.eq_9, pe.eq_10, pe.eq_11, pes, pbnd, pret, startE, pprim, prim, lft, ret, a1, a2, int2, eqH_int, eqH_str, eqH_row, eqH_rows, eqH_tab, lenD_row, lenD_rows, lenD_tab, lenD_lst, lenD_tup, ix_tab0, ix_tab1, pIsi, isTy, truth, g]
  rw [e2]
  simp only [pAll, lstOf, top, Option.bind_some, hall, ha]
  rfl
theorem P_need_deeds (k : Nat) (ds : List Deed) (h : ∀ d ∈ ds, DeedOK d) (hl : ds.length ≤ 12) (c : Nat) : pruns T (k + 5) 19 [.tup (ds.map eDeed)] c = .ok .non c := by
  rw [pr_of T_19]
  have e := P_are_deeds k ds h hl c
  simp [FnDef.prun, poutOf, pexs, pex.eq_1, pex.eq_2, pex.eq_3, pex.eq_4, pex.eq_5, pex.eq_6, pex.eq_7, pex.eq_10, pex.eq_11, px, pxs, pe.eq_1, pe.eq_2, pe.eq_3, pe.eq_4, pe.eq_5, pe.eq_6, pe.eq_7, pe.eq_8, pe.eq_9, pe.eq_10, pe.eq_11, pes, pbnd, pret, startE, pprim, prim, lft, ret, a1, a2, int2, f19_need_deeds, e, pNot]
/-- the tables behind each deed -/
def stepsV (rb : List Str → List (List Str) → Deed → List (List Str)) : List Str → List (List Str) → List Deed → Option (List Tab)
  | _, _, [] => some []
  | cs, rs, d :: ds => match colsBehind cs d with
    | none => none
    | some cs' => (stepsV rb cs' (rb cs rs d) ds).map ((cs', rb cs rs d) :: ·)
theorem zipIdx_deeds (n : Nat) (l : List Deed) : ((l.map eDeed).zipIdx n).map (fun p => D.tup [.int (p.2 : Nat), p.1]) = (l.zipIdx n).map (fun p => D.tup [.int (p.2 : Nat), eDeed p.1]) := by
  rw [List.zipIdx_map, List.map_map]
  rfl
theorem ixm1 {h : Hh} {l : List D} {a : D} : ixD (.lst (l ++ [a])) (.int (-1)) h = .ok a h := by
  have g1 : ¬ (0 : Int) ≤ -1 := by omega
  have g2 : -((l ++ [a]).length : Int) ≤ -1 := by simp; omega
  have g3 : (-1 + ((l ++ [a]).length : Int)).toNat = l.length := by simp; omega
  simp only [ixD, seqOf, top, TS.atI, ixN, g1, if_false, g2, if_true, g3, Option.bind_some]
  simp
structure RB (k : Nat) (rb : List Str → List (List Str) → Deed → List (List Str)) (G : List Str → List (List Str) → Prop) (ok : Deed → Prop) : Prop where
  len : ∀ cs rs, G cs rs → cs.length ≤ 1000
  run : ∀ cs rs d c, G cs rs → ok d → d.col ∈ cs → colsBehind cs d ≠ none → pruns T k 27 [eRow cs, eRows rs, eDeed d] c = .ok (eRows (rb cs rs d)) c
  keep : ∀ cs rs d cs', G cs rs → ok d → colsBehind cs d = some cs' → G cs' (rb cs rs d)
theorem col_in {cs cs' : List Str} {d : Deed} (h : colsBehind cs d = some cs') : d.col ∈ cs := by
  unfold colsBehind at h
  split at h
  · assumption
  · cases h
def runBody : List S := [(.asgT [5, 6] (.op .ix [(.var 2), (.op .neg [(.cst (.int 1))])])),
  (.asg 7 (.op (.call 21) [(.var 5), (.var 4)])),
  (.ite (.op .isN [(.var 7)]) [.never] []),
  (.exp (.mth .append (.var 2) [(.op .tup [(.var 7), (.op (.call 27) [(.var 5), (.var 6), (.var 4)])])]))]
theorem run_loop {k : Nat} {rb : List Str → List (List Str) → Deed → List (List Str)} {G : List Str → List (List Str) → Prop} {ok : Deed → Prop} (R : RB (k + 2) rb G ok) (x0 x1 : D) (c : Nat) : ∀ (ds : List Deed) (i : Nat) (pre : List Tab) (cs : List Str) (rs : List (List Str)) (l : List Tab) (x3 x4 x5 x6 x7 : Option D), (∀ d ∈ ds, ok d) → G cs rs → pre.length + ds.length ≤ 1000 → stepsV rb cs rs ds = some l →
    ∃ y3 y4 y5 y6 y7, pforL (bindTg (.many [3, 4])) (pexs (pruns T (k + 2)) [2] runBody) ((ds.zipIdx i).map (fun p => D.tup [.int (p.2 : Nat), eDeed p.1])) [some x0, some x1, some (.lst ((pre ++ [(cs, rs)]).map eT)), x3, x4, x5, x6, x7] c =
      .ok (.next [some x0, some x1, some (.lst ((pre ++ [(cs, rs)] ++ l).map eT)), y3, y4, y5, y6, y7]) c
  | [], i, pre, cs, rs, l, x3, x4, x5, x6, x7, _, _, _, h => by
    cases h
    exact ⟨x3, x4, x5, x6, x7, by simp [pforL, pret]⟩
  | d :: ds, i, pre, cs, rs, l, x3, x4, x5, x6, x7, hok, hG, hlen, h => by
    rw [stepsV] at h
    cases hc : colsBehind cs d with
    | none => rw [hc] at h; cases h
    | some cs' =>
      rw [hc] at h
      cases hs : stepsV rb cs' (rb cs rs d) ds with
      | none => simp only [hs] at h; cases h
      | some l' =>
        simp only [hs] at h
        cases h
        have e1 := P_columns_behind k cs d (R.len cs rs hG) c
        rw [hc] at e1
        have e2 := R.run cs rs d c hG (hok d List.mem_cons_self) (col_in hc) (by rw [hc]; simp)
        have hlen' : pre.length + 1 + ds.length ≤ 1000 := by simp at hlen; omega
        obtain ⟨y3, y4, y5, y6, y7, ih⟩ := run_loop R x0 x1 c ds (i + 1) (pre ++ [(cs, rs)]) cs' (rb cs rs d) l' (some (.int (i : Nat))) (some (eDeed d)) (some (eRow cs)) (some (eRows rs)) (some (eRow cs')) (fun d hd => hok d (List.mem_cons_of_mem _ hd)) (R.keep cs rs d cs' hG (hok d List.mem_cons_self) hc) (by simp; omega) hs
        refine ⟨y3, y4, y5, y6, y7, ?_⟩
        have hpl : pre.length + 1 < 100000 := by omega
        have hb : pexs (pruns T (k + 2)) [2] runBody [some x0, some x1, some (.lst ((pre ++ [(cs, rs)]).map eT)), some (.int (i : Nat)), some (eDeed d), x5, x6, x7] c = .ok (.next [some x0, some x1, some (.lst ((pre ++ [(cs, rs)] ++ [(cs', rb cs rs d)]).map eT)), some (.int (i : Nat)), some (eDeed d), some (eRow cs), some (eRows rs), some (eRow cs')]) c := by
          have hm : (pre ++ [(cs, rs)]).map eT = pre.map eT ++ [eTab cs rs] := by simp [eT]
          rw [hm]
          refine (pexs_next (r1 := [some x0, some x1, some (.lst (pre.map eT ++ [eTab cs rs])), some (.int (i : Nat)), some (eDeed d), some (eRow cs), some (eRows rs), x7]) (c1 := c) ?_).trans ((pexs_next (r1 := [some x0, some x1, some (.lst (pre.map eT ++ [eTab cs rs])), some (.int (i : Nat)), some (eDeed d), some (eRow cs), some (eRows rs), some (eRow cs')]) (c1 := c) ?_).trans ((pexs_skip (c1 := c) ?_).trans ((pexs_next (c1 := c) (r1 := [some x0, some x1, some (.lst ((pre ++ [(cs, rs)] ++ [(cs', rb cs rs d)]).map eT)), some (.int (i : Nat)), some (eDeed d), some (eRow cs), some (eRows rs), some (eRow cs')]) ?_).trans rfl)))
          · simp [FnDef.prun, poutOf, pexs, pex.eq_1, pex.eq_2, pex.eq_3, pex.eq_4, pex.eq_5, pex.eq_6, pex.eq_7, pex.eq_10, pex.eq_11, px, pxs, pe.eq_1, pe.eq_2, pe.eq_3, pe.eq_4, pe.eq_5, pe.eq_6, pe.eq_7, pe.eq_8, pe.eq_9, pe.eq_10, pe.eq_11, pes, pbnd, pret, startE, pprim, prim, lft, ret, a1, a2, int2, pNeg, ixm1, eTab, bindTg, setAll]
          · simp [FnDef.prun, poutOf, pexs, pex.eq_1, pex.eq_2, pex.eq_3, pex.eq_4, pex.eq_5, pex.eq_6, pex.eq_7, pex.eq_10, pex.eq_11, px, pxs, pe.eq_1, pe.eq_2, pe.eq_3, pe.eq_4, pe.eq_5, pe.eq_6, pe.eq_7, pe.eq_8, pe.eq_9, pe.eq_10, pe.eq_11, pes, pbnd, pret, startE, pprim, prim, lft, ret, a1, a2, int2, e1, eCols]
          · simp [FnDef.prun, poutOf, pexs, pex.eq_1, pex.eq_2, pex.eq_3, pex.eq_4, pex.eq_5, pex.eq_6, pex.eq_7, pex.eq_10, pex.eq_11, px, pxs, pe.eq_1, pe.eq_2, pe.eq_3, pe.eq_4, pe.eq_5, pe.eq_6, pe.eq_7, pe.eq_8, pe.eq_9, pe.eq_10, pe.eq_11, pes, pbnd, pret, startE, pprim, prim, lft, ret, a1, a2, int2, eRow]
          · simp [FnDef.prun, poutOf, pexs, pex.eq_1, pex.eq_2, pex.eq_3, pex.eq_4, pex.eq_5, pex.eq_6, pex.eq_7, pex.eq_10, pex.eq_11, px, pxs, pe.eq_1, pe.eq_2, pe.eq_3, pe.eq_4, pe.eq_5, pe.eq_6, pe.eq_7, pe.eq_8, pe.eq_9, pe.eq_10, pe.eq_11, pes, pbnd, pret, startE, pprim, prim, lft, ret, a1, a2, int2, isMut, okSlot, doMut, pmut, e2, mkT, hpl, eT, eTab]
        rw [List.zipIdx_cons, List.map_cons, pforL]
        show (match bindTg (.many [3, 4]) (.tup [.int (i : Nat), eDeed d]) _ with
          | some r1 => pbnd _ _
          | none => pbad) c = _
        have hbd : bindTg (.many [3, 4]) (.tup [.int (i : Nat), eDeed d]) [some x0, some x1, some (.lst ((pre ++ [(cs, rs)]).map eT)), x3, x4, x5, x6, x7] = some [some x0, some x1, some (.lst ((pre ++ [(cs, rs)]).map eT)), some (.int (i : Nat)), some (eDeed d), x5, x6, x7] := rfl
        simp only [hbd, pbnd, hb, ih]
        simp
theorem P_run {k : Nat} {rb : List Str → List (List Str) → Deed → List (List Str)} {G : List Str → List (List Str) → Prop} {ok : Deed → Prop} (R : RB (k + 2) rb G ok) (cs : List Str) (rs : List (List Str)) (ds : List Deed) (l : List Tab) (hok : ∀ d ∈ ds, ok d) (hG : G cs rs) (hl : ds.length ≤ 999) (h : stepsV rb cs rs ds = some l) (c : Nat) : pruns T (k + 3) 28 [eTab cs rs, .tup (ds.map eDeed)] c = .ok (.lst (((cs, rs) :: l).map eT)) c := by
  rw [pr_of T_28]
  obtain ⟨x3, x4, x5, x6, x7, e⟩ := run_loop R (eTab cs rs) (.tup (ds.map eDeed)) c ds 0 [] cs rs l none none none none none hok hG (by simp; omega) h
  refine prun_ret rfl ((pexs_next (r1 := [some (eTab cs rs), some (.tup (ds.map eDeed)), some (.lst [eTab cs rs]), none, none, none, none, none]) (c1 := c) ?_).trans ((pexs_next (pex_for (ds := [.tup (ds.map eDeed)]) (c1 := c) ?_ ?_ e)).trans (pexs_ret ?_)))
  · simp [FnDef.prun, poutOf, pexs, pex.eq_1, pex.eq_2, pex.eq_3, pex.eq_4, pex.eq_5, pex.eq_6, pex.eq_7, pex.eq_10, pex.eq_11, px, pxs, pe.eq_1, pe.eq_2, pe.eq_3, pe.eq_4, pe.eq_5, pe.eq_6, pe.eq_7, pe.eq_8, pe.eq_9, pe.eq_10, pe.eq_11, pes, pbnd, pret, startE, pprim, prim, lft, ret, a1, a2, int2, mkL, f28_run]
  · simp [FnDef.prun, poutOf, pexs, pex.eq_1, pex.eq_2, pex.eq_3, pex.eq_4, pex.eq_5, pex.eq_6, pex.eq_7, pex.eq_10, pex.eq_11, px, pxs, pe.eq_1, pe.eq_2, pe.eq_3, pe.eq_4, pe.eq_5, pe.eq_6, pe.eq_7, pe.eq_8, pe.eq_9, pe.eq_10, pe.eq_11, pes, pbnd, pret, startE, pprim, prim, lft, ret, a1, a2, int2]
  · simp only [pitems, List.all_cons, List.all_nil, notRef, Bool.and_self, if_true, itemsOf, itE, seqOf, top, Option.map_some]
    rw [zipIdx_deeds]
  · simp [FnDef.prun, poutOf, pexs, pex.eq_1, pex.eq_2, pex.eq_3, pex.eq_4, pex.eq_5, pex.eq_6, pex.eq_7, pex.eq_10, pex.eq_11, px, pxs, pe.eq_1, pe.eq_2, pe.eq_3, pe.eq_4, pe.eq_5, pe.eq_6, pe.eq_7, pe.eq_8, pe.eq_9, pe.eq_10, pe.eq_11, pes, pbnd, pret, startE, pprim, prim, lft, ret, a1, a2, int2, eT]
theorem P_done {k : Nat} {rb : List Str → List (List Str) → Deed → List (List Str)} {G : List Str → List (List Str) → Prop} {ok : Deed → Prop} (R : RB (k + 4) rb G ok) (cs : List Str) (rs : List (List Str)) (ds : List Deed) (l : List Tab) (hT : TabOK cs rs) (hD : ∀ d ∈ ds, DeedOK d) (hok : ∀ d ∈ ds, ok d) (hG : G cs rs) (hl : ds.length ≤ 12) (h : stepsV rb cs rs ds = some l) (c : Nat) : pruns T (k + 6) 29 [eTab cs rs, .tup (ds.map eDeed)] c = .ok (eT (((cs, rs) :: l).getLast (by simp))) c := by
  rw [pr_of T_29]
  have e1 := P_need_table (k + 1) cs rs hT.1 hT.2 c
  have e2 := P_need_deeds k ds hD hl c
  have e3 := P_run (k := k + 2) R cs rs ds l hok hG (by omega) h c
  have hm : (((cs, rs) :: l).map eT) = (((cs, rs) :: l).dropLast).map eT ++ [eT (((cs, rs) :: l).getLast (by simp))] := by
    conv => lhs; rw [← List.dropLast_concat_getLast (l := (cs, rs) :: l) (by simp)]
    simp
  rw [hm] at e3
  generalize (((cs, rs) :: l).dropLast).map eT = pre at *
  simp [FnDef.prun, poutOf, pexs, pex.eq_1, pex.eq_2, pex.eq_3, pex.eq_4, pex.eq_5, pex.eq_6, pex.eq_7, pex.eq_10, pex.eq_11, px, pxs, pe.eq_1, pe.eq_2, pe.eq_3, pe.eq_4, pe.eq_5, pe.eq_6, pe.eq_7, pe.eq_8, pe.eq_9, pe.eq_10, pe.eq_11, pes, pbnd, pret, startE, pprim, prim, lft, ret, a1, a2, int2, f29_done, e1, e2, e3, pNeg, ixm1]
end TS

set_option Elab.async false
set_option linter.all false
set_option maxRecDepth 100000
set_option maxHeartbeats 4000000
/-! TL28: law k28 itself. -/
namespace TS
open PySem
def f30_law : FnDef := ⟨1, 16, true, [(.asg 1 (.op (.lst true) [])),
  (.asg 2 (.op (.call 7) [(.var 0), (.var 1), (.cst (.int 6)), (.cst (.int 3))])),
  (.asgT [3, 4] (.op .tup [(.op (.add true) [(.op (.list false) [(.op .ix [(.var 2), (.cst (.int 0))])]), (.op (.lst false) [(.cst (.str "p")), (.cst (.str "q"))])]), (.op (.lst true) [])])),
  (.for_ (.one 5) .seq [(.op .ix [(.var 2), (.cst (.int 0))])] [(.asg 11 (.op (.call 3) [(.var 0), (.var 1), (.cst (.int 3))])),
  (.asg 12 (.ife (.andB (.op .eq [(.var 11), (.cst (.int 0))]) (.op .inn [(.var 5), (.var 3)])) (.var 5) (.op (.call 5) [(.var 0), (.var 1), (.var 3)]))),
  (.exp (.mth .remove (.var 3) [(.var 12)])),
  (.exp (.mth .append (.var 4) [(.var 12)]))]),
  (.asg 6 (.op .tup [(.op .tuple [(.var 4)]), (.op .ix [(.var 2), (.cst (.int 1))])])),
  (.asgT [7, 8] (.op .tup [(.op (.list true) [(.op .ix [(.var 2), (.cst (.int 0))])]), (.op (.lst true) [])])),
  (.while_ (.andB (.op .isnN [(.var 8)]) (.op .ne [(.var 7), (.var 4)])) [(.asg 13 (.comp false (.var 14) (.one 14) .rng1 [(.op .len [(.var 7)])] [(.andB (.op .ne [(.op .ix [(.var 7), (.var 14)]), (.op .ix [(.var 4), (.var 14)])]) (.op .nin [(.op .ix [(.var 4), (.var 14)]), (.var 7)]))] [14])),
  (.ite (.op .eq [(.var 13), (.op (.lst false) [])]) [(.asg 8 (.cst .non))] [(.exp (.mth .append (.var 8) [(.op .tup [(.cst (.str "name")), (.op .ix [(.var 7), (.op .ix [(.var 13), (.cst (.int 0))])]), (.op .ix [(.var 4), (.op .ix [(.var 13), (.cst (.int 0))])])])])),
  (.put (.var 7) (.op .ix [(.var 13), (.cst (.int 0))]) (.op .ix [(.var 4), (.op .ix [(.var 13), (.cst (.int 0))])]))])]),
  (.asg 9 (.op (.call 13) [(.var 2), (.var 6)])),
  (.ite (.op .ne [(.var 9), (.ife (.op .isN [(.var 8)]) (.cst .non) (.op .tuple [(.var 8)]))]) [(.rtn (.cst (.bl false)))] []),
  (.ite (.andB (.op .isnN [(.var 9)]) (.andB (.op .lt [(.op .len [(.var 9)]), (.cst (.int 13))]) (.op .ne [(.op (.call 29) [(.var 2), (.var 9)]), (.var 6)]))) [(.rtn (.cst (.bl false)))] []),
  (.ite (.op .isnN [(.op (.call 13) [(.var 2), (.op .tup [(.op .ix [(.var 6), (.cst (.int 0))]), (.op (.add false) [(.op .ix [(.var 2), (.cst (.int 1))]), (.op .tup [(.op .tuple [(.op (.mul false) [(.op (.lst false) [(.cst (.str "x"))]), (.op .len [(.var 4)])])])])])])])]) [(.rtn (.cst (.bl false)))] []),
  (.ite (.op .eq [(.op .len [(.var 4)]), (.cst (.int 6))]) [(.rtn (.cst (.bl true)))] []),
  (.asg 10 (.op .tuple [(.comp false (.op (.add false) [(.var 15), (.op .tup [(.cst (.str "x"))])]) (.one 15) .seq [(.op .ix [(.var 2), (.cst (.int 1))])] [] [15])])),
  (.rtn (.op .isN [(.op (.call 13) [(.var 2), (.op .tup [(.op (.add false) [(.op .ix [(.var 6), (.cst (.int 0))]), (.op .tup [(.cst (.str "new"))])]), (.var 10)])])]))]⟩
def rbN (_ : List Str) (rs : List (List Str)) (_ : Deed) : List (List Str) := rs
theorem RB_name (k : Nat) : RB (k + 1) rbN (fun cs _ => cs.length ≤ 1000) (fun d => ∃ x n, d = .name x n) where
  len _ _ h := h
  run cs rs d c hG hok hc _ := by
    obtain ⟨x, n, rfl⟩ := hok
    rw [pr_of T_27]
    have hi := fun h => index_row (h := h) hc
    have hk : kindOk .index (eRow cs) [] = true := rfl
    simp only [Deed.col] at hi
    generalize cs.idxOf x = j at *
    have st : pexs (pruns T k) (ownss f27_rows_behind.body) f27_rows_behind.body (startE 3 11 [eRow cs, eRows rs, eDeed (.name x n)]) c = pexs (pruns T k) (ownss f27_rows_behind.body) (f27_rows_behind.body.drop 2) [some (eRow cs), some (eRows rs), some (eDeed (.name x n)), some (.str "name"), some (.int (j : Int)), none, none, none, none, none, none] c := by
      refine (pexs_next (r1 := [some (eRow cs), some (eRows rs), some (eDeed (.name x n)), some (.str "name"), none, none, none, none, none, none, none]) (c1 := c) ?_).trans (pexs_next ?_)
      · simp [FnDef.prun, poutOf, pexs, pex.eq_1, pex.eq_2, pex.eq_3, pex.eq_4, pex.eq_5, pex.eq_6, pex.eq_7, pex.eq_10, pex.eq_11, px, pxs, pe.eq_1, pe.eq_2, pe.eq_3, pe.eq_4, pe.eq_5, pe.eq_6, pe.eq_7, pe.eq_8, pe.eq_9, pe.eq_10, pe.eq_11, pes, pbnd, pret, startE, pprim, prim, lft, ret, a1, a2, int2, eDeed, ix0]
      · simp [FnDef.prun, poutOf, pexs, pex.eq_1, pex.eq_2, pex.eq_3, pex.eq_4, pex.eq_5, pex.eq_6, pex.eq_7, pex.eq_10, pex.eq_11, px, pxs, pe.eq_1, pe.eq_2, pe.eq_3, pe.eq_4, pe.eq_5, pe.eq_6, pe.eq_7, pe.eq_8, pe.eq_9, pe.eq_10, pe.eq_11, pes, pbnd, pret, startE, pprim, prim, lft, ret, a1, a2, int2, eDeed, hk, ix1, hi, isMut]
    refine prun_ret rfl (st.trans ?_)
    refine (pexs_skip (c1 := c) (by rw [wtest rfl]; simp only [show (("name" : Str) = "split") = False by decide]; rfl)).trans <| (pexs_skip (c1 := c) (by rw [wtest rfl]; simp only [show (("name" : Str) = "join") = False by decide]; rfl)).trans <| (pexs_skip (c1 := c) (by rw [wtest rfl]; simp only [show (("name" : Str) = "strike") = False by decide]; rfl)).trans <| (pexs_skip (c1 := c) (by rw [wtest rfl]; simp only [show (("name" : Str) = "order") = False by decide]; rfl)).trans <| (pexs_skip (c1 := c) (by rw [wtest rfl]; simp only [show (("name" : Str) = "keep") = False by decide]; rfl)).trans <| (pexs_skip (c1 := c) (by rw [wtest rfl]; simp only [show (("name" : Str) = "fill") = False by decide]; rfl)).trans <| (pexs_skip (c1 := c) (by rw [wtest rfl]; simp only [show (("name" : Str) = "unlike") = False by decide]; rfl)).trans <| (pexs_skip (c1 := c) (by rw [wtest rfl]; simp only [show (("name" : Str) = "lead") = False by decide]; rfl)).trans <| (pexs_skip (c1 := c) (by rw [wtest rfl]; simp only [show (("name" : Str) = "move") = False by decide]; rfl)).trans <| (pexs_ret ?_)
    simp [FnDef.prun, poutOf, pexs, pex.eq_1, pex.eq_2, pex.eq_3, pex.eq_4, pex.eq_5, pex.eq_6, pex.eq_7, pex.eq_10, pex.eq_11, px, pxs, pe.eq_1, pe.eq_2, pe.eq_3, pe.eq_4, pe.eq_5, pe.eq_6, pe.eq_7, pe.eq_8, pe.eq_9, pe.eq_10, pe.eq_11, pes, pbnd, pret, startE, pprim, prim, lft, ret, a1, a2, int2, rbN]
  keep cs rs d cs' hG hok h := by
    obtain ⟨x, n, rfl⟩ := hok
    simp only [colsBehind] at h
    split at h
    · simp only [renamedV] at h
      split at h
      · cases h
      · cases h
        simp only [List.length_map]
        refine Nat.le_trans (List.length_filter_le _ _) ?_
        simpa using hG
    · cases h
theorem ren_none {cs : List Str} {a : Nat} {n : Str} (ha : a < cs.length) (nd : cs.Nodup) (hn : n ∉ cs) : renamedV cs a n none = some (cs.set a n) := by
  have hrow : (cs.zipIdx.filter fun p => !decide (some p.1 = none) || decide (p.2 = a)).map (·.1) = cs := by
    rw [List.filter_eq_self.mpr (by simp)]
    exact List.zipIdx_map_fst 0 cs
  unfold renamedV
  simp only [hrow]
  rw [if_neg (fun h => hn (List.mem_filter.mp h).1)]
  congr 1
  apply List.ext_getElem
  · simp
  · intro i h1 h2
    simp only [List.length_map] at h1
    rw [List.getElem_map, List.getElem_set]
    have hg : cs.getD a "" = cs[a] := by simp [List.getD_eq_getElem?_getD, List.getElem?_eq_getElem ha]
    by_cases e : a = i
    · subst e; rw [if_pos rfl, if_pos hg.symm]
    · rw [if_neg e]
      rw [if_neg]
      intro q
      have q2 : cs[i]'h1 = cs[a] := q.trans hg
      exact e ((List.getElem_inj nd).mp q2).symm
theorem mis_nil {here other : List Str} (hl : here.length = other.length) : mis here other = [] ↔ here = other := by
  constructor
  · intro h
    apply List.ext_getElem hl
    intro i h1 h2
    unfold mis at h
    rw [List.filter_eq_nil_iff] at h
    have := h i (List.mem_range.mpr h1)
    simpa [List.getD_eq_getElem?_getD, List.getElem?_eq_getElem h1, List.getElem?_eq_getElem h2] using this
  · intro h; subst h
    simp [mis]
def deedsOf (l : List (Str × Str)) : List Deed := l.map fun p => .name p.1 p.2
theorem nodup_set {l : List Str} {a : Nat} {x : Str} (nd : l.Nodup) (hx : x ∉ l) : (l.set a x).Nodup := by
  rw [List.nodup_iff_pairwise_ne, List.pairwise_iff_getElem] at nd ⊢
  intro i j hi hj hij
  simp only [List.length_set] at hi hj
  rw [List.getElem_set, List.getElem_set]
  split
  · split
    · omega
    · intro e; exact hx (e ▸ List.getElem_mem _)
  · split
    · intro e; exact hx (e ▸ List.getElem_mem _)
    · exact nd i j hi hj hij
theorem nm_done (rs : List (List Str)) (other : List Str) : ∀ (n : Nat) (here : List Str) (l : List (Str × Str)), here.Nodup → here.length = other.length → (mis here other).length ≤ n → nm n here other = some l →
    ∃ t, stepsV rbN here rs (deedsOf l) = some t ∧ ((here, rs) :: t).getLast (by simp) = (other, rs)
  | 0, here, l, nd, hl, hm, h => by
    cases h
    have : mis here other = [] := List.length_eq_zero_iff.mp (by omega)
    have := (mis_nil hl).mp this
    subst this
    exact ⟨[], rfl, rfl⟩
  | n + 1, here, l, nd, hl, hm, h => by
    rw [nm] at h
    split at h
    · rename_i q
      cases h
      have := (mis_nil hl).mp q
      subst this
      exact ⟨[], rfl, rfl⟩
    · split at h
      · cases h
      · rename_i a fs hf
        cases hr : nm n (here.set a (other.getD a "")) other with
        | none => rw [hr] at h; cases h
        | some m =>
          rw [hr] at h
          cases h
          have hmem : a ∈ frees here other := by rw [hf]; exact List.mem_cons_self
          obtain ⟨h1, h2⟩ := List.mem_filter.mp hmem
          have h2 : other.getD a "" ∉ here := by simpa using h2
          have ha := mem_mis h1
          obtain ⟨t, t1, t2⟩ := nm_done rs other n (here.set a (other.getD a "")) m (nodup_set nd h2) (by simpa using hl) (by rw [mis_set h1, List.length_erase_of_mem h1]; omega) hr
          have hg : here.getD a "" = here[a] := by simp [List.getD_eq_getElem?_getD, List.getElem?_eq_getElem ha]
          have hcb : colsBehind here (.name (here.getD a "") (other.getD a "")) = some (here.set a (other.getD a "")) := by
            unfold colsBehind
            rw [if_pos (by rw [Deed.col, hg]; exact List.getElem_mem _)]
            simp only [Deed.col]
            rw [show here.idxOf (here.getD a "") = a by rw [hg]; exact nd.idxOf_getElem a ha]
            exact ren_none ha nd h2
          refine ⟨(here.set a (other.getD a ""), rs) :: t, ?_, ?_⟩
          · show stepsV rbN here rs (.name (here.getD a "") (other.getD a "") :: deedsOf m) = _
            rw [stepsV, hcb]
            show (stepsV rbN _ rs _).map _ = _
            rw [t1]; rfl
          · rw [List.getLast_cons (by simp)]; exact t2
/-! ### the law's own loops -/
theorem pmut_remove {l : List Str} {x : Str} (h : x ∈ l) : pmut .remove (l.map .str) [.str x] = some (.non, (l.erase x).map .str) := by
  have e := find_str h
  have p1 : (pu 9 (.str x) && (l.map D.str).all (pu 9)) = true := by rw [pu_strs 9 l]; rfl
  simp only [pmut, p1, if_true, e]
  rw [erase_map, List.erase_eq_eraseIdx_of_idxOf rfl]
def forBody : List S := [(.asg 11 (.op (.call 3) [(.var 0), (.var 1), (.cst (.int 3))])),
  (.asg 12 (.ife (.andB (.op .eq [(.var 11), (.cst (.int 0))]) (.op .inn [(.var 5), (.var 3)])) (.var 5) (.op (.call 5) [(.var 0), (.var 1), (.var 3)]))),
  (.exp (.mth .remove (.var 3) [(.var 12)])),
  (.exp (.mth .append (.var 4) [(.var 12)]))]
theorem for_turn (k : Nat) (ns : List Int) (c : Nat) (hc : c < 90000) (x2 x6 x7 x8 x9 x10 x11 x12 x13 x14 x15 : Option D) (left names : List Str) (x : Str) (hl : left ≠ []) (hn : names.length < 1000) :
    ∃ (new : Str) (c' : Nat) (y11 : Option D), new ∈ left ∧ c < c' ∧ c' ≤ c + 2 ∧ pexs (pruns T (k + 4)) [3, 4, 7, 8] forBody [some (.scr ns), some (.ref 0), x2, some (.lst (left.map .str)), some (.lst (names.map .str)), some (.str x), x6, x7, x8, x9, x10, x11, x12, x13, x14, x15] c =
      .ok (.next [some (.scr ns), some (.ref 0), x2, some (.lst ((left.erase new).map .str)), some (.lst ((names ++ [new]).map .str)), some (.str x), x6, x7, x8, x9, x10, y11, some (.str new), x13, x14, x15]) c' := by
  have e1 := P_draw (k + 1) ns c 3 (by omega) (by omega)
  obtain ⟨y, hy, e2⟩ := P_pick k ns (c + 1) (.lst (left.map .str)) (left.map .str) rfl rfl (by simpa using hl) (by omega)
  obtain ⟨p, hp, rfl⟩ := List.mem_map.mp hy
  have key : ∃ (new : Str) (c' : Nat), new ∈ left ∧ c < c' ∧ c' ≤ c + 2 ∧ pe (pruns T (k + 4)) (.ife (.andB (.op .eq [(.var 11), (.cst (.int 0))]) (.op .inn [(.var 5), (.var 3)])) (.var 5) (.op (.call 5) [(.var 0), (.var 1), (.var 3)])) [some (.scr ns), some (.ref 0), x2, some (.lst (left.map .str)), some (.lst (names.map .str)), some (.str x), x6, x7, x8, x9, x10, some (.int (drB ns c 3)), x12, x13, x14, x15] (c + 1) = .ok (.str new) c' := by
    by_cases q : drB ns c 3 = 0
    · by_cases q2 : x ∈ left
      · exact ⟨x, c + 1, q2, by omega, by omega, by simp [FnDef.prun, poutOf, pexs, pex.eq_1, pex.eq_2, pex.eq_3, pex.eq_4, pex.eq_5, pex.eq_6, pex.eq_7, pex.eq_10, pex.eq_11, px, pxs, pe.eq_1, pe.eq_2, pe.eq_3, pe.eq_4, pe.eq_5, pe.eq_6, pe.eq_7, pe.eq_8, pe.eq_9, pe.eq_10, pe.eq_11, pes, pbnd, pret, startE, pprim, prim, lft, ret, a1, a2, int2, eqH_int, eqH_str, eqH_row, eqH_rows, eqH_tab, lenD_row, lenD_rows, lenD_tab, lenD_lst, lenD_tup, ix_tab0, ix_tab1, q, inD_strs', q2]⟩
      · exact ⟨p, c + 2, hp, by omega, by omega, by simp [FnDef.prun, poutOf, pexs, pex.eq_1, pex.eq_2, pex.eq_3, pex.eq_4, pex.eq_5, pex.eq_6, pex.eq_7, pex.eq_10, pex.eq_11, px, pxs, pe.eq_1, pe.eq_2, pe.eq_3, pe.eq_4, pe.eq_5, pe.eq_6, pe.eq_7, pe.eq_8, pe.eq_9, pe.eq_10, pe.eq_11, pes, pbnd, pret, startE, pprim, prim, lft, ret, a1, a2, int2, eqH_int, eqH_str, eqH_row, eqH_rows, eqH_tab, lenD_row, lenD_rows, lenD_tab, lenD_lst, lenD_tup, ix_tab0, ix_tab1, q, inD_strs', q2, e2]⟩
    · exact ⟨p, c + 2, hp, by omega, by omega, by simp [FnDef.prun, poutOf, pexs, pex.eq_1, pex.eq_2, pex.eq_3, pex.eq_4, pex.eq_5, pex.eq_6, pex.eq_7, pex.eq_10, pex.eq_11, px, pxs, pe.eq_1, pe.eq_2, pe.eq_3, pe.eq_4, pe.eq_5, pe.eq_6, pe.eq_7, pe.eq_8, pe.eq_9, pe.eq_10, pe.eq_11, pes, pbnd, pret, startE, pprim, prim, lft, ret, a1, a2, int2, eqH_int, eqH_str, eqH_row, eqH_rows, eqH_tab, lenD_row, lenD_rows, lenD_tab, lenD_lst, lenD_tup, ix_tab0, ix_tab1, q, e2]⟩
  obtain ⟨new, c', m1, m2, m3, e3⟩ := key
  refine ⟨new, c', some (.int (drB ns c 3)), m1, m2, m3, ?_⟩
  refine (pexs_next (r1 := [some (.scr ns), some (.ref 0), x2, some (.lst (left.map .str)), some (.lst (names.map .str)), some (.str x), x6, x7, x8, x9, x10, some (.int (drB ns c 3)), x12, x13, x14, x15]) (c1 := c + 1) ?_).trans ((pexs_next (r1 := [some (.scr ns), some (.ref 0), x2, some (.lst (left.map .str)), some (.lst (names.map .str)), some (.str x), x6, x7, x8, x9, x10, some (.int (drB ns c 3)), some (.str new), x13, x14, x15]) (c1 := c') ?_).trans ((pexs_next (r1 := [some (.scr ns), some (.ref 0), x2, some (.lst ((left.erase new).map .str)), some (.lst (names.map .str)), some (.str x), x6, x7, x8, x9, x10, some (.int (drB ns c 3)), some (.str new), x13, x14, x15]) (c1 := c') ?_).trans ((pexs_next (c1 := c') (r1 := [some (.scr ns), some (.ref 0), x2, some (.lst ((left.erase new).map .str)), some (.lst ((names ++ [new]).map .str)), some (.str x), x6, x7, x8, x9, x10, some (.int (drB ns c 3)), some (.str new), x13, x14, x15]) ?_).trans rfl)))
  · simp [FnDef.prun, poutOf, pexs, pex.eq_1, pex.eq_2, pex.eq_3, pex.eq_4, pex.eq_5, pex.eq_6, pex.eq_7, pex.eq_10, pex.eq_11, px, pxs, pe.eq_1, pe.eq_2, pe.eq_3, pe.eq_4, pe.eq_5, pe.eq_6, pe.eq_7, pe.eq_8, pe.eq_9, pe.eq_10, pe.eq_11, pes, pbnd, pret, startE, pprim, prim, lft, ret, a1, a2, int2, e1]
  · rw [pex.eq_1]; simp only [px, pbnd, e3, pret]; rfl
  · simp [FnDef.prun, poutOf, pexs, pex.eq_1, pex.eq_2, pex.eq_3, pex.eq_4, pex.eq_5, pex.eq_6, pex.eq_7, pex.eq_10, pex.eq_11, px, pxs, pe.eq_1, pe.eq_2, pe.eq_3, pe.eq_4, pe.eq_5, pe.eq_6, pe.eq_7, pe.eq_8, pe.eq_9, pe.eq_10, pe.eq_11, pes, pbnd, pret, startE, pprim, prim, lft, ret, a1, a2, int2, isMut, okSlot, doMut, pmut_remove m1]
  · simp [FnDef.prun, poutOf, pexs, pex.eq_1, pex.eq_2, pex.eq_3, pex.eq_4, pex.eq_5, pex.eq_6, pex.eq_7, pex.eq_10, pex.eq_11, px, pxs, pe.eq_1, pe.eq_2, pe.eq_3, pe.eq_4, pe.eq_5, pe.eq_6, pe.eq_7, pe.eq_8, pe.eq_9, pe.eq_10, pe.eq_11, pes, pbnd, pret, startE, pprim, prim, lft, ret, a1, a2, int2, isMut, okSlot, doMut, pmut, show names.length < 100000 by omega]
def whBody : List S := [(.asg 13 (.comp false (.var 14) (.one 14) .rng1 [(.op .len [(.var 7)])] [(.andB (.op .ne [(.op .ix [(.var 7), (.var 14)]), (.op .ix [(.var 4), (.var 14)])]) (.op .nin [(.op .ix [(.var 4), (.var 14)]), (.var 7)]))] [14])),
  (.ite (.op .eq [(.var 13), (.op (.lst false) [])]) [(.asg 8 (.cst .non))] [(.exp (.mth .append (.var 8) [(.op .tup [(.cst (.str "name")), (.op .ix [(.var 7), (.op .ix [(.var 13), (.cst (.int 0))])]), (.op .ix [(.var 4), (.op .ix [(.var 13), (.cst (.int 0))])])])])),
  (.put (.var 7) (.op .ix [(.var 13), (.cst (.int 0))]) (.op .ix [(.var 4), (.op .ix [(.var 13), (.cst (.int 0))])]))])]
def whCond : E := .andB (.op .isnN [(.var 8)]) (.op .ne [(.var 7), (.var 4)])
theorem law_loop (k : Nat) (x0 x1 x2 x3 x5 x6 x9 x10 x11 x12 x15 : Option D) (names : List Str) (hd : names.length ≤ 6) (c : Nat) : ∀ (n w : Nat) (here : List Str) (made : List (Str × Str)) (x13 x14 : Option D), (mis here names).length ≤ n → n + 1 < w → here.length = names.length → made.length + n ≤ 6 →
    ∃ y7 y13 y14, pwhileL (pe (pruns T k) whCond) (pexs (pruns T k) [3, 4, 7, 8] whBody) w [x0, x1, x2, x3, some (.lst (names.map .str)), x5, x6, some (.lst (here.map .str)), some (.lst (made.map eName)), x9, x10, x11, x12, x13, x14, x15] c =
      .ok (.next [x0, x1, x2, x3, some (.lst (names.map .str)), x5, x6, y7, some (match nm n here names with
        | none => .non
        | some l => .lst ((made ++ l).map eName)), x9, x10, x11, x12, y13, y14, x15]) c := by
  have hne : ∀ (here : List Str) h, eqH true (.lst (here.map .str)) (.lst (names.map .str)) h = .ok (.bl (!decide (here = names))) h := fun here h => by
    simp only [eqH, top, pu, pu_strs 8, eqD, eqDs_str]
    simp
  intro n
  induction n with
  | zero =>
    intro w here made x13 x14 hm hw hl hn
    have hmis : mis here names = [] := List.length_eq_zero_iff.mp (by omega)
    have := (mis_nil hl).mp hmis
    subst this
    obtain ⟨w, rfl⟩ : ∃ v, w = v + 1 := ⟨w - 1, by omega⟩
    refine ⟨some (.lst (here.map .str)), x13, x14, ?_⟩
    simp only [nm, List.append_nil]
    exact pwhile_end (by simp [FnDef.prun, poutOf, pexs, pex.eq_1, pex.eq_2, pex.eq_3, pex.eq_4, pex.eq_5, pex.eq_6, pex.eq_7, pex.eq_10, pex.eq_11, px, pxs, pe.eq_1, pe.eq_2, pe.eq_3, pe.eq_4, pe.eq_5, pe.eq_6, pe.eq_7, pe.eq_8, pe.eq_9, pe.eq_10, pe.eq_11, pes, pbnd, pret, startE, pprim, prim, lft, ret, a1, a2, int2, whCond, hne])
  | succ n ih =>
    intro w here made x13 x14 hm hw hl hn
    obtain ⟨w, rfl⟩ : ∃ v, w = v + 1 := ⟨w - 1, by omega⟩
    by_cases hmis : mis here names = []
    · have := (mis_nil hl).mp hmis
      subst this
      refine ⟨some (.lst (here.map .str)), x13, x14, ?_⟩
      simp only [nm, hmis, if_true, List.append_nil]
      exact pwhile_end (by simp [FnDef.prun, poutOf, pexs, pex.eq_1, pex.eq_2, pex.eq_3, pex.eq_4, pex.eq_5, pex.eq_6, pex.eq_7, pex.eq_10, pex.eq_11, px, pxs, pe.eq_1, pe.eq_2, pe.eq_3, pe.eq_4, pe.eq_5, pe.eq_6, pe.eq_7, pe.eq_8, pe.eq_9, pe.eq_10, pe.eq_11, pes, pbnd, pret, startE, pprim, prim, lft, ret, a1, a2, int2, whCond, hne])
    · have hdiff : ¬ here = names := fun e => hmis ((mis_nil hl).mpr e)
      have go : ∀ (x13 x14 : Option D), pe (pruns T k) whCond [x0, x1, x2, x3, some (.lst (names.map .str)), x5, x6, some (.lst (here.map .str)), some (.lst (made.map eName)), x9, x10, x11, x12, x13, x14, x15] c = .ok (.bl true) c := fun x13 x14 => by
        simp [FnDef.prun, poutOf, pexs, pex.eq_1, pex.eq_2, pex.eq_3, pex.eq_4, pex.eq_5, pex.eq_6, pex.eq_7, pex.eq_10, pex.eq_11, px, pxs, pe.eq_1, pe.eq_2, pe.eq_3, pe.eq_4, pe.eq_5, pe.eq_6, pe.eq_7, pe.eq_8, pe.eq_9, pe.eq_10, pe.eq_11, pes, pbnd, pret, startE, pprim, prim, lft, ret, a1, a2, int2, whCond, hne, hdiff]
      have e1 := pcomp_filterT (bd := fun d => bindTg (.one 14) d (wipeE [x0, x1, x2, x3, some (.lst (names.map .str)), x5, x6, some (.lst (here.map .str)), some (.lst (made.map eName)), x9, x10, x11, x12, x13, x14, x15] [14])) (cond := pconds (pruns T k) [(.andB (.op .ne [(.op .ix [(.var 7), (.var 14)]), (.op .ix [(.var 4), (.var 14)])]) (.op .nin [(.op .ix [(.var 4), (.var 14)]), (.var 7)]))]) (elt := pe (pruns T k) (.var 14)) (c := c) eN (fun j => decide (here.getD j "" ≠ names.getD j "") && decide (names.getD j "" ∉ here)) eN (List.range here.length) (fun j hj => ⟨_, rfl, by
        have hj : j < here.length := List.mem_range.mp hj
        have q1 := fun c => ix_lst hj c
        have q2 := fun c => ix_lst (l := names) (k := j) (by omega) c
        simp only [eN]
        generalize here.getD j "" = u at *
        generalize names.getD j "" = v at *
        by_cases e : u = v
        · simp [FnDef.prun, poutOf, pexs, pex.eq_1, pex.eq_2, pex.eq_3, pex.eq_4, pex.eq_5, pex.eq_6, pex.eq_7, pex.eq_10, pex.eq_11, px, pxs, pe.eq_1, pe.eq_2, pe.eq_3, pe.eq_4, pe.eq_5, pe.eq_6, pe.eq_7, pe.eq_8, pe.eq_9, pe.eq_10, pe.eq_11, pes, pbnd, pret, startE, pprim, prim, lft, ret, a1, a2, int2, pconds, wipeE, eqH_int, eqH_str, eqH_row, eqH_rows, eqH_tab, lenD_row, lenD_rows, lenD_tab, lenD_lst, lenD_tup, ix_tab0, ix_tab1, q1, q2, e]
        · simp [FnDef.prun, poutOf, pexs, pex.eq_1, pex.eq_2, pex.eq_3, pex.eq_4, pex.eq_5, pex.eq_6, pex.eq_7, pex.eq_10, pex.eq_11, px, pxs, pe.eq_1, pe.eq_2, pe.eq_3, pe.eq_4, pe.eq_5, pe.eq_6, pe.eq_7, pe.eq_8, pe.eq_9, pe.eq_10, pe.eq_11, pes, pbnd, pret, startE, pprim, prim, lft, ret, a1, a2, int2, pconds, wipeE, eqH_int, eqH_str, eqH_row, eqH_rows, eqH_tab, lenD_row, lenD_rows, lenD_tab, lenD_lst, lenD_tup, ix_tab0, ix_tab1, q1, q2, e, inD_strs'], fun _ => by simp [FnDef.prun, poutOf, pexs, pex.eq_1, pex.eq_2, pex.eq_3, pex.eq_4, pex.eq_5, pex.eq_6, pex.eq_7, pex.eq_10, pex.eq_11, px, pxs, pe.eq_1, pe.eq_2, pe.eq_3, pe.eq_4, pe.eq_5, pe.eq_6, pe.eq_7, pe.eq_8, pe.eq_9, pe.eq_10, pe.eq_11, pes, pbnd, pret, startE, pprim, prim, lft, ret, a1, a2, int2, wipeE]⟩)
      have hfr : ((List.range here.length).filter fun j => decide (here.getD j "" ≠ names.getD j "") && decide (names.getD j "" ∉ here)) = frees here names := by
        unfold frees mis
        rw [List.filter_filter]
        apply List.filter_congr
        intro j _
        rw [Bool.and_comm]
      rw [hfr] at e1
      have hfl : (frees here names).length ≤ 6 := by
        have h1 : (frees here names).length ≤ (mis here names).length := List.length_filter_le _ _
        omega
      have e2 := pe_comp (m := false) (P := pruns T k) (r := [x0, x1, x2, x3, some (.lst (names.map .str)), x5, x6, some (.lst (here.map .str)), some (.lst (made.map eName)), x9, x10, x11, x12, x13, x14, x15]) (c := c) (c1 := c) (its := [(.op .len [(.var 7)])]) (k := .rng1) (ds := [.int here.length]) (xs := (List.range here.length).map eN) (by simp [FnDef.prun, poutOf, pexs, pex.eq_1, pex.eq_2, pex.eq_3, pex.eq_4, pex.eq_5, pex.eq_6, pex.eq_7, pex.eq_10, pex.eq_11, px, pxs, pe.eq_1, pe.eq_2, pe.eq_3, pe.eq_4, pe.eq_5, pe.eq_6, pe.eq_7, pe.eq_8, pe.eq_9, pe.eq_10, pe.eq_11, pes, pbnd, pret, startE, pprim, prim, lft, ret, a1, a2, int2, eqH_int, eqH_str, eqH_row, eqH_rows, eqH_tab, lenD_row, lenD_rows, lenD_tab, lenD_lst, lenD_tup, ix_tab0, ix_tab1]) (by
        have : -100000 ≤ (here.length : Int) ∧ (here.length : Int) ≤ 100000 := by omega
        simp only [pitems, List.all_cons, List.all_nil, notRef, Bool.and_self, if_true, itemsOf, itR1, if_pos this, Int.toNat_natCast]
        rfl) e1 (by rw [List.length_map]; omega)
      have hpu : ((frees here names).map eN).all (pu 8) = true := by
        simp only [List.all_map, List.all_eq_true, Function.comp]
        intro x _; rfl
      have st1 := pexs_next (P := pruns T k) (own := [3, 4, 7, 8]) (ss := whBody.tail) (r := [x0, x1, x2, x3, some (.lst (names.map .str)), x5, x6, some (.lst (here.map .str)), some (.lst (made.map eName)), x9, x10, x11, x12, x13, x14, x15]) (c := c) (c1 := c) (r1 := [x0, x1, x2, x3, some (.lst (names.map .str)), x5, x6, some (.lst (here.map .str)), some (.lst (made.map eName)), x9, x10, x11, x12, some (.lst ((frees here names).map eN)), x14, x15]) (s := whBody.head (by simp [whBody])) (by
        show pex _ _ (.asg 13 _) _ _ = _
        rw [pex.eq_1]; simp only [px, pbnd, e2, pret]; rfl)
      cases hf : frees here names with
      | nil =>
        have hb : pexs (pruns T k) [3, 4, 7, 8] whBody [x0, x1, x2, x3, some (.lst (names.map .str)), x5, x6, some (.lst (here.map .str)), some (.lst (made.map eName)), x9, x10, x11, x12, x13, x14, x15] c = .ok (.next [x0, x1, x2, x3, some (.lst (names.map .str)), x5, x6, some (.lst (here.map .str)), some .non, x9, x10, x11, x12, some (.lst []), x14, x15]) c := by
          refine st1.trans ?_
          rw [hf]
          simp only [whBody, List.tail_cons]
          have h00 : ∀ h, eqH false (.lst []) (.lst []) h = .ok (.bl true) h := fun h => eqH_lnil (n := false) (l := []) rfl
          simp [FnDef.prun, poutOf, pexs, pex.eq_1, pex.eq_2, pex.eq_3, pex.eq_4, pex.eq_5, pex.eq_6, pex.eq_7, pex.eq_10, pex.eq_11, px, pxs, pe.eq_1, pe.eq_2, pe.eq_3, pe.eq_4, pe.eq_5, pe.eq_6, pe.eq_7, pe.eq_8, pe.eq_9, pe.eq_10, pe.eq_11, pes, pbnd, pret, startE, pprim, prim, lft, ret, a1, a2, int2, mkL, h00]
        obtain ⟨w, rfl⟩ : ∃ v, w = v + 1 := ⟨w - 1, by omega⟩
        refine ⟨some (.lst (here.map .str)), some (.lst []), x14, (pwhile_go (go x13 x14) hb).trans ?_⟩
        rw [nm, if_neg hmis, hf]
        exact pwhile_end (by simp [FnDef.prun, poutOf, pexs, pex.eq_1, pex.eq_2, pex.eq_3, pex.eq_4, pex.eq_5, pex.eq_6, pex.eq_7, pex.eq_10, pex.eq_11, px, pxs, pe.eq_1, pe.eq_2, pe.eq_3, pe.eq_4, pe.eq_5, pe.eq_6, pe.eq_7, pe.eq_8, pe.eq_9, pe.eq_10, pe.eq_11, pes, pbnd, pret, startE, pprim, prim, lft, ret, a1, a2, int2, whCond])
      | cons a fs =>
        have hmem : a ∈ frees here names := by rw [hf]; exact List.mem_cons_self
        have ha : a ∈ mis here names := (List.mem_filter.mp hmem).1
        have hal := mem_mis ha
        obtain ⟨y7, y13, y14, step⟩ := ih w (here.set a (names.getD a "")) (made ++ [(here.getD a "", names.getD a "")]) (some (.lst ((frees here names).map eN))) x14 (by rw [mis_set ha, List.length_erase_of_mem ha]; omega) (by omega) (by simpa using hl) (by simp; omega)
        have hb : pexs (pruns T k) [3, 4, 7, 8] whBody [x0, x1, x2, x3, some (.lst (names.map .str)), x5, x6, some (.lst (here.map .str)), some (.lst (made.map eName)), x9, x10, x11, x12, x13, x14, x15] c = .ok (.next [x0, x1, x2, x3, some (.lst (names.map .str)), x5, x6, some (.lst ((here.set a (names.getD a "")).map .str)), some (.lst ((made ++ [(here.getD a "", names.getD a "")]).map eName)), x9, x10, x11, x12, some (.lst ((frees here names).map eN)), x14, x15]) c := by
          refine st1.trans ?_
          rw [hf]
          have hix : ixN here.length (a : Int) = some a := by
            simp only [ixN, show (0 : Int) ≤ (a : Int) by omega, show (a : Int) < (here.length : Int) by omega, if_true, Int.toNat_natCast]
          have hr : ∀ c, ixD (.lst (names.map .str)) (.int (a : Int)) [Tn c] = .ok (.str (names.getD a "")) [Tn c] := fun c => ix_lst (by omega) c
          have hh : ∀ c, ixD (.lst (here.map .str)) (.int (a : Int)) [Tn c] = .ok (.str (here.getD a "")) [Tn c] := fun c => ix_lst hal c
          have hset : (here.map D.str).set a (.str (names.getD a "")) = (here.set a (names.getD a "")).map .str := by rw [List.map_set]
          rw [hf] at hpu
          have hml : made.length < 100000 := by omega
          simp only [List.map_cons, whBody, List.tail_cons] at hpu ⊢
          have ht : pe (pruns T k) (.op .eq [(.var 13), (.op (.lst false) [])]) [x0, x1, x2, x3, some (.lst (names.map .str)), x5, x6, some (.lst (here.map .str)), some (.lst (made.map eName)), x9, x10, x11, x12, some (.lst (eN a :: fs.map eN)), x14, x15] c = .ok (.bl false) c := by
            simp [FnDef.prun, poutOf, pexs, pex.eq_1, pex.eq_2, pex.eq_3, pex.eq_4, pex.eq_5, pex.eq_6, pex.eq_7, pex.eq_10, pex.eq_11, px, pxs, pe.eq_1, pe.eq_2, pe.eq_3, pe.eq_4, pe.eq_5, pe.eq_6, pe.eq_7, pe.eq_8, pe.eq_9, pe.eq_10, pe.eq_11, pes, pbnd, pret, startE, pprim, prim, lft, ret, a1, a2, int2, mkL, eqH_lnil hpu]
          have hl0 : ∀ h, ixD (.lst (eN a :: fs.map eN)) (.int 0) h = .ok (.int (a : Int)) h := fun h => lx0
          rw [pexs, pbnd_ok (a := Fl.next [x0, x1, x2, x3, some (.lst (names.map .str)), x5, x6, some (.lst ((here.set a (names.getD a "")).map .str)), some (.lst ((made ++ [(here.getD a "", names.getD a "")]).map eName)), x9, x10, x11, x12, some (.lst (eN a :: fs.map eN)), x14, x15]) (c' := c)]
          · simp [FnDef.prun, poutOf, pexs, pex.eq_1, pex.eq_2, pex.eq_3, pex.eq_4, pex.eq_5, pex.eq_6, pex.eq_7, pex.eq_10, pex.eq_11, px, pxs, pe.eq_1, pe.eq_2, pe.eq_3, pe.eq_4, pe.eq_5, pe.eq_6, pe.eq_7, pe.eq_8, pe.eq_9, pe.eq_10, pe.eq_11, pes, pbnd, pret, startE, pprim, prim, lft, ret, a1, a2, int2]
          · rw [pex.eq_7, pbnd_ok ht]
            refine (pexs_next (r1 := [x0, x1, x2, x3, some (.lst (names.map .str)), x5, x6, some (.lst (here.map .str)), some (.lst ((made ++ [(here.getD a "", names.getD a "")]).map eName)), x9, x10, x11, x12, some (.lst (eN a :: fs.map eN)), x14, x15]) (c1 := c) ?_).trans ((pexs_next (c1 := c) (r1 := [x0, x1, x2, x3, some (.lst (names.map .str)), x5, x6, some (.lst ((here.set a (names.getD a "")).map .str)), some (.lst ((made ++ [(here.getD a "", names.getD a "")]).map eName)), x9, x10, x11, x12, some (.lst (eN a :: fs.map eN)), x14, x15]) ?_).trans rfl)
            · simp [FnDef.prun, poutOf, pexs, pex.eq_1, pex.eq_2, pex.eq_3, pex.eq_4, pex.eq_5, pex.eq_6, pex.eq_7, pex.eq_10, pex.eq_11, px, pxs, pe.eq_1, pe.eq_2, pe.eq_3, pe.eq_4, pe.eq_5, pe.eq_6, pe.eq_7, pe.eq_8, pe.eq_9, pe.eq_10, pe.eq_11, pes, pbnd, pret, startE, pprim, prim, lft, ret, a1, a2, int2, isMut, okSlot, doMut, pmut, hml, mkT, hr, hh, hl0, eName]
            · simp [FnDef.prun, poutOf, pexs, pex.eq_1, pex.eq_2, pex.eq_3, pex.eq_4, pex.eq_5, pex.eq_6, pex.eq_7, pex.eq_10, pex.eq_11, px, pxs, pe.eq_1, pe.eq_2, pe.eq_3, pe.eq_4, pe.eq_5, pe.eq_6, pe.eq_7, pe.eq_8, pe.eq_9, pe.eq_10, pe.eq_11, pes, pbnd, pret, startE, pprim, prim, lft, ret, a1, a2, int2, okSlot, hr, hl0, doPut, hix]
        refine ⟨y7, y13, y14, (pwhile_go (go x13 x14) hb).trans ?_⟩
        rw [step, nm, if_neg hmis, hf]
        dsimp only
        cases nm n (here.set a (names.getD a "")) names with
        | none => rfl
        | some l => simp
theorem w6_word : ∀ x ∈ w6, wordB x = true := by decide +kernel
theorem c11_cell : ∀ x ∈ c11, cellB x = true := by decide +kernel
theorem eqD_name (p q : Str × Str) : eqD (eName p) (eName q) = decide (p = q) := by
  obtain ⟨a, b⟩ := p
  obtain ⟨x, y⟩ := q
  simp only [eName, eqD, eqDs, dec_beq, Prod.mk.injEq]
  by_cases h : a = x <;> by_cases h2 : b = y <;> simp [h, h2]
theorem eqDs_names : ∀ (l m : List (Str × Str)), eqDs (l.map eName) (m.map eName) = decide (l = m)
  | [], [] => rfl
  | [], _ :: _ => rfl
  | _ :: _, [] => rfl
  | x :: l, y :: m => by
    simp only [List.map_cons, eqDs, eqD_name, eqDs_names l m, List.cons.injEq]
    by_cases h : x = y <;> by_cases h2 : l = m <;> simp [h, h2]
def pq : List Str := ["p", "q"]
def xx : Str := "x"
def nw : Str := "new"
theorem getD_mem {l : List Str} {a : Nat} (h : a < l.length) : l.getD a "" ∈ l := by
  rw [List.getD_eq_getElem?_getD, List.getElem?_eq_getElem h]; exact List.getElem_mem _
theorem nm_in (other : List Str) : ∀ (n : Nat) (here : List Str) (l : List (Str × Str)), here.length = other.length → nm n here other = some l → ∀ p ∈ l, (p.1 ∈ here ∨ p.1 ∈ other) ∧ p.2 ∈ other
  | 0, here, l, _, h, p, hp => by cases h; cases hp
  | n + 1, here, l, hl, h, p, hp => by
    rw [nm] at h
    split at h
    · cases h; cases hp
    · split at h
      · cases h
      · rename_i a fs hf
        cases hr : nm n (here.set a (other.getD a "")) other with
        | none => rw [hr] at h; cases h
        | some m =>
          rw [hr] at h
          cases h
          have hmem : a ∈ frees here other := by rw [hf]; exact List.mem_cons_self
          have ha := mem_mis (List.mem_filter.mp hmem).1
          rcases List.mem_cons.mp hp with e | e
          · subst e
            exact ⟨.inl (getD_mem ha), getD_mem (by omega)⟩
          · obtain ⟨q1, q2⟩ := nm_in other n _ m (by simpa using hl) hr p e
            refine ⟨?_, q2⟩
            rcases q1 with q | q
            · rcases List.mem_or_eq_of_mem_set q with z | z
              · exact .inl z
              · exact .inr (z ▸ getD_mem (by omega))
            · exact .inr q
theorem law28 (ns : List Int) : ∃ c', f30_law.plaw (pruns T 29) ns = .ok (.bl true) c' := by
  obtain ⟨cs, rs, c1, _, hc1, nd, inw, lm, lr, good, e1⟩ := P_table 23 ns 0 (by omega) 6 3 (by omega) (by omega)
  have hcs : cs.length ≤ 6 := by omega
  have hok : TabOK cs rs := ⟨⟨hcs, fun x hx => w6_word x (inw x hx), nd⟩, by omega, fun r hr => ⟨(good r hr).1, fun x hx => c11_cell x ((good r hr).2 x hx)⟩⟩
  -- the other names
  let E0 : Env := [some (.scr ns), some (.ref 0), some (eTab cs rs), some (.lst ((cs ++ pq).map .str)), some (.lst []), none, none, none, none, none, none, none, none, none, none, none]
  let I : Nat → Env → Nat → Prop := fun i r c' => ∃ (left names : List Str) (x5 x11 x12 : Option D), r = [some (.scr ns), some (.ref 0), some (eTab cs rs), some (.lst (left.map .str)), some (.lst (names.map .str)), x5, none, none, none, none, none, x11, x12, none, none, none] ∧ c' ≤ c1 + 2 * i ∧ names.length = i ∧ (names ++ left).Perm (cs ++ pq)
  obtain ⟨r', c2, e2, left, names, x5, x11, x12, rfl, hc2, nl, pm⟩ := pfor_inv (bd := bindTg (.one 5)) (body := pexs (pruns T 29) [3, 4, 7, 8] forBody) I (cs.map .str) 0 E0 c1 ⟨cs ++ pq, [], none, none, none, rfl, by omega, rfl, List.Perm.refl _⟩ (by
    rintro j x r cc hx ⟨left, names, x5, x11, x12, rfl, hcc, nl, pm⟩
    have hj : j < cs.length := by
      have := (List.getElem?_eq_some_iff.mp hx).1
      simpa using this
    obtain ⟨s, _, rfl⟩ := List.mem_map.mp (List.mem_of_getElem? hx)
    have hlen := pm.length_eq
    simp only [List.length_append, List.length_cons, List.length_nil] at hlen
    obtain ⟨new, c', y11, m1, m2, m3, e⟩ := for_turn 25 ns cc (by omega) (some (eTab cs rs)) none none none none none x11 x12 none none none left names s (by intro q; subst q; simp at hlen; omega) (by omega)
    refine ⟨_, _, _, rfl, e, left.erase new, names ++ [new], some (.str s), y11, some (.str new), rfl, by omega, by simp [nl], ?_⟩
    rw [List.append_assoc]
    exact (List.Perm.append_left names (by simpa using (List.perm_cons_erase m1).symm)).trans pm)
  simp only [List.length_map, Nat.zero_add] at nl hc2
  have ndn : names.Nodup := by
    have : (cs ++ pq).Nodup := by
      rw [List.nodup_append]
      refine ⟨nd, by decide, fun x hx y hy e => ?_⟩
      subst e
      have := inw x hx
      revert hy
      revert this
      revert x
      have key : ∀ x ∈ w6, ¬ x ∈ pq := by decide
      intro x hx hw hy
      exact key x hw hy
    have := pm.nodup_iff.mpr this
    exact (List.nodup_append.mp this).1
  have inn : ∀ x ∈ names, x ∈ w6 ++ pq := fun x hx => by
    have := pm.subset (List.mem_append_left left hx)
    rcases List.mem_append.mp this with q | q
    · exact List.mem_append_left _ (inw x q)
    · exact List.mem_append_right _ q
  have wok : ∀ x ∈ w6 ++ pq, wordB x = true := by decide +kernel
  have hok2 : TabOK names rs := ⟨⟨by omega, fun x hx => wok x (inn x hx), ndn⟩, by omega, fun r hr => ⟨by rw [(good r hr).1, nl], fun x hx => c11_cell x ((good r hr).2 x hx)⟩⟩
  have hmis : (mis cs names).length ≤ 6 := by
    have : (mis cs names).length ≤ (List.range cs.length).length := List.length_filter_le _ _
    rw [List.length_range] at this; omega
  obtain ⟨y7, y13, y14, e3⟩ := law_loop 29 (some (.scr ns)) (some (.ref 0)) (some (eTab cs rs)) (some (.lst (left.map .str))) x5 (some (eTab names rs)) none none x11 x12 none names (by omega) c2 6 1000 cs [] none none hmis (by omega) nl.symm (by simp)
  have e4 := P_named 24 cs names rs rs hok hok2 c2
  have hnv : namedV cs rs names rs = nm 6 cs names := by
    rw [namedV, if_neg]; simp [nl]
  rw [hnv] at e4
  simp only [List.map_nil, List.nil_append] at e3
  have hrw : ∀ (r : List Str), r ∈ rs → r.length = cs.length := fun r hr => (good r hr).1
  have hx : cellB xx = true := by decide +kernel
  have hnewW : wordB nw = true := by decide +kernel
  -- with a row more
  have hok3 : TabOK names (rs ++ [List.replicate names.length xx]) := by
    refine ⟨hok2.1, by simp; omega, fun r hr => ?_⟩
    rcases List.mem_append.mp hr with q | q
    · exact hok2.2.2 r q
    · simp only [List.mem_singleton] at q
      subst q
      exact ⟨by simp, fun x hx' => by rw [(List.mem_replicate.mp hx').2]; exact hx⟩
  have e5 := P_named 24 cs names rs (rs ++ [List.replicate names.length xx]) hok hok3 c2
  have hnv2 : namedV cs rs names (rs ++ [List.replicate names.length xx]) = none := by
    rw [namedV, if_pos]
    left; intro q
    have := congrArg List.length q
    simp at this
  rw [hnv2] at e5
  -- the steps
  have hset : (startE f30_law.np f30_law.ns [.scr ns]).set 1 (some (.ref 0)) = [some (.scr ns), some (.ref 0), none, none, none, none, none, none, none, none, none, none, none, none, none, none] := rfl
  have st1 : pexs (pruns T 29) [3, 4, 7, 8] (f30_law.body.drop 1) [some (.scr ns), some (.ref 0), none, none, none, none, none, none, none, none, none, none, none, none, none, none] 0 =
      pexs (pruns T 29) [3, 4, 7, 8] (f30_law.body.drop 3) E0 c1 := by
    refine (pexs_next (r1 := [some (.scr ns), some (.ref 0), some (eTab cs rs), none, none, none, none, none, none, none, none, none, none, none, none, none]) (c1 := c1) ?_).trans (pexs_next ?_)
    · simp [FnDef.prun, poutOf, pexs, pex.eq_1, pex.eq_2, pex.eq_3, pex.eq_4, pex.eq_5, pex.eq_6, pex.eq_7, pex.eq_10, pex.eq_11, px, pxs, pe.eq_1, pe.eq_2, pe.eq_3, pe.eq_4, pe.eq_5, pe.eq_6, pe.eq_7, pe.eq_8, pe.eq_9, pe.eq_10, pe.eq_11, pes, pbnd, pret, startE, pprim, prim, lft, ret, a1, a2, int2, e1]
    · have hb : (cs.map D.str).length + 2 ≤ 100000 := by simp; omega
      simp only [List.length_map] at hb
      simp [FnDef.prun, poutOf, pexs, pex.eq_1, pex.eq_2, pex.eq_3, pex.eq_4, pex.eq_5, pex.eq_6, pex.eq_7, pex.eq_10, pex.eq_11, px, pxs, pe.eq_1, pe.eq_2, pe.eq_3, pe.eq_4, pe.eq_5, pe.eq_6, pe.eq_7, pe.eq_8, pe.eq_9, pe.eq_10, pe.eq_11, pes, pbnd, pret, startE, pprim, prim, lft, ret, a1, a2, int2, eqH_int, eqH_str, eqH_row, eqH_rows, eqH_tab, lenD_row, lenD_rows, lenD_tab, lenD_lst, lenD_tup, ix_tab0, ix_tab1, pList, mkL, addD, lstT, bindTg, setAll, mkT, E0, pq]
      simp [FnDef.prun, poutOf, pexs, pex.eq_1, pex.eq_2, pex.eq_3, pex.eq_4, pex.eq_5, pex.eq_6, pex.eq_7, pex.eq_10, pex.eq_11, px, pxs, pe.eq_1, pe.eq_2, pe.eq_3, pe.eq_4, pe.eq_5, pe.eq_6, pe.eq_7, pe.eq_8, pe.eq_9, pe.eq_10, pe.eq_11, pes, pbnd, pret, startE, pprim, prim, lft, ret, a1, a2, int2, eRow, seqOf, top, mkL, addD, lstT, bindTg, setAll, mkT, hb, show cs.length ≤ 100000 by omega]
  have st2 : pexs (pruns T 29) [3, 4, 7, 8] (f30_law.body.drop 3) E0 c1 = pexs (pruns T 29) [3, 4, 7, 8] (f30_law.body.drop 4) [some (.scr ns), some (.ref 0), some (eTab cs rs), some (.lst (left.map .str)), some (.lst (names.map .str)), x5, none, none, none, none, none, x11, x12, none, none, none] c2 := by
    refine pexs_next (pex_for (ds := [eRow cs]) (c1 := c1) ?_ rfl e2)
    simp [FnDef.prun, poutOf, pexs, pex.eq_1, pex.eq_2, pex.eq_3, pex.eq_4, pex.eq_5, pex.eq_6, pex.eq_7, pex.eq_10, pex.eq_11, px, pxs, pe.eq_1, pe.eq_2, pe.eq_3, pe.eq_4, pe.eq_5, pe.eq_6, pe.eq_7, pe.eq_8, pe.eq_9, pe.eq_10, pe.eq_11, pes, pbnd, pret, startE, pprim, prim, lft, ret, a1, a2, int2, eqH_int, eqH_str, eqH_row, eqH_rows, eqH_tab, lenD_row, lenD_rows, lenD_tab, lenD_lst, lenD_tup, ix_tab0, ix_tab1, E0]
  have st3 : pexs (pruns T 29) [3, 4, 7, 8] (f30_law.body.drop 4) [some (.scr ns), some (.ref 0), some (eTab cs rs), some (.lst (left.map .str)), some (.lst (names.map .str)), x5, none, none, none, none, none, x11, x12, none, none, none] c2 =
      pexs (pruns T 29) [3, 4, 7, 8] (f30_law.body.drop 7) [some (.scr ns), some (.ref 0), some (eTab cs rs), some (.lst (left.map .str)), some (.lst (names.map .str)), x5, some (eTab names rs), y7, some (match nm 6 cs names with
        | none => .non
        | some l => .lst (l.map eName)), none, none, x11, x12, y13, y14, none] c2 := by
    refine (pexs_next (r1 := [some (.scr ns), some (.ref 0), some (eTab cs rs), some (.lst (left.map .str)), some (.lst (names.map .str)), x5, some (eTab names rs), none, none, none, none, x11, x12, none, none, none]) (c1 := c2) ?_).trans ((pexs_next (r1 := [some (.scr ns), some (.ref 0), some (eTab cs rs), some (.lst (left.map .str)), some (.lst (names.map .str)), x5, some (eTab names rs), some (.lst (cs.map .str)), some (.lst []), none, none, x11, x12, none, none, none]) (c1 := c2) ?_).trans (pexs_next ?_))
    · simp [FnDef.prun, poutOf, pexs, pex.eq_1, pex.eq_2, pex.eq_3, pex.eq_4, pex.eq_5, pex.eq_6, pex.eq_7, pex.eq_10, pex.eq_11, px, pxs, pe.eq_1, pe.eq_2, pe.eq_3, pe.eq_4, pe.eq_5, pe.eq_6, pe.eq_7, pe.eq_8, pe.eq_9, pe.eq_10, pe.eq_11, pes, pbnd, pret, startE, pprim, prim, lft, ret, a1, a2, int2, eqH_int, eqH_str, eqH_row, eqH_rows, eqH_tab, lenD_row, lenD_rows, lenD_tab, lenD_lst, lenD_tup, ix_tab0, ix_tab1, pTuple, mkT]
      simp [seqOf, top, eTab, eRow, mkT, FnDef.prun, poutOf, pexs, pex.eq_1, pex.eq_2, pex.eq_3, pex.eq_4, pex.eq_5, pex.eq_6, pex.eq_7, pex.eq_10, pex.eq_11, px, pxs, pe.eq_1, pe.eq_2, pe.eq_3, pe.eq_4, pe.eq_5, pe.eq_6, pe.eq_7, pe.eq_8, pe.eq_9, pe.eq_10, pe.eq_11, pes, pbnd, pret, startE, pprim, prim, lft, ret, a1, a2, int2]
    · simp [FnDef.prun, poutOf, pexs, pex.eq_1, pex.eq_2, pex.eq_3, pex.eq_4, pex.eq_5, pex.eq_6, pex.eq_7, pex.eq_10, pex.eq_11, px, pxs, pe.eq_1, pe.eq_2, pe.eq_3, pe.eq_4, pe.eq_5, pe.eq_6, pe.eq_7, pe.eq_8, pe.eq_9, pe.eq_10, pe.eq_11, pes, pbnd, pret, startE, pprim, prim, lft, ret, a1, a2, int2, eqH_int, eqH_str, eqH_row, eqH_rows, eqH_tab, lenD_row, lenD_rows, lenD_tab, lenD_lst, lenD_tup, ix_tab0, ix_tab1, pList, mkL, mkT]
      simp [FnDef.prun, poutOf, pexs, pex.eq_1, pex.eq_2, pex.eq_3, pex.eq_4, pex.eq_5, pex.eq_6, pex.eq_7, pex.eq_10, pex.eq_11, px, pxs, pe.eq_1, pe.eq_2, pe.eq_3, pe.eq_4, pe.eq_5, pe.eq_6, pe.eq_7, pe.eq_8, pe.eq_9, pe.eq_10, pe.eq_11, pes, pbnd, pret, startE, pprim, prim, lft, ret, a1, a2, int2, eRow, seqOf, top, mkL, bindTg, setAll, mkT, show cs.length ≤ 100000 by omega]
    · rw [pex.eq_9]; exact e3
  have hfin : ∀ (d8 d9 : D) (y7 y13 y14 : Option D), pexs (pruns T 29) [3, 4, 7, 8] (f30_law.body.drop 10) [some (.scr ns), some (.ref 0), some (eTab cs rs), some (.lst (left.map .str)), some (.lst (names.map .str)), x5, some (eTab names rs), y7, some d8, some d9, none, x11, x12, y13, y14, none] c2 = .ok (.ret (.bl true)) c2 := fun d8 d9 y7 y13 y14 => by
    have hm : ∀ h, mulD false (.lst [.str "x"]) (.int (names.length : Int)) h = .ok (.lst ((List.replicate names.length xx).map .str)) h := fun h => by
      have hk : 0 ≤ (names.length : Int) ∧ (names.length : Int) ≤ 100 := by omega
      have hfl : (List.replicate names.length [D.str "x"]).flatten = (List.replicate names.length xx).map .str := by
        rw [List.map_replicate]
        generalize names.length = n
        induction n with
        | zero => rfl
        | succ n ih => rw [List.replicate_succ, List.flatten_cons, ih]; rfl
      simp only [mulD, lstT, List.length_cons, List.length_nil, Int.toNat_natCast, hfl]
      simp [mkL, hk, ret, show names.length ≤ 100000 by omega]
    have hadd : ∀ h, addD false (eRows rs) (.tup [eRow (List.replicate names.length xx)]) h = .ok (eRows (rs ++ [List.replicate names.length xx])) h := fun h => by
      have : rs.length + 1 ≤ 100000 := by omega
      simp [addD, eRows, mkT, this, ret]
    have e5' : pruns T 29 13 [eTab cs rs, .tup [eRow names, eRows (rs ++ [List.replicate names.length xx])]] c2 = .ok .non c2 := e5
    have t1 : pe (pruns T 29) (.op .isnN [(.op (.call 13) [(.var 2), (.op .tup [(.op .ix [(.var 6), (.cst (.int 0))]), (.op (.add false) [(.op .ix [(.var 2), (.cst (.int 1))]), (.op .tup [(.op .tuple [(.op (.mul false) [(.op (.lst false) [(.cst (.str "x"))]), (.op .len [(.var 4)])])])])])])])]) [some (.scr ns), some (.ref 0), some (eTab cs rs), some (.lst (left.map .str)), some (.lst (names.map .str)), x5, some (eTab names rs), y7, some d8, some d9, none, x11, x12, y13, y14, none] c2 = .ok (.bl false) c2 := by
      generalize hgen : List.replicate names.length xx = rep at *
      have htup : ∀ h, pTuple (.lst (rep.map .str)) h = .ok (eRow rep) h := fun h => rfl
      simp [FnDef.prun, poutOf, pexs, pex.eq_1, pex.eq_2, pex.eq_3, pex.eq_4, pex.eq_5, pex.eq_6, pex.eq_7, pex.eq_10, pex.eq_11, px, pxs, pe.eq_1, pe.eq_2, pe.eq_3, pe.eq_4, pe.eq_5, pe.eq_6, pe.eq_7, pe.eq_8, pe.eq_9, pe.eq_10, pe.eq_11, pes, pbnd, pret, startE, pprim, prim, lft, ret, a1, a2, int2, eqH_int, eqH_str, eqH_row, eqH_rows, eqH_tab, lenD_row, lenD_rows, lenD_tab, lenD_lst, lenD_tup, ix_tab0, ix_tab1, mkL, hm, htup, mkT, hadd, e5']
    refine (pexs_skip (c1 := c2) t1).trans ?_
    by_cases h6 : names.length = 6
    · exact pexs_in (c1 := c2) (by simp [FnDef.prun, poutOf, pexs, pex.eq_1, pex.eq_2, pex.eq_3, pex.eq_4, pex.eq_5, pex.eq_6, pex.eq_7, pex.eq_10, pex.eq_11, px, pxs, pe.eq_1, pe.eq_2, pe.eq_3, pe.eq_4, pe.eq_5, pe.eq_6, pe.eq_7, pe.eq_8, pe.eq_9, pe.eq_10, pe.eq_11, pes, pbnd, pret, startE, pprim, prim, lft, ret, a1, a2, int2, eqH_int, eqH_str, eqH_row, eqH_rows, eqH_tab, lenD_row, lenD_rows, lenD_tab, lenD_lst, lenD_tup, ix_tab0, ix_tab1, h6]) (by simp [FnDef.prun, poutOf, pexs, pex.eq_1, pex.eq_2, pex.eq_3, pex.eq_4, pex.eq_5, pex.eq_6, pex.eq_7, pex.eq_10, pex.eq_11, px, pxs, pe.eq_1, pe.eq_2, pe.eq_3, pe.eq_4, pe.eq_5, pe.eq_6, pe.eq_7, pe.eq_8, pe.eq_9, pe.eq_10, pe.eq_11, pes, pbnd, pret, startE, pprim, prim, lft, ret, a1, a2, int2])
    · have hrl : (rs.map fun r => r ++ [xx]).length = rs.length := by simp
      have hok4 : TabOK (names ++ [nw]) (rs.map fun r => r ++ [xx]) := by
        refine ⟨⟨by simp; omega, fun x hx' => ?_, ?_⟩, by simp; omega, fun r hr => ?_⟩
        · rcases List.mem_append.mp hx' with q | q
          · exact hok2.1.2.1 x q
          · simp only [List.mem_singleton] at q; subst q; exact hnewW
        · rw [List.nodup_append]
          refine ⟨ndn, by simp, fun x hx' y hy e => ?_⟩
          simp only [List.mem_singleton] at hy
          subst hy; subst e
          have key : ∀ x ∈ w6 ++ pq, ¬ x = nw := by decide
          exact key _ (inn _ hx') rfl
        · obtain ⟨r0, hr0, rfl⟩ := List.mem_map.mp hr
          refine ⟨by simp [hrw r0 hr0, nl], fun x hx' => ?_⟩
          rcases List.mem_append.mp hx' with q | q
          · exact (hok2.2.2 r0 hr0).2 x q
          · simp only [List.mem_singleton] at q; subst q; exact hx
      have e6 := P_named 24 cs (names ++ [nw]) rs (rs.map fun r => r ++ [xx]) hok hok4 c2
      have hnv3 : namedV cs rs (names ++ [nw]) (rs.map fun r => r ++ [xx]) = none := by
        rw [namedV, if_pos]
        right; simp [nl]
      rw [hnv3] at e6
      have e6' : pruns T 29 13 [eTab cs rs, .tup [eRow (names ++ [nw]), eRows (rs.map fun r => r ++ [xx])]] c2 = .ok .non c2 := e6
      have c7 := pcomp_mapT (bd := fun d => bindTg (.one 15) d (wipeE [some (.scr ns), some (.ref 0), some (eTab cs rs), some (.lst (left.map .str)), some (.lst (names.map .str)), x5, some (eTab names rs), y7, some d8, some d9, none, x11, x12, y13, y14, none] [15])) (cond := pconds (pruns T 29) []) (elt := pe (pruns T 29) (.op (.add false) [(.var 15), (.op .tup [(.cst (.str "x"))])])) (c := c2) eRow (fun r => eRow (r ++ [xx])) rs (fun r hr => ⟨_, rfl, rfl, by
        have : ∀ h, addD false (eRow r) (.tup [.str "x"]) h = .ok (eRow (r ++ [xx])) h := fun h => add_row (b := [xx]) (by have := hrw r hr; simp; omega)
        simp [FnDef.prun, poutOf, pexs, pex.eq_1, pex.eq_2, pex.eq_3, pex.eq_4, pex.eq_5, pex.eq_6, pex.eq_7, pex.eq_10, pex.eq_11, px, pxs, pe.eq_1, pe.eq_2, pe.eq_3, pe.eq_4, pe.eq_5, pe.eq_6, pe.eq_7, pe.eq_8, pe.eq_9, pe.eq_10, pe.eq_11, pes, pbnd, pret, startE, pprim, prim, lft, ret, a1, a2, int2, wipeE, mkT, this]⟩)
      have c8 := pe_comp (m := false) (P := pruns T 29) (r := [some (.scr ns), some (.ref 0), some (eTab cs rs), some (.lst (left.map .str)), some (.lst (names.map .str)), x5, some (eTab names rs), y7, some d8, some d9, none, x11, x12, y13, y14, none]) (c := c2) (c1 := c2) (its := [(.op .ix [(.var 2), (.cst (.int 1))])]) (k := .seq) (ds := [eRows rs]) (by simp [FnDef.prun, poutOf, pexs, pex.eq_1, pex.eq_2, pex.eq_3, pex.eq_4, pex.eq_5, pex.eq_6, pex.eq_7, pex.eq_10, pex.eq_11, px, pxs, pe.eq_1, pe.eq_2, pe.eq_3, pe.eq_4, pe.eq_5, pe.eq_6, pe.eq_7, pe.eq_8, pe.eq_9, pe.eq_10, pe.eq_11, pes, pbnd, pret, startE, pprim, prim, lft, ret, a1, a2, int2, eqH_int, eqH_str, eqH_row, eqH_rows, eqH_tab, lenD_row, lenD_rows, lenD_tab, lenD_lst, lenD_tup, ix_tab0, ix_tab1]) rfl c7 (by simp; omega)
      have hadd2 : ∀ h, addD false (eRow names) (.tup [.str "new"]) h = .ok (eRow (names ++ [nw])) h := fun h => add_row (b := [nw]) (by simp; omega)
      have h6' : ¬ (names.length : Int) = 6 := by omega
      refine (pexs_skip (c1 := c2) ?_).trans ((pexs_next (r1 := [some (.scr ns), some (.ref 0), some (eTab cs rs), some (.lst (left.map .str)), some (.lst (names.map .str)), x5, some (eTab names rs), y7, some d8, some d9, some (eRows (rs.map fun r => r ++ [xx])), x11, x12, y13, y14, none]) (c1 := c2) ?_).trans (pexs_ret ?_))
      · simp [FnDef.prun, poutOf, pexs, pex.eq_1, pex.eq_2, pex.eq_3, pex.eq_4, pex.eq_5, pex.eq_6, pex.eq_7, pex.eq_10, pex.eq_11, px, pxs, pe.eq_1, pe.eq_2, pe.eq_3, pe.eq_4, pe.eq_5, pe.eq_6, pe.eq_7, pe.eq_8, pe.eq_9, pe.eq_10, pe.eq_11, pes, pbnd, pret, startE, pprim, prim, lft, ret, a1, a2, int2, eqH_int, eqH_str, eqH_row, eqH_rows, eqH_tab, lenD_row, lenD_rows, lenD_tab, lenD_lst, lenD_tup, ix_tab0, ix_tab1, decide_eq_false h6']
      · have hmm : (rs.map fun r => eRow (r ++ [xx])) = (rs.map fun r => r ++ [xx]).map eRow := by rw [List.map_map]; rfl
        rw [hmm] at c8
        generalize (rs.map fun r => r ++ [xx]) = ws at *
        have htup : ∀ h, pTuple (.lst (ws.map eRow)) h = .ok (eRows ws) h := fun h => rfl
        simp [FnDef.prun, poutOf, pexs, pex.eq_1, pex.eq_2, pex.eq_3, pex.eq_4, pex.eq_5, pex.eq_6, pex.eq_7, pex.eq_10, pex.eq_11, px, pxs, pe.eq_1, pe.eq_2, pe.eq_3, pe.eq_4, pe.eq_5, pe.eq_6, pe.eq_7, pe.eq_8, pe.eq_9, pe.eq_10, pe.eq_11, pes, pbnd, pret, startE, pprim, prim, lft, ret, a1, a2, int2, c8, htup]
      · generalize (rs.map fun r => r ++ [xx]) = ws at *
        simp [FnDef.prun, poutOf, pexs, pex.eq_1, pex.eq_2, pex.eq_3, pex.eq_4, pex.eq_5, pex.eq_6, pex.eq_7, pex.eq_10, pex.eq_11, px, pxs, pe.eq_1, pe.eq_2, pe.eq_3, pe.eq_4, pe.eq_5, pe.eq_6, pe.eq_7, pe.eq_8, pe.eq_9, pe.eq_10, pe.eq_11, pes, pbnd, pret, startE, pprim, prim, lft, ret, a1, a2, int2, eqH_int, eqH_str, eqH_row, eqH_rows, eqH_tab, lenD_row, lenD_rows, lenD_tab, lenD_lst, lenD_tup, ix_tab0, ix_tab1, mkT, hadd2, e6']
  refine ⟨c2, ?_⟩
  show poutOf (pexs (pruns T 29) [3, 4, 7, 8] (f30_law.body.drop 1) _) 0 = _
  suffices hs : pexs (pruns T 29) [3, 4, 7, 8] (f30_law.body.drop 1) ((startE f30_law.np f30_law.ns [.scr ns]).set 1 (some (.ref 0))) 0 = .ok (.ret (.bl true)) c2 by
    simp only [poutOf, pbnd, hs, pret]
  rw [hset]
  refine st1.trans (st2.trans (st3.trans ?_))
  cases hz : nm 6 cs names with
  | none =>
    rw [hz] at e4
    simp only [eOpt] at e4
    refine (pexs_next (r1 := [some (.scr ns), some (.ref 0), some (eTab cs rs), some (.lst (left.map .str)), some (.lst (names.map .str)), x5, some (eTab names rs), y7, some .non, some .non, none, x11, x12, y13, y14, none]) (c1 := c2) ?_).trans ((pexs_skip (c1 := c2) ?_).trans ((pexs_skip (c1 := c2) ?_).trans (hfin _ _ _ _ _)))
    · simp [FnDef.prun, poutOf, pexs, pex.eq_1, pex.eq_2, pex.eq_3, pex.eq_4, pex.eq_5, pex.eq_6, pex.eq_7, pex.eq_10, pex.eq_11, px, pxs, pe.eq_1, pe.eq_2, pe.eq_3, pe.eq_4, pe.eq_5, pe.eq_6, pe.eq_7, pe.eq_8, pe.eq_9, pe.eq_10, pe.eq_11, pes, pbnd, pret, startE, pprim, prim, lft, ret, a1, a2, int2, e4]
    · simp [FnDef.prun, poutOf, pexs, pex.eq_1, pex.eq_2, pex.eq_3, pex.eq_4, pex.eq_5, pex.eq_6, pex.eq_7, pex.eq_10, pex.eq_11, px, pxs, pe.eq_1, pe.eq_2, pe.eq_3, pe.eq_4, pe.eq_5, pe.eq_6, pe.eq_7, pe.eq_8, pe.eq_9, pe.eq_10, pe.eq_11, pes, pbnd, pret, startE, pprim, prim, lft, ret, a1, a2, int2, eqH, top, pu, eqD]
    · simp [FnDef.prun, poutOf, pexs, pex.eq_1, pex.eq_2, pex.eq_3, pex.eq_4, pex.eq_5, pex.eq_6, pex.eq_7, pex.eq_10, pex.eq_11, px, pxs, pe.eq_1, pe.eq_2, pe.eq_3, pe.eq_4, pe.eq_5, pe.eq_6, pe.eq_7, pe.eq_8, pe.eq_9, pe.eq_10, pe.eq_11, pes, pbnd, pret, startE, pprim, prim, lft, ret, a1, a2, int2]
  | some l =>
    rw [hz] at e4
    simp only [eOpt] at e4
    have hll := nm_len 6 cs names l hz
    obtain ⟨t, t1, t2⟩ := nm_done rs names 6 cs l nd nl.symm hmis hz
    have hde : (deedsOf l).map eDeed = l.map eName := by
      unfold deedsOf
      rw [List.map_map]; rfl
    have e7 := P_done (k := 23) (RB_name 26) cs rs (deedsOf l) t hok (fun d hd => ?_) (fun d hd => ?_) (by omega) (by simp [deedsOf]; omega) t1 c2
    · rw [hde, t2] at e7
      have e7' : pruns T 29 29 [eTab cs rs, .tup (l.map eName)] c2 = .ok (eTab names rs) c2 := e7
      have heq : ∀ h, eqH true (.tup (l.map eName)) (.tup (l.map eName)) h = .ok (.bl false) h := fun h => by
        have hp : (l.map eName).all (pu 8) = true := by
          simp only [List.all_map, List.all_eq_true, Function.comp]
          intro x _; rfl
        simp only [eqH, top, pu, hp, eqD, eqDs_names]
        simp
      have h13 : (l.length : Int) < 13 := by omega
      refine (pexs_next (r1 := [some (.scr ns), some (.ref 0), some (eTab cs rs), some (.lst (left.map .str)), some (.lst (names.map .str)), x5, some (eTab names rs), y7, some (.lst (l.map eName)), some (.tup (l.map eName)), none, x11, x12, y13, y14, none]) (c1 := c2) ?_).trans ((pexs_skip (c1 := c2) ?_).trans ((pexs_skip (c1 := c2) ?_).trans (hfin _ _ _ _ _)))
      · simp [FnDef.prun, poutOf, pexs, pex.eq_1, pex.eq_2, pex.eq_3, pex.eq_4, pex.eq_5, pex.eq_6, pex.eq_7, pex.eq_10, pex.eq_11, px, pxs, pe.eq_1, pe.eq_2, pe.eq_3, pe.eq_4, pe.eq_5, pe.eq_6, pe.eq_7, pe.eq_8, pe.eq_9, pe.eq_10, pe.eq_11, pes, pbnd, pret, startE, pprim, prim, lft, ret, a1, a2, int2, e4]
      · have htup : ∀ h, pTuple (.lst (l.map eName)) h = .ok (.tup (l.map eName)) h := fun h => rfl
        simp [FnDef.prun, poutOf, pexs, pex.eq_1, pex.eq_2, pex.eq_3, pex.eq_4, pex.eq_5, pex.eq_6, pex.eq_7, pex.eq_10, pex.eq_11, px, pxs, pe.eq_1, pe.eq_2, pe.eq_3, pe.eq_4, pe.eq_5, pe.eq_6, pe.eq_7, pe.eq_8, pe.eq_9, pe.eq_10, pe.eq_11, pes, pbnd, pret, startE, pprim, prim, lft, ret, a1, a2, int2, htup, heq]
      · simp [FnDef.prun, poutOf, pexs, pex.eq_1, pex.eq_2, pex.eq_3, pex.eq_4, pex.eq_5, pex.eq_6, pex.eq_7, pex.eq_10, pex.eq_11, px, pxs, pe.eq_1, pe.eq_2, pe.eq_3, pe.eq_4, pe.eq_5, pe.eq_6, pe.eq_7, pe.eq_8, pe.eq_9, pe.eq_10, pe.eq_11, pes, pbnd, pret, startE, pprim, prim, lft, ret, a1, a2, int2, eqH_int, eqH_str, eqH_row, eqH_rows, eqH_tab, lenD_row, lenD_rows, lenD_tab, lenD_lst, lenD_tup, ix_tab0, ix_tab1, h13, e7']
    · obtain ⟨p, hp, rfl⟩ := List.mem_map.mp hd
      obtain ⟨q1, q2⟩ := nm_in names 6 cs l nl.symm hz p hp
      refine ⟨?_, hok2.1.2.1 _ q2⟩
      rcases q1 with q | q
      · exact hok.1.2.1 _ q
      · exact hok2.1.2.1 _ q
    · obtain ⟨p, hp, rfl⟩ := List.mem_map.mp hd
      exact ⟨_, _, rfl⟩
end TS

set_option maxRecDepth 1000000
namespace TS
open PySem L2
def gl : List (Str × GK) := [(Str.ofString "CELL", GK.cst (.int 8)), (Str.ofString "COLUMNS", GK.cst (.int 6)), (Str.ofString "DEEDS", GK.cst (.int 12)), (Str.ofString "LETTERS", GK.cst (.str "abcdefghijklmnopqrstuvwxyz")), (Str.ofString "LONGEST", GK.cst (.int 6)), (Str.ofString "PAIRS", GK.cst (.int 4)), (Str.ofString "ROWS", GK.cst (.int 12)), (Str.ofString "SIGNS", GK.cst (.str "abcdefghijklmnopqrstuvwxyz0123456789-. ")), (Str.ofString "SIZES", GK.dict [(Str.ofString "split", 5), (Str.ofString "join", 5), (Str.ofString "strike", 2), (Str.ofString "name", 3), (Str.ofString "order", 2), (Str.ofString "keep", 3), (Str.ofString "fill", 2), (Str.ofString "lead", 3), (Str.ofString "move", 3), (Str.ofString "unlike", 2)]), (Str.ofString "_law_cell_at", GK.fn 1), (Str.ofString "_law_cell_of", GK.fn 6), (Str.ofString "_law_draw", GK.fn 3), (Str.ofString "_law_mixed", GK.fn 2), (Str.ofString "_law_names", GK.fn 4), (Str.ofString "_law_pick", GK.fn 5), (Str.ofString "_law_table", GK.fn 7), (Str.ofString "are_columns", GK.fn 9), (Str.ofString "are_deeds", GK.fn 18), (Str.ofString "are_pairs", GK.fn 14), (Str.ofString "columns_behind", GK.fn 21), (Str.ofString "done", GK.fn 29), (Str.ofString "filled", GK.fn 22), (Str.ofString "firsts", GK.fn 23), (Str.ofString "is_cell", GK.fn 10), (Str.ofString "is_deed", GK.fn 17), (Str.ofString "is_sign", GK.fn 16), (Str.ofString "is_table", GK.fn 11), (Str.ofString "is_whole", GK.fn 15), (Str.ofString "is_word", GK.fn 8), (Str.ofString "joined_cells", GK.fn 24), (Str.ofString "moved_cells", GK.fn 25), (Str.ofString "named", GK.fn 13), (Str.ofString "need_deeds", GK.fn 19), (Str.ofString "need_table", GK.fn 12), (Str.ofString "renamed", GK.fn 20), (Str.ofString "rows_behind", GK.fn 27), (Str.ofString "run", GK.fn 28), (Str.ofString "split_cell", GK.fn 26)]
def bi : List Str := [Str.ofString "all", Str.ofString "bool", Str.ofString "enumerate", Str.ofString "int", Str.ofString "isinstance", Str.ofString "len", Str.ofString "list", Str.ofString "range", Str.ofString "set", Str.ofString "str", Str.ofString "tuple"]
def stAt (i : Nat) : Stmt := PySem.Challenge.pw_tableshop_k28_whole_named.main.body.getD i (.Pass ⟨0, 0, 0, 0⟩)
def n_f1_law_cell_at : List Str := [Str.ofString "script", Str.ofString "k"]
theorem s_f1_law_cell_at : C8.scC n_f1_law_cell_at (n_f1_law_cell_at.take 2) (defScope (stAt 41)) = true := by decide +kernel
theorem c_f1_law_cell_at : allS (ckSt 80 80 ⟨n_f1_law_cell_at, defScope (stAt 41), fun _ => true, gl, bi⟩) (defBody (stAt 41)) f1_law_cell_at.body = true := by decide +kernel
def n_f2_law_mixed : List Str := [Str.ofString "script", Str.ofString "k", Str.ofString "many", Str.ofString "drawn"]
theorem s_f2_law_mixed : C8.scC n_f2_law_mixed (n_f2_law_mixed.take 3) (defScope (stAt 42)) = true := by decide +kernel
theorem c_f2_law_mixed : allS (ckSt 80 80 ⟨n_f2_law_mixed, defScope (stAt 42), fun _ => true, gl, bi⟩) (defBody (stAt 42)) f2_law_mixed.body = true := by decide +kernel
def n_f3_law_draw : List Str := [Str.ofString "script", Str.ofString "town", Str.ofString "many"]
theorem s_f3_law_draw : C8.scC n_f3_law_draw (n_f3_law_draw.take 3) (defScope (stAt 43)) = true := by decide +kernel
theorem c_f3_law_draw : allS (ckSt 80 80 ⟨n_f3_law_draw, defScope (stAt 43), fun _ => true, gl, bi⟩) (defBody (stAt 43)) f3_law_draw.body = true := by decide +kernel
def n_f4_law_names : List Str := [Str.ofString "script", Str.ofString "town", Str.ofString "most", Str.ofString "left", Str.ofString "made", Str.ofString "k"]
theorem s_f4_law_names : C8.scC n_f4_law_names (n_f4_law_names.take 3) (defScope (stAt 45)) = true := by decide +kernel
theorem c_f4_law_names : allS (ckSt 80 80 ⟨n_f4_law_names, defScope (stAt 45), fun _ => true, gl, bi⟩) (defBody (stAt 45)) f4_law_names.body = true := by decide +kernel
def n_f5_law_pick : List Str := [Str.ofString "script", Str.ofString "town", Str.ofString "some"]
theorem s_f5_law_pick : C8.scC n_f5_law_pick (n_f5_law_pick.take 3) (defScope (stAt 44)) = true := by decide +kernel
theorem c_f5_law_pick : allS (ckSt 80 80 ⟨n_f5_law_pick, defScope (stAt 44), fun _ => true, gl, bi⟩) (defBody (stAt 44)) f5_law_pick.body = true := by decide +kernel
def n_f6_law_cell_of : List Str := [Str.ofString "script", Str.ofString "town"]
theorem s_f6_law_cell_of : C8.scC n_f6_law_cell_of (n_f6_law_cell_of.take 2) (defScope (stAt 46)) = true := by decide +kernel
theorem c_f6_law_cell_of : allS (ckSt 80 80 ⟨n_f6_law_cell_of, defScope (stAt 46), fun _ => true, gl, bi⟩) (defBody (stAt 46)) f6_law_cell_of.body = true := by decide +kernel
def n_f7_law_table : List Str := [Str.ofString "script", Str.ofString "town", Str.ofString "most", Str.ofString "rows", Str.ofString "names", Str.ofString "made", Str.ofString "k", Str.ofString "row", Str.ofString "name"]
theorem s_f7_law_table : C8.scC n_f7_law_table (n_f7_law_table.take 4) (defScope (stAt 47)) = true := by decide +kernel
theorem c_f7_law_table : allS (ckSt 80 80 ⟨n_f7_law_table, defScope (stAt 47), fun _ => true, gl, bi⟩) (defBody (stAt 47)) f7_law_table.body = true := by decide +kernel
def n_f8_is_word : List Str := [Str.ofString "thing"]
theorem s_f8_is_word : C8.scC n_f8_is_word (n_f8_is_word.take 1) (defScope (stAt 16)) = true := by decide +kernel
theorem c_f8_is_word : allS (ckSt 80 80 ⟨n_f8_is_word, defScope (stAt 16), fun _ => true, gl, bi⟩) (defBody (stAt 16)) f8_is_word.body = true := by decide +kernel
def n_f9_are_columns : List Str := [Str.ofString "thing", Str.ofString "name"]
theorem s_f9_are_columns : C8.scC n_f9_are_columns (n_f9_are_columns.take 1) (defScope (stAt 18)) = true := by decide +kernel
theorem c_f9_are_columns : allS (ckSt 80 80 ⟨n_f9_are_columns, defScope (stAt 18), fun _ => true, gl, bi⟩) (defBody (stAt 18)) f9_are_columns.body = true := by decide +kernel
def n_f10_is_cell : List Str := [Str.ofString "thing", Str.ofString "sign"]
theorem s_f10_is_cell : C8.scC n_f10_is_cell (n_f10_is_cell.take 1) (defScope (stAt 17)) = true := by decide +kernel
theorem c_f10_is_cell : allS (ckSt 80 80 ⟨n_f10_is_cell, defScope (stAt 17), fun _ => true, gl, bi⟩) (defBody (stAt 17)) f10_is_cell.body = true := by decide +kernel
def n_f11_is_table : List Str := [Str.ofString "thing", Str.ofString "row", Str.ofString "cell"]
theorem s_f11_is_table : C8.scC n_f11_is_table (n_f11_is_table.take 1) (defScope (stAt 19)) = true := by decide +kernel
theorem c_f11_is_table : allS (ckSt 80 80 ⟨n_f11_is_table, defScope (stAt 19), fun _ => true, gl, bi⟩) (defBody (stAt 19)) f11_is_table.body = true := by decide +kernel
def n_f12_need_table : List Str := [Str.ofString "thing"]
theorem s_f12_need_table : C8.scC n_f12_need_table (n_f12_need_table.take 1) (defScope (stAt 20)) = true := by decide +kernel
theorem c_f12_need_table : allS (ckSt 80 80 ⟨n_f12_need_table, defScope (stAt 20), fun _ => true, gl, bi⟩) (defBody (stAt 20)) f12_need_table.body = true := by decide +kernel
def n_f13_named : List Str := [Str.ofString "table", Str.ofString "other", Str.ofString "here", Str.ofString "made", Str.ofString "left", Str.ofString "free", Str.ofString "at"]
theorem s_f13_named : C8.scC n_f13_named (n_f13_named.take 2) (defScope (stAt 39)) = true := by decide +kernel
theorem c_f13_named : allS (ckSt 80 80 ⟨n_f13_named, defScope (stAt 39), fun _ => true, gl, bi⟩) (defBody (stAt 39)) f13_named.body = true := by decide +kernel
def n_f14_are_pairs : List Str := [Str.ofString "thing", Str.ofString "pair"]
theorem s_f14_are_pairs : C8.scC n_f14_are_pairs (n_f14_are_pairs.take 1) (defScope (stAt 22)) = true := by decide +kernel
theorem c_f14_are_pairs : allS (ckSt 80 80 ⟨n_f14_are_pairs, defScope (stAt 22), fun _ => true, gl, bi⟩) (defBody (stAt 22)) f14_are_pairs.body = true := by decide +kernel
def n_f15_is_whole : List Str := [Str.ofString "thing", Str.ofString "low", Str.ofString "most"]
theorem s_f15_is_whole : C8.scC n_f15_is_whole (n_f15_is_whole.take 3) (defScope (stAt 15)) = true := by decide +kernel
theorem c_f15_is_whole : allS (ckSt 80 80 ⟨n_f15_is_whole, defScope (stAt 15), fun _ => true, gl, bi⟩) (defBody (stAt 15)) f15_is_whole.body = true := by decide +kernel
def n_f16_is_sign : List Str := [Str.ofString "thing"]
theorem s_f16_is_sign : C8.scC n_f16_is_sign (n_f16_is_sign.take 1) (defScope (stAt 21)) = true := by decide +kernel
theorem c_f16_is_sign : allS (ckSt 80 80 ⟨n_f16_is_sign, defScope (stAt 21), fun _ => true, gl, bi⟩) (defBody (stAt 21)) f16_is_sign.body = true := by decide +kernel
def n_f17_is_deed : List Str := [Str.ofString "thing"]
theorem s_f17_is_deed : C8.scC n_f17_is_deed (n_f17_is_deed.take 1) (defScope (stAt 23)) = true := by decide +kernel
theorem c_f17_is_deed : allS (ckSt 80 80 ⟨n_f17_is_deed, defScope (stAt 23), fun _ => true, gl, bi⟩) (defBody (stAt 23)) f17_is_deed.body = true := by decide +kernel
def n_f18_are_deeds : List Str := [Str.ofString "thing", Str.ofString "deed"]
theorem s_f18_are_deeds : C8.scC n_f18_are_deeds (n_f18_are_deeds.take 1) (defScope (stAt 24)) = true := by decide +kernel
theorem c_f18_are_deeds : allS (ckSt 80 80 ⟨n_f18_are_deeds, defScope (stAt 24), fun _ => true, gl, bi⟩) (defBody (stAt 24)) f18_are_deeds.body = true := by decide +kernel
def n_f19_need_deeds : List Str := [Str.ofString "thing"]
theorem s_f19_need_deeds : C8.scC n_f19_need_deeds (n_f19_need_deeds.take 1) (defScope (stAt 25)) = true := by decide +kernel
theorem c_f19_need_deeds : allS (ckSt 80 80 ⟨n_f19_need_deeds, defScope (stAt 25), fun _ => true, gl, bi⟩) (defBody (stAt 25)) f19_need_deeds.body = true := by decide +kernel
def n_f20_renamed : List Str := [Str.ofString "columns", Str.ofString "at", Str.ofString "name", Str.ofString "gone", Str.ofString "row", Str.ofString "k", Str.ofString "other"]
theorem s_f20_renamed : C8.scC n_f20_renamed (n_f20_renamed.take 4) (defScope (stAt 28)) = true := by decide +kernel
theorem c_f20_renamed : allS (ckSt 80 80 ⟨n_f20_renamed, defScope (stAt 28), fun _ => true, gl, bi⟩) (defBody (stAt 28)) f20_renamed.body = true := by decide +kernel
def n_f21_columns_behind : List Str := [Str.ofString "columns", Str.ofString "deed", Str.ofString "word", Str.ofString "at", Str.ofString "rest"]
theorem s_f21_columns_behind : C8.scC n_f21_columns_behind (n_f21_columns_behind.take 2) (defScope (stAt 27)) = true := by decide +kernel
theorem c_f21_columns_behind : allS (ckSt 80 80 ⟨n_f21_columns_behind, defScope (stAt 27), fun _ => true, gl, bi⟩) (defBody (stAt 27)) f21_columns_behind.body = true := by decide +kernel
def n_f22_filled : List Str := [Str.ofString "rows", Str.ofString "at", Str.ofString "made", Str.ofString "last", Str.ofString "row"]
theorem s_f22_filled : C8.scC n_f22_filled (n_f22_filled.take 2) (defScope (stAt 31)) = true := by decide +kernel
theorem c_f22_filled : allS (ckSt 80 80 ⟨n_f22_filled, defScope (stAt 31), fun _ => true, gl, bi⟩) (defBody (stAt 31)) f22_filled.body = true := by decide +kernel
def n_f23_firsts : List Str := [Str.ofString "rows", Str.ofString "at", Str.ofString "met", Str.ofString "made", Str.ofString "row"]
theorem s_f23_firsts : C8.scC n_f23_firsts (n_f23_firsts.take 2) (defScope (stAt 32)) = true := by decide +kernel
theorem c_f23_firsts : allS (ckSt 80 80 ⟨n_f23_firsts, defScope (stAt 32), fun _ => true, gl, bi⟩) (defBody (stAt 32)) f23_firsts.body = true := by decide +kernel
def n_f24_joined_cells : List Str := [Str.ofString "row", Str.ofString "at", Str.ofString "other", Str.ofString "sign", Str.ofString "cell", Str.ofString "cells"]
theorem s_f24_joined_cells : C8.scC n_f24_joined_cells (n_f24_joined_cells.take 4) (defScope (stAt 34)) = true := by decide +kernel
theorem c_f24_joined_cells : allS (ckSt 80 80 ⟨n_f24_joined_cells, defScope (stAt 34), fun _ => true, gl, bi⟩) (defBody (stAt 34)) f24_joined_cells.body = true := by decide +kernel
def n_f25_moved_cells : List Str := [Str.ofString "row", Str.ofString "at", Str.ofString "place", Str.ofString "rest"]
theorem s_f25_moved_cells : C8.scC n_f25_moved_cells (n_f25_moved_cells.take 3) (defScope (stAt 33)) = true := by decide +kernel
theorem c_f25_moved_cells : allS (ckSt 80 80 ⟨n_f25_moved_cells, defScope (stAt 33), fun _ => true, gl, bi⟩) (defBody (stAt 33)) f25_moved_cells.body = true := by decide +kernel
def n_f26_split_cell : List Str := [Str.ofString "cell", Str.ofString "sign", Str.ofString "first", Str.ofString "found", Str.ofString "second"]
theorem s_f26_split_cell : C8.scC n_f26_split_cell (n_f26_split_cell.take 2) (defScope (stAt 30)) = true := by decide +kernel
theorem c_f26_split_cell : allS (ckSt 80 80 ⟨n_f26_split_cell, defScope (stAt 30), fun _ => true, gl, bi⟩) (defBody (stAt 30)) f26_split_cell.body = true := by decide +kernel
def n_f27_rows_behind : List Str := [Str.ofString "columns", Str.ofString "rows", Str.ofString "deed", Str.ofString "word", Str.ofString "at", Str.ofString "other", Str.ofString "places", Str.ofString "book", Str.ofString "row", Str.ofString "k", Str.ofString "cell"]
theorem s_f27_rows_behind : C8.scC n_f27_rows_behind (n_f27_rows_behind.take 3) (defScope (stAt 35)) = true := by decide +kernel
theorem c_f27_rows_behind : allS (ckSt 80 80 ⟨n_f27_rows_behind, defScope (stAt 35), fun _ => true, gl, bi⟩) (defBody (stAt 35)) f27_rows_behind.body = true := by decide +kernel
def n_f28_run : List Str := [Str.ofString "table", Str.ofString "deeds", Str.ofString "made", Str.ofString "at", Str.ofString "deed", Str.ofString "columns", Str.ofString "rows", Str.ofString "later"]
theorem s_f28_run : C8.scC n_f28_run (n_f28_run.take 2) (defScope (stAt 36)) = true := by decide +kernel
theorem c_f28_run : allS (ckSt 80 80 ⟨n_f28_run, defScope (stAt 36), fun _ => true, gl, bi⟩) (defBody (stAt 36)) f28_run.body = true := by decide +kernel
def n_f29_done : List Str := [Str.ofString "table", Str.ofString "deeds"]
theorem s_f29_done : C8.scC n_f29_done (n_f29_done.take 2) (defScope (stAt 37)) = true := by decide +kernel
theorem c_f29_done : allS (ckSt 80 80 ⟨n_f29_done, defScope (stAt 37), fun _ => true, gl, bi⟩) (defBody (stAt 37)) f29_done.body = true := by decide +kernel
def n_f30_law : List Str := [Str.ofString "script", Str.ofString "town", Str.ofString "table", Str.ofString "left", Str.ofString "names", Str.ofString "name", Str.ofString "other", Str.ofString "now", Str.ofString "due", Str.ofString "found", Str.ofString "wider", Str.ofString "kind", Str.ofString "new", Str.ofString "can", Str.ofString "k", Str.ofString "row"]
theorem s_f30_law : C8.scC n_f30_law (n_f30_law.take 1) (defScope (stAt 49)) = true := by decide +kernel
theorem c_f30_law : allS (ckSt 80 80 ⟨n_f30_law, defScope (stAt 49), fun _ => true, gl, bi⟩) (defBody (stAt 49)) f30_law.body = true := by decide +kernel
def TT (n : Nat) : Option FnDef := if n = 30 then some f30_law else T n
theorem law_true (ns : List Int) (hn : ns.length ≤ 63) : ∃ h', runs TT 30 30 [.scr ns] [] = .ok (.bl true) h' := by
  obtain ⟨c', e⟩ := law28 ns
  refine law_pure (T := T) (T' := TT) (n := 30) (fd := f30_law) (fun f fd q => ⟨T_ok f fd q, ?_⟩) rfl (by decide +kernel) e
  unfold TT
  rw [if_neg]
  · exact q
  · intro z
    subst z
    exact absurd q (by rw [show T 30 = none from rfl]; simp)
theorem all_mk {l : PySem.W.OpenLaw} {w : World} {K : PySem.W.Frag} {h : Heap} {mg : Str → Option Value} {fa : Addr} (X : K.In h) (G : h.Ns mainGlobals mg) (hfa : mg "law" = some (.ref fa))
    {f1 : Addr} {oc1 kV1 dc1 pm1 cd1 ct1 : Value} {od1 an1 : Option Addr} {sl1 : Array (Option Value)} {f2 : Addr} {oc2 kV2 dc2 pm2 cd2 ct2 : Value} {od2 an2 : Option Addr} {sl2 : Array (Option Value)} {f3 : Addr} {oc3 kV3 dc3 pm3 cd3 ct3 : Value} {od3 an3 : Option Addr} {sl3 : Array (Option Value)} {f4 : Addr} {oc4 kV4 dc4 pm4 cd4 ct4 : Value} {od4 an4 : Option Addr} {sl4 : Array (Option Value)} {f5 : Addr} {oc5 kV5 dc5 pm5 cd5 ct5 : Value} {od5 an5 : Option Addr} {sl5 : Array (Option Value)} {f6 : Addr} {oc6 kV6 dc6 pm6 cd6 ct6 : Value} {od6 an6 : Option Addr} {sl6 : Array (Option Value)} {f7 : Addr} {oc7 kV7 dc7 pm7 cd7 ct7 : Value} {od7 an7 : Option Addr} {sl7 : Array (Option Value)} {f8 : Addr} {oc8 kV8 dc8 pm8 cd8 ct8 : Value} {od8 an8 : Option Addr} {sl8 : Array (Option Value)} {f9 : Addr} {oc9 kV9 dc9 pm9 cd9 ct9 : Value} {od9 an9 : Option Addr} {sl9 : Array (Option Value)} {f10 : Addr} {oc10 kV10 dc10 pm10 cd10 ct10 : Value} {od10 an10 : Option Addr} {sl10 : Array (Option Value)} {f11 : Addr} {oc11 kV11 dc11 pm11 cd11 ct11 : Value} {od11 an11 : Option Addr} {sl11 : Array (Option Value)} {f12 : Addr} {oc12 kV12 dc12 pm12 cd12 ct12 : Value} {od12 an12 : Option Addr} {sl12 : Array (Option Value)} {f13 : Addr} {oc13 kV13 dc13 pm13 cd13 ct13 : Value} {od13 an13 : Option Addr} {sl13 : Array (Option Value)} {f14 : Addr} {oc14 kV14 dc14 pm14 cd14 ct14 : Value} {od14 an14 : Option Addr} {sl14 : Array (Option Value)} {f15 : Addr} {oc15 kV15 dc15 pm15 cd15 ct15 : Value} {od15 an15 : Option Addr} {sl15 : Array (Option Value)} {f16 : Addr} {oc16 kV16 dc16 pm16 cd16 ct16 : Value} {od16 an16 : Option Addr} {sl16 : Array (Option Value)} {f17 : Addr} {oc17 kV17 dc17 pm17 cd17 ct17 : Value} {od17 an17 : Option Addr} {sl17 : Array (Option Value)} {f18 : Addr} {oc18 kV18 dc18 pm18 cd18 ct18 : Value} {od18 an18 : Option Addr} {sl18 : Array (Option Value)} {f19 : Addr} {oc19 kV19 dc19 pm19 cd19 ct19 : Value} {od19 an19 : Option Addr} {sl19 : Array (Option Value)} {f20 : Addr} {oc20 kV20 dc20 pm20 cd20 ct20 : Value} {od20 an20 : Option Addr} {sl20 : Array (Option Value)} {f21 : Addr} {oc21 kV21 dc21 pm21 cd21 ct21 : Value} {od21 an21 : Option Addr} {sl21 : Array (Option Value)} {f22 : Addr} {oc22 kV22 dc22 pm22 cd22 ct22 : Value} {od22 an22 : Option Addr} {sl22 : Array (Option Value)} {f23 : Addr} {oc23 kV23 dc23 pm23 cd23 ct23 : Value} {od23 an23 : Option Addr} {sl23 : Array (Option Value)} {f24 : Addr} {oc24 kV24 dc24 pm24 cd24 ct24 : Value} {od24 an24 : Option Addr} {sl24 : Array (Option Value)} {f25 : Addr} {oc25 kV25 dc25 pm25 cd25 ct25 : Value} {od25 an25 : Option Addr} {sl25 : Array (Option Value)} {f26 : Addr} {oc26 kV26 dc26 pm26 cd26 ct26 : Value} {od26 an26 : Option Addr} {sl26 : Array (Option Value)} {f27 : Addr} {oc27 kV27 dc27 pm27 cd27 ct27 : Value} {od27 an27 : Option Addr} {sl27 : Array (Option Value)} {f28 : Addr} {oc28 kV28 dc28 pm28 cd28 ct28 : Value} {od28 an28 : Option Addr} {sl28 : Array (Option Value)} {f29 : Addr} {oc29 kV29 dc29 pm29 cd29 ct29 : Value} {od29 an29 : Option Addr} {sl29 : Array (Option Value)} {f30 : Addr} {oc30 kV30 dc30 pm30 cd30 ct30 : Value} {od30 an30 : Option Addr} {sl30 : Array (Option Value)} {t1 : Tok} {t2 : Tok} {t3 : Tok} {t4 : Tok} {t5 : Tok} {t6 : Tok} {t7 : Tok} {t8 : Tok} {d9 : Addr} {es9 : Array DictEntry} {m9 : Nat}
    (a1 : PySem.W.nsIn K mainGlobals "_law_cell_at" = some (some (.ref f1)))
    (l1 : K.lookup f1 = some ⟨oc1, od1, .func (PySem.W.fnOf "_law_cell_at" "_law_cell_at" (defArgs (stAt 41)) (defBody (stAt 41)) (defScope (stAt 41)) .none kV1 dc1 pm1 an1 cd1 ct1), sl1⟩)
    (c1 : PySem.W.codeIn K cd1 "_law_cell_at" = true) (k1 : PySem.W.keepIn K (.ref f1) = true)
    (a2 : PySem.W.nsIn K mainGlobals "_law_mixed" = some (some (.ref f2)))
    (l2 : K.lookup f2 = some ⟨oc2, od2, .func (PySem.W.fnOf "_law_mixed" "_law_mixed" (defArgs (stAt 42)) (defBody (stAt 42)) (defScope (stAt 42)) .none kV2 dc2 pm2 an2 cd2 ct2), sl2⟩)
    (c2 : PySem.W.codeIn K cd2 "_law_mixed" = true) (k2 : PySem.W.keepIn K (.ref f2) = true)
    (a3 : PySem.W.nsIn K mainGlobals "_law_draw" = some (some (.ref f3)))
    (l3 : K.lookup f3 = some ⟨oc3, od3, .func (PySem.W.fnOf "_law_draw" "_law_draw" (defArgs (stAt 43)) (defBody (stAt 43)) (defScope (stAt 43)) .none kV3 dc3 pm3 an3 cd3 ct3), sl3⟩)
    (c3 : PySem.W.codeIn K cd3 "_law_draw" = true) (k3 : PySem.W.keepIn K (.ref f3) = true)
    (a4 : PySem.W.nsIn K mainGlobals "_law_names" = some (some (.ref f4)))
    (l4 : K.lookup f4 = some ⟨oc4, od4, .func (PySem.W.fnOf "_law_names" "_law_names" (defArgs (stAt 45)) (defBody (stAt 45)) (defScope (stAt 45)) .none kV4 dc4 pm4 an4 cd4 ct4), sl4⟩)
    (c4 : PySem.W.codeIn K cd4 "_law_names" = true) (k4 : PySem.W.keepIn K (.ref f4) = true)
    (a5 : PySem.W.nsIn K mainGlobals "_law_pick" = some (some (.ref f5)))
    (l5 : K.lookup f5 = some ⟨oc5, od5, .func (PySem.W.fnOf "_law_pick" "_law_pick" (defArgs (stAt 44)) (defBody (stAt 44)) (defScope (stAt 44)) .none kV5 dc5 pm5 an5 cd5 ct5), sl5⟩)
    (c5 : PySem.W.codeIn K cd5 "_law_pick" = true) (k5 : PySem.W.keepIn K (.ref f5) = true)
    (a6 : PySem.W.nsIn K mainGlobals "_law_cell_of" = some (some (.ref f6)))
    (l6 : K.lookup f6 = some ⟨oc6, od6, .func (PySem.W.fnOf "_law_cell_of" "_law_cell_of" (defArgs (stAt 46)) (defBody (stAt 46)) (defScope (stAt 46)) .none kV6 dc6 pm6 an6 cd6 ct6), sl6⟩)
    (c6 : PySem.W.codeIn K cd6 "_law_cell_of" = true) (k6 : PySem.W.keepIn K (.ref f6) = true)
    (a7 : PySem.W.nsIn K mainGlobals "_law_table" = some (some (.ref f7)))
    (l7 : K.lookup f7 = some ⟨oc7, od7, .func (PySem.W.fnOf "_law_table" "_law_table" (defArgs (stAt 47)) (defBody (stAt 47)) (defScope (stAt 47)) .none kV7 dc7 pm7 an7 cd7 ct7), sl7⟩)
    (c7 : PySem.W.codeIn K cd7 "_law_table" = true) (k7 : PySem.W.keepIn K (.ref f7) = true)
    (a8 : PySem.W.nsIn K mainGlobals "is_word" = some (some (.ref f8)))
    (l8 : K.lookup f8 = some ⟨oc8, od8, .func (PySem.W.fnOf "is_word" "is_word" (defArgs (stAt 16)) (defBody (stAt 16)) (defScope (stAt 16)) .none kV8 dc8 pm8 an8 cd8 ct8), sl8⟩)
    (c8 : PySem.W.codeIn K cd8 "is_word" = true) (k8 : PySem.W.keepIn K (.ref f8) = true)
    (a9 : PySem.W.nsIn K mainGlobals "are_columns" = some (some (.ref f9)))
    (l9 : K.lookup f9 = some ⟨oc9, od9, .func (PySem.W.fnOf "are_columns" "are_columns" (defArgs (stAt 18)) (defBody (stAt 18)) (defScope (stAt 18)) .none kV9 dc9 pm9 an9 cd9 ct9), sl9⟩)
    (c9 : PySem.W.codeIn K cd9 "are_columns" = true) (k9 : PySem.W.keepIn K (.ref f9) = true)
    (a10 : PySem.W.nsIn K mainGlobals "is_cell" = some (some (.ref f10)))
    (l10 : K.lookup f10 = some ⟨oc10, od10, .func (PySem.W.fnOf "is_cell" "is_cell" (defArgs (stAt 17)) (defBody (stAt 17)) (defScope (stAt 17)) .none kV10 dc10 pm10 an10 cd10 ct10), sl10⟩)
    (c10 : PySem.W.codeIn K cd10 "is_cell" = true) (k10 : PySem.W.keepIn K (.ref f10) = true)
    (a11 : PySem.W.nsIn K mainGlobals "is_table" = some (some (.ref f11)))
    (l11 : K.lookup f11 = some ⟨oc11, od11, .func (PySem.W.fnOf "is_table" "is_table" (defArgs (stAt 19)) (defBody (stAt 19)) (defScope (stAt 19)) .none kV11 dc11 pm11 an11 cd11 ct11), sl11⟩)
    (c11 : PySem.W.codeIn K cd11 "is_table" = true) (k11 : PySem.W.keepIn K (.ref f11) = true)
    (a12 : PySem.W.nsIn K mainGlobals "need_table" = some (some (.ref f12)))
    (l12 : K.lookup f12 = some ⟨oc12, od12, .func (PySem.W.fnOf "need_table" "need_table" (defArgs (stAt 20)) (defBody (stAt 20)) (defScope (stAt 20)) .none kV12 dc12 pm12 an12 cd12 ct12), sl12⟩)
    (c12 : PySem.W.codeIn K cd12 "need_table" = true) (k12 : PySem.W.keepIn K (.ref f12) = true)
    (a13 : PySem.W.nsIn K mainGlobals "named" = some (some (.ref f13)))
    (l13 : K.lookup f13 = some ⟨oc13, od13, .func (PySem.W.fnOf "named" "named" (defArgs (stAt 39)) (defBody (stAt 39)) (defScope (stAt 39)) .none kV13 dc13 pm13 an13 cd13 ct13), sl13⟩)
    (c13 : PySem.W.codeIn K cd13 "named" = true) (k13 : PySem.W.keepIn K (.ref f13) = true)
    (a14 : PySem.W.nsIn K mainGlobals "are_pairs" = some (some (.ref f14)))
    (l14 : K.lookup f14 = some ⟨oc14, od14, .func (PySem.W.fnOf "are_pairs" "are_pairs" (defArgs (stAt 22)) (defBody (stAt 22)) (defScope (stAt 22)) .none kV14 dc14 pm14 an14 cd14 ct14), sl14⟩)
    (c14 : PySem.W.codeIn K cd14 "are_pairs" = true) (k14 : PySem.W.keepIn K (.ref f14) = true)
    (a15 : PySem.W.nsIn K mainGlobals "is_whole" = some (some (.ref f15)))
    (l15 : K.lookup f15 = some ⟨oc15, od15, .func (PySem.W.fnOf "is_whole" "is_whole" (defArgs (stAt 15)) (defBody (stAt 15)) (defScope (stAt 15)) .none kV15 dc15 pm15 an15 cd15 ct15), sl15⟩)
    (c15 : PySem.W.codeIn K cd15 "is_whole" = true) (k15 : PySem.W.keepIn K (.ref f15) = true)
    (a16 : PySem.W.nsIn K mainGlobals "is_sign" = some (some (.ref f16)))
    (l16 : K.lookup f16 = some ⟨oc16, od16, .func (PySem.W.fnOf "is_sign" "is_sign" (defArgs (stAt 21)) (defBody (stAt 21)) (defScope (stAt 21)) .none kV16 dc16 pm16 an16 cd16 ct16), sl16⟩)
    (c16 : PySem.W.codeIn K cd16 "is_sign" = true) (k16 : PySem.W.keepIn K (.ref f16) = true)
    (a17 : PySem.W.nsIn K mainGlobals "is_deed" = some (some (.ref f17)))
    (l17 : K.lookup f17 = some ⟨oc17, od17, .func (PySem.W.fnOf "is_deed" "is_deed" (defArgs (stAt 23)) (defBody (stAt 23)) (defScope (stAt 23)) .none kV17 dc17 pm17 an17 cd17 ct17), sl17⟩)
    (c17 : PySem.W.codeIn K cd17 "is_deed" = true) (k17 : PySem.W.keepIn K (.ref f17) = true)
    (a18 : PySem.W.nsIn K mainGlobals "are_deeds" = some (some (.ref f18)))
    (l18 : K.lookup f18 = some ⟨oc18, od18, .func (PySem.W.fnOf "are_deeds" "are_deeds" (defArgs (stAt 24)) (defBody (stAt 24)) (defScope (stAt 24)) .none kV18 dc18 pm18 an18 cd18 ct18), sl18⟩)
    (c18 : PySem.W.codeIn K cd18 "are_deeds" = true) (k18 : PySem.W.keepIn K (.ref f18) = true)
    (a19 : PySem.W.nsIn K mainGlobals "need_deeds" = some (some (.ref f19)))
    (l19 : K.lookup f19 = some ⟨oc19, od19, .func (PySem.W.fnOf "need_deeds" "need_deeds" (defArgs (stAt 25)) (defBody (stAt 25)) (defScope (stAt 25)) .none kV19 dc19 pm19 an19 cd19 ct19), sl19⟩)
    (c19 : PySem.W.codeIn K cd19 "need_deeds" = true) (k19 : PySem.W.keepIn K (.ref f19) = true)
    (a20 : PySem.W.nsIn K mainGlobals "renamed" = some (some (.ref f20)))
    (l20 : K.lookup f20 = some ⟨oc20, od20, .func (PySem.W.fnOf "renamed" "renamed" (defArgs (stAt 28)) (defBody (stAt 28)) (defScope (stAt 28)) .none kV20 dc20 pm20 an20 cd20 ct20), sl20⟩)
    (c20 : PySem.W.codeIn K cd20 "renamed" = true) (k20 : PySem.W.keepIn K (.ref f20) = true)
    (a21 : PySem.W.nsIn K mainGlobals "columns_behind" = some (some (.ref f21)))
    (l21 : K.lookup f21 = some ⟨oc21, od21, .func (PySem.W.fnOf "columns_behind" "columns_behind" (defArgs (stAt 27)) (defBody (stAt 27)) (defScope (stAt 27)) .none kV21 dc21 pm21 an21 cd21 ct21), sl21⟩)
    (c21 : PySem.W.codeIn K cd21 "columns_behind" = true) (k21 : PySem.W.keepIn K (.ref f21) = true)
    (a22 : PySem.W.nsIn K mainGlobals "filled" = some (some (.ref f22)))
    (l22 : K.lookup f22 = some ⟨oc22, od22, .func (PySem.W.fnOf "filled" "filled" (defArgs (stAt 31)) (defBody (stAt 31)) (defScope (stAt 31)) .none kV22 dc22 pm22 an22 cd22 ct22), sl22⟩)
    (c22 : PySem.W.codeIn K cd22 "filled" = true) (k22 : PySem.W.keepIn K (.ref f22) = true)
    (a23 : PySem.W.nsIn K mainGlobals "firsts" = some (some (.ref f23)))
    (l23 : K.lookup f23 = some ⟨oc23, od23, .func (PySem.W.fnOf "firsts" "firsts" (defArgs (stAt 32)) (defBody (stAt 32)) (defScope (stAt 32)) .none kV23 dc23 pm23 an23 cd23 ct23), sl23⟩)
    (c23 : PySem.W.codeIn K cd23 "firsts" = true) (k23 : PySem.W.keepIn K (.ref f23) = true)
    (a24 : PySem.W.nsIn K mainGlobals "joined_cells" = some (some (.ref f24)))
    (l24 : K.lookup f24 = some ⟨oc24, od24, .func (PySem.W.fnOf "joined_cells" "joined_cells" (defArgs (stAt 34)) (defBody (stAt 34)) (defScope (stAt 34)) .none kV24 dc24 pm24 an24 cd24 ct24), sl24⟩)
    (c24 : PySem.W.codeIn K cd24 "joined_cells" = true) (k24 : PySem.W.keepIn K (.ref f24) = true)
    (a25 : PySem.W.nsIn K mainGlobals "moved_cells" = some (some (.ref f25)))
    (l25 : K.lookup f25 = some ⟨oc25, od25, .func (PySem.W.fnOf "moved_cells" "moved_cells" (defArgs (stAt 33)) (defBody (stAt 33)) (defScope (stAt 33)) .none kV25 dc25 pm25 an25 cd25 ct25), sl25⟩)
    (c25 : PySem.W.codeIn K cd25 "moved_cells" = true) (k25 : PySem.W.keepIn K (.ref f25) = true)
    (a26 : PySem.W.nsIn K mainGlobals "split_cell" = some (some (.ref f26)))
    (l26 : K.lookup f26 = some ⟨oc26, od26, .func (PySem.W.fnOf "split_cell" "split_cell" (defArgs (stAt 30)) (defBody (stAt 30)) (defScope (stAt 30)) .none kV26 dc26 pm26 an26 cd26 ct26), sl26⟩)
    (c26 : PySem.W.codeIn K cd26 "split_cell" = true) (k26 : PySem.W.keepIn K (.ref f26) = true)
    (a27 : PySem.W.nsIn K mainGlobals "rows_behind" = some (some (.ref f27)))
    (l27 : K.lookup f27 = some ⟨oc27, od27, .func (PySem.W.fnOf "rows_behind" "rows_behind" (defArgs (stAt 35)) (defBody (stAt 35)) (defScope (stAt 35)) .none kV27 dc27 pm27 an27 cd27 ct27), sl27⟩)
    (c27 : PySem.W.codeIn K cd27 "rows_behind" = true) (k27 : PySem.W.keepIn K (.ref f27) = true)
    (a28 : PySem.W.nsIn K mainGlobals "run" = some (some (.ref f28)))
    (l28 : K.lookup f28 = some ⟨oc28, od28, .func (PySem.W.fnOf "run" "run" (defArgs (stAt 36)) (defBody (stAt 36)) (defScope (stAt 36)) .none kV28 dc28 pm28 an28 cd28 ct28), sl28⟩)
    (c28 : PySem.W.codeIn K cd28 "run" = true) (k28 : PySem.W.keepIn K (.ref f28) = true)
    (a29 : PySem.W.nsIn K mainGlobals "done" = some (some (.ref f29)))
    (l29 : K.lookup f29 = some ⟨oc29, od29, .func (PySem.W.fnOf "done" "done" (defArgs (stAt 37)) (defBody (stAt 37)) (defScope (stAt 37)) .none kV29 dc29 pm29 an29 cd29 ct29), sl29⟩)
    (c29 : PySem.W.codeIn K cd29 "done" = true) (k29 : PySem.W.keepIn K (.ref f29) = true)
    (a30 : PySem.W.nsIn K mainGlobals "law" = some (some (.ref f30)))
    (l30 : K.lookup f30 = some ⟨oc30, od30, .func (PySem.W.fnOf "law" "law" (defArgs (stAt 49)) (defBody (stAt 49)) (defScope (stAt 49)) .none kV30 dc30 pm30 an30 cd30 ct30), sl30⟩)
    (c30 : PySem.W.codeIn K cd30 "law" = true) (k30 : PySem.W.keepIn K (.ref f30) = true)
    (g1 : PySem.W.nsIn K mainGlobals "CELL" = some (some (.int 8 t1)))
    (g2 : PySem.W.nsIn K mainGlobals "COLUMNS" = some (some (.int 6 t2)))
    (g3 : PySem.W.nsIn K mainGlobals "DEEDS" = some (some (.int 12 t3)))
    (g4 : PySem.W.nsIn K mainGlobals "LETTERS" = some (some (.str "abcdefghijklmnopqrstuvwxyz" t4)))
    (g5 : PySem.W.nsIn K mainGlobals "LONGEST" = some (some (.int 6 t5)))
    (g6 : PySem.W.nsIn K mainGlobals "PAIRS" = some (some (.int 4 t6)))
    (g7 : PySem.W.nsIn K mainGlobals "ROWS" = some (some (.int 12 t7)))
    (g8 : PySem.W.nsIn K mainGlobals "SIGNS" = some (some (.str "abcdefghijklmnopqrstuvwxyz0123456789-. " t8)))
    (g9 : PySem.W.nsIn K mainGlobals "SIZES" = some (some (.ref d9))) (gl9 : K.lookup d9 = some ⟨.type "dict", none, .dict es9 m9, #[]⟩) (gk9 : PySem.W.KeysLit w.params es9.toList) (gs9 : (d9 == sysModules) = false) (gb9 : dictB es9.toList [(Str.ofString "split", 5), (Str.ofString "join", 5), (Str.ofString "strike", 2), (Str.ofString "name", 3), (Str.ofString "order", 2), (Str.ofString "keep", 3), (Str.ofString "fill", 2), (Str.ofString "lead", 3), (Str.ofString "move", 3), (Str.ofString "unlike", 2)] = true)
    (g10 : PySem.W.nsIn K mainGlobals "all" = some none)
    (g11 : PySem.W.nsIn K mainGlobals "bool" = some none)
    (g12 : PySem.W.nsIn K mainGlobals "enumerate" = some none)
    (g13 : PySem.W.nsIn K mainGlobals "int" = some none)
    (g14 : PySem.W.nsIn K mainGlobals "isinstance" = some none)
    (g15 : PySem.W.nsIn K mainGlobals "len" = some none)
    (g16 : PySem.W.nsIn K mainGlobals "list" = some none)
    (g17 : PySem.W.nsIn K mainGlobals "range" = some none)
    (g18 : PySem.W.nsIn K mainGlobals "set" = some none)
    (g19 : PySem.W.nsIn K mainGlobals "str" = some none)
    (g20 : PySem.W.nsIn K mainGlobals "tuple" = some none) :
    ∃ fd : FuncData, (∀ (s : Shared) (v : Value), BindsTo s fd ⟨[v], []⟩ [("script", v)]) ∧ ∀ base : Heap, FnOk l.prog w K mg base CX0 30 fa fd ["script"] (spLaw K) := by
  have e := hfa.symm.trans (PySem.W.mg_of X G a30)
  cases e
  have FL : FactL K w mg ⟨K, fun n => ([(1, f1), (2, f2), (3, f3), (4, f4), (5, f5), (6, f6), (7, f7), (8, f8), (9, f9), (10, f10), (11, f11), (12, f12), (13, f13), (14, f14), (15, f15), (16, f16), (17, f17), (18, f18), (19, f19), (20, f20), (21, f21), (22, f22), (23, f23), (24, f24), (25, f25), (26, f26), (27, f27), (28, f28), (29, f29), (30, fa)] : List (Nat × Addr)).lookup n, fun _ => none⟩ gl bi TT gl := ⟨⟨.int 8, _, PySem.W.mg_of X G g1, ⟨_, rfl⟩, fun _ _ => .int _⟩,
    ⟨.int 6, _, PySem.W.mg_of X G g2, ⟨_, rfl⟩, fun _ _ => .int _⟩,
    ⟨.int 12, _, PySem.W.mg_of X G g3, ⟨_, rfl⟩, fun _ _ => .int _⟩,
    ⟨.str "abcdefghijklmnopqrstuvwxyz", _, PySem.W.mg_of X G g4, ⟨_, rfl⟩, fun _ _ => .str _⟩,
    ⟨.int 6, _, PySem.W.mg_of X G g5, ⟨_, rfl⟩, fun _ _ => .int _⟩,
    ⟨.int 4, _, PySem.W.mg_of X G g6, ⟨_, rfl⟩, fun _ _ => .int _⟩,
    ⟨.int 12, _, PySem.W.mg_of X G g7, ⟨_, rfl⟩, fun _ _ => .int _⟩,
    ⟨.str "abcdefghijklmnopqrstuvwxyz0123456789-. ", _, PySem.W.mg_of X G g8, ⟨_, rfl⟩, fun _ _ => .str _⟩,
    ⟨d9, PySem.W.mg_of X G g9, _, _, gl9, gk9, gs9, gb9⟩,
    ⟨⟨f1, _, _, _, n_f1_law_cell_at.take 2, n_f1_law_cell_at, f1_law_cell_at, PySem.W.mg_of X G a1, rfl, rfl, fun_mk (st := stAt 41) l1 c1 k1, (fun_mk (st := stAt 41) l1 c1 k1).binds (ps := n_f1_law_cell_at.take 2) fun _ _ _ _ _ _ us hl => match us, hl with | [_, _], _ => rfl, C8.fnScope_by s_f1_law_cell_at, rfl, rfl, c_f1_law_cell_at⟩⟩,
    ⟨⟨f6, _, _, _, n_f6_law_cell_of.take 2, n_f6_law_cell_of, f6_law_cell_of, PySem.W.mg_of X G a6, rfl, rfl, fun_mk (st := stAt 46) l6 c6 k6, (fun_mk (st := stAt 46) l6 c6 k6).binds (ps := n_f6_law_cell_of.take 2) fun _ _ _ _ _ _ us hl => match us, hl with | [_, _], _ => rfl, C8.fnScope_by s_f6_law_cell_of, rfl, rfl, c_f6_law_cell_of⟩⟩,
    ⟨⟨f3, _, _, _, n_f3_law_draw.take 3, n_f3_law_draw, f3_law_draw, PySem.W.mg_of X G a3, rfl, rfl, fun_mk (st := stAt 43) l3 c3 k3, (fun_mk (st := stAt 43) l3 c3 k3).binds (ps := n_f3_law_draw.take 3) fun _ _ _ _ _ _ us hl => match us, hl with | [_, _, _], _ => rfl, C8.fnScope_by s_f3_law_draw, rfl, rfl, c_f3_law_draw⟩⟩,
    ⟨⟨f2, _, _, _, n_f2_law_mixed.take 3, n_f2_law_mixed, f2_law_mixed, PySem.W.mg_of X G a2, rfl, rfl, fun_mk (st := stAt 42) l2 c2 k2, (fun_mk (st := stAt 42) l2 c2 k2).binds (ps := n_f2_law_mixed.take 3) fun _ _ _ _ _ _ us hl => match us, hl with | [_, _, _], _ => rfl, C8.fnScope_by s_f2_law_mixed, rfl, rfl, c_f2_law_mixed⟩⟩,
    ⟨⟨f4, _, _, _, n_f4_law_names.take 3, n_f4_law_names, f4_law_names, PySem.W.mg_of X G a4, rfl, rfl, fun_mk (st := stAt 45) l4 c4 k4, (fun_mk (st := stAt 45) l4 c4 k4).binds (ps := n_f4_law_names.take 3) fun _ _ _ _ _ _ us hl => match us, hl with | [_, _, _], _ => rfl, C8.fnScope_by s_f4_law_names, rfl, rfl, c_f4_law_names⟩⟩,
    ⟨⟨f5, _, _, _, n_f5_law_pick.take 3, n_f5_law_pick, f5_law_pick, PySem.W.mg_of X G a5, rfl, rfl, fun_mk (st := stAt 44) l5 c5 k5, (fun_mk (st := stAt 44) l5 c5 k5).binds (ps := n_f5_law_pick.take 3) fun _ _ _ _ _ _ us hl => match us, hl with | [_, _, _], _ => rfl, C8.fnScope_by s_f5_law_pick, rfl, rfl, c_f5_law_pick⟩⟩,
    ⟨⟨f7, _, _, _, n_f7_law_table.take 4, n_f7_law_table, f7_law_table, PySem.W.mg_of X G a7, rfl, rfl, fun_mk (st := stAt 47) l7 c7 k7, (fun_mk (st := stAt 47) l7 c7 k7).binds (ps := n_f7_law_table.take 4) fun _ _ _ _ _ _ us hl => match us, hl with | [_, _, _, _], _ => rfl, C8.fnScope_by s_f7_law_table, rfl, rfl, c_f7_law_table⟩⟩,
    ⟨⟨f9, _, _, _, n_f9_are_columns.take 1, n_f9_are_columns, f9_are_columns, PySem.W.mg_of X G a9, rfl, rfl, fun_mk (st := stAt 18) l9 c9 k9, (fun_mk (st := stAt 18) l9 c9 k9).binds (ps := n_f9_are_columns.take 1) fun _ _ _ _ _ _ us hl => match us, hl with | [_], _ => rfl, C8.fnScope_by s_f9_are_columns, rfl, rfl, c_f9_are_columns⟩⟩,
    ⟨⟨f18, _, _, _, n_f18_are_deeds.take 1, n_f18_are_deeds, f18_are_deeds, PySem.W.mg_of X G a18, rfl, rfl, fun_mk (st := stAt 24) l18 c18 k18, (fun_mk (st := stAt 24) l18 c18 k18).binds (ps := n_f18_are_deeds.take 1) fun _ _ _ _ _ _ us hl => match us, hl with | [_], _ => rfl, C8.fnScope_by s_f18_are_deeds, rfl, rfl, c_f18_are_deeds⟩⟩,
    ⟨⟨f14, _, _, _, n_f14_are_pairs.take 1, n_f14_are_pairs, f14_are_pairs, PySem.W.mg_of X G a14, rfl, rfl, fun_mk (st := stAt 22) l14 c14 k14, (fun_mk (st := stAt 22) l14 c14 k14).binds (ps := n_f14_are_pairs.take 1) fun _ _ _ _ _ _ us hl => match us, hl with | [_], _ => rfl, C8.fnScope_by s_f14_are_pairs, rfl, rfl, c_f14_are_pairs⟩⟩,
    ⟨⟨f21, _, _, _, n_f21_columns_behind.take 2, n_f21_columns_behind, f21_columns_behind, PySem.W.mg_of X G a21, rfl, rfl, fun_mk (st := stAt 27) l21 c21 k21, (fun_mk (st := stAt 27) l21 c21 k21).binds (ps := n_f21_columns_behind.take 2) fun _ _ _ _ _ _ us hl => match us, hl with | [_, _], _ => rfl, C8.fnScope_by s_f21_columns_behind, rfl, rfl, c_f21_columns_behind⟩⟩,
    ⟨⟨f29, _, _, _, n_f29_done.take 2, n_f29_done, f29_done, PySem.W.mg_of X G a29, rfl, rfl, fun_mk (st := stAt 37) l29 c29 k29, (fun_mk (st := stAt 37) l29 c29 k29).binds (ps := n_f29_done.take 2) fun _ _ _ _ _ _ us hl => match us, hl with | [_, _], _ => rfl, C8.fnScope_by s_f29_done, rfl, rfl, c_f29_done⟩⟩,
    ⟨⟨f22, _, _, _, n_f22_filled.take 2, n_f22_filled, f22_filled, PySem.W.mg_of X G a22, rfl, rfl, fun_mk (st := stAt 31) l22 c22 k22, (fun_mk (st := stAt 31) l22 c22 k22).binds (ps := n_f22_filled.take 2) fun _ _ _ _ _ _ us hl => match us, hl with | [_, _], _ => rfl, C8.fnScope_by s_f22_filled, rfl, rfl, c_f22_filled⟩⟩,
    ⟨⟨f23, _, _, _, n_f23_firsts.take 2, n_f23_firsts, f23_firsts, PySem.W.mg_of X G a23, rfl, rfl, fun_mk (st := stAt 32) l23 c23 k23, (fun_mk (st := stAt 32) l23 c23 k23).binds (ps := n_f23_firsts.take 2) fun _ _ _ _ _ _ us hl => match us, hl with | [_, _], _ => rfl, C8.fnScope_by s_f23_firsts, rfl, rfl, c_f23_firsts⟩⟩,
    ⟨⟨f10, _, _, _, n_f10_is_cell.take 1, n_f10_is_cell, f10_is_cell, PySem.W.mg_of X G a10, rfl, rfl, fun_mk (st := stAt 17) l10 c10 k10, (fun_mk (st := stAt 17) l10 c10 k10).binds (ps := n_f10_is_cell.take 1) fun _ _ _ _ _ _ us hl => match us, hl with | [_], _ => rfl, C8.fnScope_by s_f10_is_cell, rfl, rfl, c_f10_is_cell⟩⟩,
    ⟨⟨f17, _, _, _, n_f17_is_deed.take 1, n_f17_is_deed, f17_is_deed, PySem.W.mg_of X G a17, rfl, rfl, fun_mk (st := stAt 23) l17 c17 k17, (fun_mk (st := stAt 23) l17 c17 k17).binds (ps := n_f17_is_deed.take 1) fun _ _ _ _ _ _ us hl => match us, hl with | [_], _ => rfl, C8.fnScope_by s_f17_is_deed, rfl, rfl, c_f17_is_deed⟩⟩,
    ⟨⟨f16, _, _, _, n_f16_is_sign.take 1, n_f16_is_sign, f16_is_sign, PySem.W.mg_of X G a16, rfl, rfl, fun_mk (st := stAt 21) l16 c16 k16, (fun_mk (st := stAt 21) l16 c16 k16).binds (ps := n_f16_is_sign.take 1) fun _ _ _ _ _ _ us hl => match us, hl with | [_], _ => rfl, C8.fnScope_by s_f16_is_sign, rfl, rfl, c_f16_is_sign⟩⟩,
    ⟨⟨f11, _, _, _, n_f11_is_table.take 1, n_f11_is_table, f11_is_table, PySem.W.mg_of X G a11, rfl, rfl, fun_mk (st := stAt 19) l11 c11 k11, (fun_mk (st := stAt 19) l11 c11 k11).binds (ps := n_f11_is_table.take 1) fun _ _ _ _ _ _ us hl => match us, hl with | [_], _ => rfl, C8.fnScope_by s_f11_is_table, rfl, rfl, c_f11_is_table⟩⟩,
    ⟨⟨f15, _, _, _, n_f15_is_whole.take 3, n_f15_is_whole, f15_is_whole, PySem.W.mg_of X G a15, rfl, rfl, fun_mk (st := stAt 15) l15 c15 k15, (fun_mk (st := stAt 15) l15 c15 k15).binds (ps := n_f15_is_whole.take 3) fun _ _ _ _ _ _ us hl => match us, hl with | [_, _, _], _ => rfl, C8.fnScope_by s_f15_is_whole, rfl, rfl, c_f15_is_whole⟩⟩,
    ⟨⟨f8, _, _, _, n_f8_is_word.take 1, n_f8_is_word, f8_is_word, PySem.W.mg_of X G a8, rfl, rfl, fun_mk (st := stAt 16) l8 c8 k8, (fun_mk (st := stAt 16) l8 c8 k8).binds (ps := n_f8_is_word.take 1) fun _ _ _ _ _ _ us hl => match us, hl with | [_], _ => rfl, C8.fnScope_by s_f8_is_word, rfl, rfl, c_f8_is_word⟩⟩,
    ⟨⟨f24, _, _, _, n_f24_joined_cells.take 4, n_f24_joined_cells, f24_joined_cells, PySem.W.mg_of X G a24, rfl, rfl, fun_mk (st := stAt 34) l24 c24 k24, (fun_mk (st := stAt 34) l24 c24 k24).binds (ps := n_f24_joined_cells.take 4) fun _ _ _ _ _ _ us hl => match us, hl with | [_, _, _, _], _ => rfl, C8.fnScope_by s_f24_joined_cells, rfl, rfl, c_f24_joined_cells⟩⟩,
    ⟨⟨f25, _, _, _, n_f25_moved_cells.take 3, n_f25_moved_cells, f25_moved_cells, PySem.W.mg_of X G a25, rfl, rfl, fun_mk (st := stAt 33) l25 c25 k25, (fun_mk (st := stAt 33) l25 c25 k25).binds (ps := n_f25_moved_cells.take 3) fun _ _ _ _ _ _ us hl => match us, hl with | [_, _, _], _ => rfl, C8.fnScope_by s_f25_moved_cells, rfl, rfl, c_f25_moved_cells⟩⟩,
    ⟨⟨f13, _, _, _, n_f13_named.take 2, n_f13_named, f13_named, PySem.W.mg_of X G a13, rfl, rfl, fun_mk (st := stAt 39) l13 c13 k13, (fun_mk (st := stAt 39) l13 c13 k13).binds (ps := n_f13_named.take 2) fun _ _ _ _ _ _ us hl => match us, hl with | [_, _], _ => rfl, C8.fnScope_by s_f13_named, rfl, rfl, c_f13_named⟩⟩,
    ⟨⟨f19, _, _, _, n_f19_need_deeds.take 1, n_f19_need_deeds, f19_need_deeds, PySem.W.mg_of X G a19, rfl, rfl, fun_mk (st := stAt 25) l19 c19 k19, (fun_mk (st := stAt 25) l19 c19 k19).binds (ps := n_f19_need_deeds.take 1) fun _ _ _ _ _ _ us hl => match us, hl with | [_], _ => rfl, C8.fnScope_by s_f19_need_deeds, rfl, rfl, c_f19_need_deeds⟩⟩,
    ⟨⟨f12, _, _, _, n_f12_need_table.take 1, n_f12_need_table, f12_need_table, PySem.W.mg_of X G a12, rfl, rfl, fun_mk (st := stAt 20) l12 c12 k12, (fun_mk (st := stAt 20) l12 c12 k12).binds (ps := n_f12_need_table.take 1) fun _ _ _ _ _ _ us hl => match us, hl with | [_], _ => rfl, C8.fnScope_by s_f12_need_table, rfl, rfl, c_f12_need_table⟩⟩,
    ⟨⟨f20, _, _, _, n_f20_renamed.take 4, n_f20_renamed, f20_renamed, PySem.W.mg_of X G a20, rfl, rfl, fun_mk (st := stAt 28) l20 c20 k20, (fun_mk (st := stAt 28) l20 c20 k20).binds (ps := n_f20_renamed.take 4) fun _ _ _ _ _ _ us hl => match us, hl with | [_, _, _, _], _ => rfl, C8.fnScope_by s_f20_renamed, rfl, rfl, c_f20_renamed⟩⟩,
    ⟨⟨f27, _, _, _, n_f27_rows_behind.take 3, n_f27_rows_behind, f27_rows_behind, PySem.W.mg_of X G a27, rfl, rfl, fun_mk (st := stAt 35) l27 c27 k27, (fun_mk (st := stAt 35) l27 c27 k27).binds (ps := n_f27_rows_behind.take 3) fun _ _ _ _ _ _ us hl => match us, hl with | [_, _, _], _ => rfl, C8.fnScope_by s_f27_rows_behind, rfl, rfl, c_f27_rows_behind⟩⟩,
    ⟨⟨f28, _, _, _, n_f28_run.take 2, n_f28_run, f28_run, PySem.W.mg_of X G a28, rfl, rfl, fun_mk (st := stAt 36) l28 c28 k28, (fun_mk (st := stAt 36) l28 c28 k28).binds (ps := n_f28_run.take 2) fun _ _ _ _ _ _ us hl => match us, hl with | [_, _], _ => rfl, C8.fnScope_by s_f28_run, rfl, rfl, c_f28_run⟩⟩,
    ⟨⟨f26, _, _, _, n_f26_split_cell.take 2, n_f26_split_cell, f26_split_cell, PySem.W.mg_of X G a26, rfl, rfl, fun_mk (st := stAt 30) l26 c26 k26, (fun_mk (st := stAt 30) l26 c26 k26).binds (ps := n_f26_split_cell.take 2) fun _ _ _ _ _ _ us hl => match us, hl with | [_, _], _ => rfl, C8.fnScope_by s_f26_split_cell, rfl, rfl, c_f26_split_cell⟩⟩, True.intro⟩
  have BL : BiL mg bi := ⟨PySem.W.mg_none_of X G g10, PySem.W.mg_none_of X G g11, PySem.W.mg_none_of X G g12, PySem.W.mg_none_of X G g13, PySem.W.mg_none_of X G g14, PySem.W.mg_none_of X G g15, PySem.W.mg_none_of X G g16, PySem.W.mg_none_of X G g17, PySem.W.mg_none_of X G g18, PySem.W.mg_none_of X G g19, PySem.W.mg_none_of X G g20, True.intro⟩
  refine ⟨PySem.W.fnOf "law" "law" (defArgs (stAt 49)) (defBody (stAt 49)) (defScope (stAt 49)) .none kV30 dc30 pm30 an30 cd30 ct30, fun s v => .of_eq rfl, ?_⟩
  exact law_ok (n := 30) (d := f30_law) (N := n_f30_law) (facts_of rfl FL BL) rfl (fun_mk (st := stAt 49) l30 c30 k30) (C8.fnScope_by s_f30_law) rfl rfl c_f30_law law_true
end TS
open PySem PySem.W PyProof.Rows
set_option maxRecDepth 100000 in
set_option maxHeartbeats 0 in
theorem PySem.Challenge.cw_tableshop_k28_whole_named_holds : PySem.Challenge.rw_tableshop_k28_whole_named.Holds := by
  w_on; o_law; k_head; (case hw => w_witness2)
  k_fill
  refine TS.walk (l := PySem.Challenge.rw_tableshop_k28_whole_named) (k := 30) rfl rfl ⟨rfl, by decide, by decide⟩ (fun w h Y => PySem.W.kIn_of Y) ?F
  case F =>
    intro w mg fa h KX G hmg
    refine' TS.all_mk KX G hmg ?a1 ?l1 ?c1 ?k1 ?a2 ?l2 ?c2 ?k2 ?a3 ?l3 ?c3 ?k3 ?a4 ?l4 ?c4 ?k4 ?a5 ?l5 ?c5 ?k5 ?a6 ?l6 ?c6 ?k6 ?a7 ?l7 ?c7 ?k7 ?a8 ?l8 ?c8 ?k8 ?a9 ?l9 ?c9 ?k9 ?a10 ?l10 ?c10 ?k10 ?a11 ?l11 ?c11 ?k11 ?a12 ?l12 ?c12 ?k12 ?a13 ?l13 ?c13 ?k13 ?a14 ?l14 ?c14 ?k14 ?a15 ?l15 ?c15 ?k15 ?a16 ?l16 ?c16 ?k16 ?a17 ?l17 ?c17 ?k17 ?a18 ?l18 ?c18 ?k18 ?a19 ?l19 ?c19 ?k19 ?a20 ?l20 ?c20 ?k20 ?a21 ?l21 ?c21 ?k21 ?a22 ?l22 ?c22 ?k22 ?a23 ?l23 ?c23 ?k23 ?a24 ?l24 ?c24 ?k24 ?a25 ?l25 ?c25 ?k25 ?a26 ?l26 ?c26 ?k26 ?a27 ?l27 ?c27 ?k27 ?a28 ?l28 ?c28 ?k28 ?a29 ?l29 ?c29 ?k29 ?a30 ?l30 ?c30 ?k30 ?g1 ?g2 ?g3 ?g4 ?g5 ?g6 ?g7 ?g8 ?g9 ?gl9 ?gk9 ?gs9 ?gb9 ?g10 ?g11 ?g12 ?g13 ?g14 ?g15 ?g16 ?g17 ?g18 ?g19 ?g20
    (case a1 => first | k_is | rfl | decide +kernel)
    (case l1 => first | k_is | rfl | decide +kernel)
    (case c1 => first | k_is | rfl | decide +kernel)
    (case k1 => first | k_is | rfl | decide +kernel)
    (case a2 => first | k_is | rfl | decide +kernel)
    (case l2 => first | k_is | rfl | decide +kernel)
    (case c2 => first | k_is | rfl | decide +kernel)
    (case k2 => first | k_is | rfl | decide +kernel)
    (case a3 => first | k_is | rfl | decide +kernel)
    (case l3 => first | k_is | rfl | decide +kernel)
    (case c3 => first | k_is | rfl | decide +kernel)
    (case k3 => first | k_is | rfl | decide +kernel)
    (case a4 => first | k_is | rfl | decide +kernel)
    (case l4 => first | k_is | rfl | decide +kernel)
    (case c4 => first | k_is | rfl | decide +kernel)
    (case k4 => first | k_is | rfl | decide +kernel)
    (case a5 => first | k_is | rfl | decide +kernel)
    (case l5 => first | k_is | rfl | decide +kernel)
    (case c5 => first | k_is | rfl | decide +kernel)
    (case k5 => first | k_is | rfl | decide +kernel)
    (case a6 => first | k_is | rfl | decide +kernel)
    (case l6 => first | k_is | rfl | decide +kernel)
    (case c6 => first | k_is | rfl | decide +kernel)
    (case k6 => first | k_is | rfl | decide +kernel)
    (case a7 => first | k_is | rfl | decide +kernel)
    (case l7 => first | k_is | rfl | decide +kernel)
    (case c7 => first | k_is | rfl | decide +kernel)
    (case k7 => first | k_is | rfl | decide +kernel)
    (case a8 => first | k_is | rfl | decide +kernel)
    (case l8 => first | k_is | rfl | decide +kernel)
    (case c8 => first | k_is | rfl | decide +kernel)
    (case k8 => first | k_is | rfl | decide +kernel)
    (case a9 => first | k_is | rfl | decide +kernel)
    (case l9 => first | k_is | rfl | decide +kernel)
    (case c9 => first | k_is | rfl | decide +kernel)
    (case k9 => first | k_is | rfl | decide +kernel)
    (case a10 => first | k_is | rfl | decide +kernel)
    (case l10 => first | k_is | rfl | decide +kernel)
    (case c10 => first | k_is | rfl | decide +kernel)
    (case k10 => first | k_is | rfl | decide +kernel)
    (case a11 => first | k_is | rfl | decide +kernel)
    (case l11 => first | k_is | rfl | decide +kernel)
    (case c11 => first | k_is | rfl | decide +kernel)
    (case k11 => first | k_is | rfl | decide +kernel)
    (case a12 => first | k_is | rfl | decide +kernel)
    (case l12 => first | k_is | rfl | decide +kernel)
    (case c12 => first | k_is | rfl | decide +kernel)
    (case k12 => first | k_is | rfl | decide +kernel)
    (case a13 => first | k_is | rfl | decide +kernel)
    (case l13 => first | k_is | rfl | decide +kernel)
    (case c13 => first | k_is | rfl | decide +kernel)
    (case k13 => first | k_is | rfl | decide +kernel)
    (case a14 => first | k_is | rfl | decide +kernel)
    (case l14 => first | k_is | rfl | decide +kernel)
    (case c14 => first | k_is | rfl | decide +kernel)
    (case k14 => first | k_is | rfl | decide +kernel)
    (case a15 => first | k_is | rfl | decide +kernel)
    (case l15 => first | k_is | rfl | decide +kernel)
    (case c15 => first | k_is | rfl | decide +kernel)
    (case k15 => first | k_is | rfl | decide +kernel)
    (case a16 => first | k_is | rfl | decide +kernel)
    (case l16 => first | k_is | rfl | decide +kernel)
    (case c16 => first | k_is | rfl | decide +kernel)
    (case k16 => first | k_is | rfl | decide +kernel)
    (case a17 => first | k_is | rfl | decide +kernel)
    (case l17 => first | k_is | rfl | decide +kernel)
    (case c17 => first | k_is | rfl | decide +kernel)
    (case k17 => first | k_is | rfl | decide +kernel)
    (case a18 => first | k_is | rfl | decide +kernel)
    (case l18 => first | k_is | rfl | decide +kernel)
    (case c18 => first | k_is | rfl | decide +kernel)
    (case k18 => first | k_is | rfl | decide +kernel)
    (case a19 => first | k_is | rfl | decide +kernel)
    (case l19 => first | k_is | rfl | decide +kernel)
    (case c19 => first | k_is | rfl | decide +kernel)
    (case k19 => first | k_is | rfl | decide +kernel)
    (case a20 => first | k_is | rfl | decide +kernel)
    (case l20 => first | k_is | rfl | decide +kernel)
    (case c20 => first | k_is | rfl | decide +kernel)
    (case k20 => first | k_is | rfl | decide +kernel)
    (case a21 => first | k_is | rfl | decide +kernel)
    (case l21 => first | k_is | rfl | decide +kernel)
    (case c21 => first | k_is | rfl | decide +kernel)
    (case k21 => first | k_is | rfl | decide +kernel)
    (case a22 => first | k_is | rfl | decide +kernel)
    (case l22 => first | k_is | rfl | decide +kernel)
    (case c22 => first | k_is | rfl | decide +kernel)
    (case k22 => first | k_is | rfl | decide +kernel)
    (case a23 => first | k_is | rfl | decide +kernel)
    (case l23 => first | k_is | rfl | decide +kernel)
    (case c23 => first | k_is | rfl | decide +kernel)
    (case k23 => first | k_is | rfl | decide +kernel)
    (case a24 => first | k_is | rfl | decide +kernel)
    (case l24 => first | k_is | rfl | decide +kernel)
    (case c24 => first | k_is | rfl | decide +kernel)
    (case k24 => first | k_is | rfl | decide +kernel)
    (case a25 => first | k_is | rfl | decide +kernel)
    (case l25 => first | k_is | rfl | decide +kernel)
    (case c25 => first | k_is | rfl | decide +kernel)
    (case k25 => first | k_is | rfl | decide +kernel)
    (case a26 => first | k_is | rfl | decide +kernel)
    (case l26 => first | k_is | rfl | decide +kernel)
    (case c26 => first | k_is | rfl | decide +kernel)
    (case k26 => first | k_is | rfl | decide +kernel)
    (case a27 => first | k_is | rfl | decide +kernel)
    (case l27 => first | k_is | rfl | decide +kernel)
    (case c27 => first | k_is | rfl | decide +kernel)
    (case k27 => first | k_is | rfl | decide +kernel)
    (case a28 => first | k_is | rfl | decide +kernel)
    (case l28 => first | k_is | rfl | decide +kernel)
    (case c28 => first | k_is | rfl | decide +kernel)
    (case k28 => first | k_is | rfl | decide +kernel)
    (case a29 => first | k_is | rfl | decide +kernel)
    (case l29 => first | k_is | rfl | decide +kernel)
    (case c29 => first | k_is | rfl | decide +kernel)
    (case k29 => first | k_is | rfl | decide +kernel)
    (case a30 => first | k_is | rfl | decide +kernel)
    (case l30 => first | k_is | rfl | decide +kernel)
    (case c30 => first | k_is | rfl | decide +kernel)
    (case k30 => first | k_is | rfl | decide +kernel)
    (case g1 => first | k_is | rfl | decide +kernel)
    (case g2 => first | k_is | rfl | decide +kernel)
    (case g3 => first | k_is | rfl | decide +kernel)
    (case g4 => first | k_is | rfl | decide +kernel)
    (case g5 => first | k_is | rfl | decide +kernel)
    (case g6 => first | k_is | rfl | decide +kernel)
    (case g7 => first | k_is | rfl | decide +kernel)
    (case g8 => first | k_is | rfl | decide +kernel)
    (case g9 => first | k_is | rfl | decide +kernel)
    (case gl9 => first | k_is | rfl | decide +kernel)
    (case gk9 => first | k_is | (repeat' constructor))
    (case gs9 => first | k_is | rfl | decide +kernel)
    (case gb9 => first | k_is | rfl | decide +kernel)
    (case g10 => first | k_is | rfl | decide +kernel)
    (case g11 => first | k_is | rfl | decide +kernel)
    (case g12 => first | k_is | rfl | decide +kernel)
    (case g13 => first | k_is | rfl | decide +kernel)
    (case g14 => first | k_is | rfl | decide +kernel)
    (case g15 => first | k_is | rfl | decide +kernel)
    (case g16 => first | k_is | rfl | decide +kernel)
    (case g17 => first | k_is | rfl | decide +kernel)
    (case g18 => first | k_is | rfl | decide +kernel)
    (case g19 => first | k_is | rfl | decide +kernel)
    (case g20 => first | k_is | rfl | decide +kernel)
