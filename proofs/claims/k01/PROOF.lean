import PyProof.Rows.All
import Wide.All
import OpenK.AllK
import Wide.FinOn
import HandS.List
import HandS.Base
import HandS.Call
import HandS.Comp
import HandS.Dict
import HandS.Iter
import HandS.Exc
import HandS.Defaults
import HandS.TupAny
import HandS.IsInst
import HandS.More
import HandS.Flow
import KE.GoesMore
import KE.GoesZip
import KE.GoesEnum
import HandS.CallSlots
import HandS.DictComp
import HandS.Style
import HandS.HeadEnd
import HandS.HeadHook2
import KE.KStateDown
import HandS.Ends
import HandS.Words
import HandS.WordsExc
import HandS.Head0
import HandS.Head1
import HandS.Head2
import HandS.HeadHook1
import PySem.Challenge.RW_effecthouse_k01_parts_of_programs
set_option Elab.async false
set_option linter.all false
set_option maxRecDepth 100000
set_option maxHeartbeats 4000000
/-! ## EvCore -/
/-! EvCore: values, heaps, terms, the evaluator. -/
namespace Ev
open PySem

/-- values: tuples are trees; frl: a list that is only read (the script); ref: an object of the evaluator's own heap; gl: what a module's name stands for -/
inductive D where
  | non | bl (b : Bool) | int (i : Int) | str (s : String) | tup (xs : List D) | frl (xs : List D) | ref (n : Nat) | gl (x : String)
  deriving Inhabited

mutual
def D.beq : D → D → Bool
  | .non, .non => true
  | .bl a, .bl b => a == b
  | .int a, .int b => a == b
  | .str a, .str b => a == b
  | .tup xs, .tup ys => D.beqs xs ys
  | .frl xs, .frl ys => D.beqs xs ys
  | .ref a, .ref b => a == b
  | .gl a, .gl b => a == b
  | _, _ => false
def D.beqs : List D → List D → Bool
  | [], [] => true
  | a :: r, b :: s => D.beq a b && D.beqs r s
  | _, _ => false
end
mutual
theorem D.beq_eq : ∀ a b : D, D.beq a b = true → a = b
  | .non, b, h => by cases b <;> simp_all [D.beq]
  | .bl a, b, h => by cases b <;> simp_all [D.beq]
  | .int a, b, h => by cases b <;> simp_all [D.beq]
  | .str a, b, h => by cases b <;> simp_all [D.beq]
  | .tup xs, b, h => by
    cases b with
    | tup ys => rw [D.beqs_eq xs ys (by simpa [D.beq] using h)]
    | _ => simp [D.beq] at h
  | .frl xs, b, h => by
    cases b with
    | frl ys => rw [D.beqs_eq xs ys (by simpa [D.beq] using h)]
    | _ => simp [D.beq] at h
  | .ref a, b, h => by cases b <;> simp_all [D.beq]
  | .gl a, b, h => by cases b <;> simp_all [D.beq]
theorem D.beqs_eq : ∀ a b : List D, D.beqs a b = true → a = b
  | [], b, h => by cases b <;> simp_all [D.beqs]
  | a :: r, b, h => by
    cases b with
    | nil => simp [D.beqs] at h
    | cons c s =>
      have h' : D.beq a c = true ∧ D.beqs r s = true := by simpa [D.beqs] using h
      rw [D.beq_eq a c h'.1, D.beqs_eq r s h'.2]
end
mutual
theorem D.beq_refl : ∀ a : D, D.beq a a = true
  | .non => rfl
  | .bl a => by simp [D.beq]
  | .int a => by simp [D.beq]
  | .str a => by simp [D.beq]
  | .tup xs => by simp [D.beq, D.beqs_refl xs]
  | .frl xs => by simp [D.beq, D.beqs_refl xs]
  | .ref a => by simp [D.beq]
  | .gl a => by simp [D.beq]
theorem D.beqs_refl : ∀ a : List D, D.beqs a a = true
  | [] => rfl
  | a :: r => by simp [D.beqs, D.beq_refl a, D.beqs_refl r]
end
instance : DecidableEq D := fun a b => match h : D.beq a b with
  | true => isTrue (D.beq_eq a b h)
  | false => isFalse fun e => by rw [e, D.beq_refl] at h; cases h

/-- objects: a list, a dict, a dict that is walked, an instance -/
inductive AO where
  | lst (xs : List D) | dct (kvs : List (D × D)) | lk (kvs : List (D × D)) | ins (c : String) (fs : List (String × D))
  deriving Inhabited, DecidableEq
abbrev AH := List AO
structure Xc where
  cls : String
  fs : List (String × D)

inductive Res (α : Type) where
  | ok (a : α) (A : AH) | exc (x : Xc) (A : AH) | no
abbrev Fr := List (Option D)
/-- a statement's end -/
inductive SR where
  | nx (F : Fr) (A : AH) | bk (F : Fr) (A : AH) | ct (F : Fr) (A : AH) | rt (d : D) (A : AH) | exc (x : Xc) (F : Fr) (A : AH) | no

def bnd {α β : Type} (r : Res α) (f : α → AH → Res β) : Res β := match r with
  | .ok a A => f a A
  | .exc x A => .exc x A
  | .no => .no
/-- a value on the way to a statement's end -/
def bns {α : Type} (F : Fr) (r : Res α) (f : α → AH → SR) : SR := match r with
  | .ok a A => f a A
  | .exc x A => .exc x F A
  | .no => .no
def ofO {α : Type} (o : Option α) (A : AH) : Res α := match o with
  | some a => .ok a A
  | none => .no

inductive BOp where
  | add | sub | mul | fdiv | mod
  deriving DecidableEq
inductive COp where
  | eq | ne | lt | le | gt | ge | is | isnt | mem | nmem
  deriving DecidableEq
/-- what is stored to -/
inductive Tg where
  | nm (i : Nat) | tu (ts : Tg) | nil | cons (a r : Tg)

inductive Ex where
  | var (i : Nat)
  | int (i : Int) | str (s : String) | bl (b : Bool) | non
  | gl (x : String) | cst (x : String) (d : D)
  | tup (es : Ex) | lst (es : Ex) | dct (es : Ex)
  | nil | cons (a r : Ex)
  | op (o : BOp) (a b : Ex) | neg (a : Ex)
  | cmp (o : COp) (a b : Ex) | chn (o p : COp) (a b c : Ex)
  | and (a b : Ex) | or (a b : Ex) | not (a : Ex) | ite (c a b : Ex)
  | ix (a i : Ex) | sl (a lo hi : Ex)
  | call (f : String) (es : Ex) | bi (f : String) (es : Ex) | mth (m : String) (o es : Ex)
  | lc (t : Tg) (it cond elt : Ex) (own : List Nat)
  | dc (t : Tg) (it cond k v : Ex) (own : List Nat)
  | wk (e : Ex) | enm (e : Ex) | zip (a b : Ex) | rng (es : Ex)

inductive Sm where
  | skip | seq (a b : Sm)
  | ex (e : Ex) | set (i : Nat) (e : Ex) | asg (t : Tg) (e : Ex) | sub (o i e : Ex)
  | ret (e : Ex) | ite (c : Ex) (a b : Sm) | for (t : Tg) (it : Ex) (b : Sm) | whl (c : Ex) (b : Sm) | brk | cont

/-! ### values -/
def keyOk : D → Bool
  | .int _ | .str _ => true
  | _ => false
/-- keys: ints and texts alone -/
def keyEq : D → D → Bool
  | .int i, .int j => i == j
  | .str s, .str t => s == t
  | _, _ => false
def dget (kvs : List (D × D)) (k : D) : Option D := (kvs.find? fun kv => keyEq kv.1 k).map (·.2)
def dput (kvs : List (D × D)) (k v : D) : List (D × D) :=
  if kvs.any fun kv => keyEq kv.1 k then kvs.map fun kv => if keyEq kv.1 k then (kv.1, v) else kv else kvs ++ [(k, v)]
def ddrop (kvs : List (D × D)) (k : D) : List (D × D) := kvs.filter fun kv => !keyEq kv.1 k
def dmerge (kvs more : List (D × D)) : List (D × D) := more.foldl (fun a kv => dput a kv.1 kv.2) kvs

/-- a list's items, for reading -/
def seqL (A : AH) (n : Nat) : Option (List D) := match A[n]? with
  | some (.lst xs) => some xs
  | _ => none
def dctL (A : AH) (n : Nat) : Option (List (D × D)) := match A[n]? with
  | some (.dct kvs) => some kvs
  | some (.lk kvs) => some kvs
  | _ => none
/-- a list's or a tuple's items -/
def seqOf (A : AH) : D → Option (List D)
  | .tup xs => some xs
  | .ref n => seqL A n
  | _ => none
def truth (A : AH) : D → Option Bool
  | .non => some false
  | .bl b => some b
  | .int i => some (i != 0)
  | .str s => if s.length ≤ sizeLine then some (s != "") else none
  | .tup xs => some (!xs.isEmpty)
  | .ref n => match A[n]? with
    | some (.lst xs) => some (!xs.isEmpty)
    | some (.dct kvs) => some (!kvs.isEmpty)
    | _ => none
  | .frl _ => none
  | .gl _ => none

/-! ### data without objects but lists, for == -/
mutual
def toPd : D → Option PyData
  | .non => some .none
  | .bl b => some (.bool b)
  | .int i => some (.int i)
  | .str s => some (.str (Str.ofString s))
  | .tup xs => (toPds xs).map .tuple
  | .frl _ => none
  | .ref _ => none
  | .gl _ => none
def toPds : List D → Option (List PyData)
  | [] => some []
  | d :: r => match toPd d, toPds r with
    | some p, some ps => some (p :: ps)
    | _, _ => none
end
def toP (A : AH) : D → Option PyData
  | .ref a => match seqL A a with
    | some xs => (toPds xs).map .list
    | none => none
  | d => toPd d
def eqD (A : AH) (x y : D) : Option Bool := match toP A x, toP A y with
  | some p, some q => if SeqAt.shaped p && SeqAt.shaped q then some (PyData.eqv p q) else none
  | _, _ => none
/-- a value for == by its kind alone -/
def flatD : D → Bool
  | .non | .bl _ | .int _ | .str _ => true
  | _ => false
def flatEq : D → D → Bool
  | .non, .non => true
  | .bl a, .bl b => a == b
  | .bl a, .int j => (if a then 1 else 0) == j
  | .int i, .bl b => i == (if b then 1 else 0)
  | .int i, .int j => i == j
  | .str s, .str t => s == t
  | _, _ => false
def memD (A : AH) (x y : D) : Option Bool := match y with
  | .ref n => match dctL A n with
    | some kvs => if keyOk x then some (dget kvs x).isSome else none
    | none => match seqL A n with
      | some xs => if flatD x && xs.all flatD then some (xs.any fun z => flatEq z x) else none
      | none => none
  | .tup xs => if flatD x && xs.all flatD then some (xs.any fun z => flatEq z x) else none
  | _ => none

/-! ### operators -/
def opB (A : AH) (o : BOp) (x y : D) : Res D := match o, x, y with
  | .add, .int i, .int j => .ok (.int (i + j)) A
  | .sub, .int i, .int j => .ok (.int (i - j)) A
  | .mul, .int i, .int j => if i.natAbs < 18446744073709551616 || j.natAbs < 18446744073709551616 then .ok (.int (i * j)) A else .no
  | .fdiv, .int i, .int j => if 0 < j && j < 1073741824 then .ok (.int (i / j)) A else .no
  | .mod, .int i, .int j => if 0 < j then .ok (.int (i % j)) A else .no
  | .add, .str s, .str t => if s.length + t.length ≤ sizeLine then .ok (.str (s ++ t)) A else .no
  | .add, .tup xs, .tup ys => if xs.length + ys.length ≤ sizeLine then .ok (.tup (xs ++ ys)) A else .no
  | .add, .ref a, .ref b => match A[a]?, A[b]? with
    | some (.lst xs), some (.lst ys) => if xs.length + ys.length ≤ sizeLine then .ok (.ref A.length) (A ++ [.lst (xs ++ ys)]) else .no
    | _, _ => .no
  | _, _, _ => .no
def cmpI (f : Int → Int → Bool) : D → D → Option Bool
  | .int i, .int j => some (f i j)
  | _, _ => none
def isNon : D → Bool
  | .non => true
  | _ => false
/-- is None -/
def isN (d : D) : D → Option Bool
  | .non => some (isNon d)
  | _ => none
def opC (A : AH) (o : COp) (x y : D) : Option Bool := match o with
  | .eq => eqD A x y
  | .ne => (eqD A x y).map (!·)
  | .lt => cmpI (fun i j => decide (i < j)) x y
  | .le => cmpI (fun i j => decide (i ≤ j)) x y
  | .gt => cmpI (fun i j => decide (j < i)) x y
  | .ge => cmpI (fun i j => decide (j ≤ i)) x y
  | .is => match x with
    | .gl _ => none
    | _ => isN x y
  | .isnt => match x with
    | .gl _ => none
    | _ => (isN x y).map (!·)
  | .mem => memD A x y
  | .nmem => (memD A x y).map (!·)

def opI (A : AH) (o i : D) : Option D := match o with
  | .tup xs => match i with
    | .int k => L2.atI xs k
    | _ => none
  | .ref n => match dctL A n with
    | some kvs => if keyOk i then dget kvs i else none
    | none => match seqL A n, i with
      | some xs, .int k => L2.atI xs k
      | _, _ => none
  | _ => none
def cutD (xs : List D) (lo hi : Option Int) : List D := (xs.drop (HT.sIx xs.length 0 lo)).take (HT.sIx xs.length xs.length hi - HT.sIx xs.length 0 lo)
def opS (A : AH) (o : D) (lo hi : Option Int) : Res D := match o with
  | .tup xs => .ok (.tup (cutD xs lo hi)) A
  | .ref n => match seqL A n with
    | some xs => .ok (.ref A.length) (A ++ [.lst (cutD xs lo hi)])
    | none => .no
  | _ => .no
/-- o[i] = v -/
def opSet (A : AH) (o i v : D) : Option AH := match o with
  | .ref n => match A[n]? with
    | some (.lst xs) => match i with
      | .int k => (L2.ixN xs.length k).map fun j => A.set n (.lst (xs.set j v))
      | _ => none
    | some (.dct kvs) => if keyOk i && kvs.length < sizeLine then some (A.set n (.dct (dput kvs i v))) else none
    | _ => none
  | _ => none

def tyName (A : AH) : D → Option String
  | .non => some "NoneType"
  | .bl _ => some "bool"
  | .int _ => some "int"
  | .str _ => some "str"
  | .tup _ => some "tuple"
  | .ref n => match A[n]? with
    | some (.lst _) => some "list"
    | some (.dct _) => some "dict"
    | some (.lk _) => some "dict"
    | _ => none
  | _ => none
def tyNames : List String := ["bool", "int", "str", "tuple", "list", "dict"]
def isA (A : AH) (x : D) (t : String) : Option Bool := match tyName A x with
  | some n => if tyNames.contains t then some (n == t || (n == "bool" && t == "int")) else none
  | none => none
def intsOf : List D → Option (List Int)
  | [] => some []
  | .int i :: r => (intsOf r).map (i :: ·)
  | _ :: _ => none
def strsOf : List D → Option (List String)
  | [] => some []
  | .str s :: r => (strsOf r).map (s :: ·)
  | _ :: _ => none
def strLe (a b : String) : Bool := decide (a.toList.map Char.toNat ≤ b.toList.map Char.toNat)
def sortI (xs : List Int) : List Int := xs.mergeSort (fun a b => decide (a ≤ b))
def sortS (xs : List String) : List String := xs.mergeSort strLe
/-- built-in functions -/
def biLen (A : AH) : List D → Res D
  | [.tup xs] => .ok (.int xs.length) A
  | [.ref n] => match dctL A n with
    | some kvs => .ok (.int kvs.length) A
    | none => match seqL A n with
      | some xs => .ok (.int xs.length) A
      | none => .no
  | _ => .no
def biTuple (A : AH) : List D → Res D
  | [.tup xs] => .ok (.tup xs) A
  | [.ref n] => match seqL A n with
    | some xs => .ok (.tup xs) A
    | none => .no
  | _ => .no
def biList (A : AH) : List D → Res D
  | [.tup xs] => .ok (.ref A.length) (A ++ [.lst xs])
  | [.ref n] => match seqL A n with
    | some xs => .ok (.ref A.length) (A ++ [.lst xs])
    | none => .no
  | _ => .no
def biDict (A : AH) : List D → Res D
  | [.ref n] => match dctL A n with
    | some kvs => .ok (.ref A.length) (A ++ [.dct kvs])
    | none => .no
  | _ => .no
def biInt (A : AH) : List D → Res D
  | [.int i] => .ok (.int i) A
  | [.bl b] => .ok (.int (if b then 1 else 0)) A
  | _ => .no
def biAbs (A : AH) : List D → Res D
  | [.int i] => .ok (.int (if i < 0 then -i else i)) A
  | _ => .no
def biIsi (A : AH) : List D → Res D
  | [x, .gl t] => ofO ((isA A x t).map .bl) A
  | _ => .no
def biSum (A : AH) : List D → Res D
  | [.ref n] => match (seqL A n).bind intsOf with
    | some ns => .ok (.int ns.sum) A
    | none => .no
  | _ => .no
def biSorted (A : AH) : List D → Res D
  | [.ref n] => match dctL A n with
    | some kvs => match strsOf (kvs.map (·.1)) with
      | some ss => if ss.length < 64 then .ok (.ref A.length) (A ++ [.lst ((sortS ss).map .str)]) else .no
      | none => .no
    | none => match (seqL A n).bind strsOf with
      | some ss => if ss.length < 64 then .ok (.ref A.length) (A ++ [.lst ((sortS ss).map .str)]) else .no
      | none => .no
  | _ => .no
def biF (A : AH) (f : String) (vs : List D) : Res D :=
  match f with
  | "len" => biLen A vs
  | "tuple" => biTuple A vs
  | "list" => biList A vs
  | "dict" => biDict A vs
  | "int" => biInt A vs
  | "abs" => biAbs A vs
  | "isinstance" => biIsi A vs
  | "sum" => biSum A vs
  | "sorted" => biSorted A vs
  | _ => .no
/-- methods of built-in types -/
def mtAppend (A : AH) (n : Nat) : List D → Res D
  | [y] => match A[n]? with
    | some (.lst xs) => if xs.length < sizeLine then .ok .non (A.set n (.lst (xs ++ [y]))) else .no
    | _ => .no
  | _ => .no
def mtExtend (A : AH) (n : Nat) : List D → Res D
  | [.ref b] => match A[n]?, A[b]? with
    | some (.lst xs), some (.lst ys) => if xs.length + ys.length ≤ sizeLine then .ok .non (A.set n (.lst (xs ++ ys))) else .no
    | _, _ => .no
  | _ => .no
def mtPop (A : AH) (n : Nat) : List D → Res D
  | [] => match A[n]? with
    | some (.lst xs) => match xs.getLast? with
      | some y => .ok y (A.set n (.lst xs.dropLast))
      | none => .no
    | _ => .no
  | [k, d] => match A[n]? with
    | some (.dct kvs) => if keyOk k then (match dget kvs k with
      | some v => .ok v (A.set n (.dct (ddrop kvs k)))
      | none => .ok d A) else .no
    | _ => .no
  | _ => .no
def mtGet (A : AH) (n : Nat) : List D → Res D
  | [k] => match A[n]? with
    | some (.dct kvs) => if keyOk k then .ok ((dget kvs k).getD .non) A else .no
    | _ => .no
  | [k, d] => match A[n]? with
    | some (.dct kvs) => if keyOk k then .ok ((dget kvs k).getD d) A else .no
    | _ => .no
  | _ => .no
def mtUpdate (A : AH) (n : Nat) : List D → Res D
  | [.ref b] => if b = n then .no else match A[n]?, A[b]? with
    | some (.dct kvs), some (.dct more) => if kvs.length + more.length ≤ sizeLine then .ok .non (A.set n (.dct (dmerge kvs more))) else .no
    | _, _ => .no
  | _ => .no
def mtLPop (A : AH) (n : Nat) (vs : List D) : Res D := match vs with
  | [] => mtPop A n []
  | _ => .no
def mtDPop (A : AH) (n : Nat) (vs : List D) : Res D := match vs with
  | [k, d] => mtPop A n [k, d]
  | _ => .no
/-- the receiver's kind: a list, a dict -/
def mkD (A : AH) : D → Option Bool
  | .ref n => match A[n]? with
    | some (.lst _) => some false
    | some (.dct _) => some true
    | _ => none
  | _ => none
def mtG (k : Bool) (m : String) : Option (AH → Nat → List D → Res D) := match k with
  | false => match m with
    | "append" => some mtAppend
    | "extend" => some mtExtend
    | "pop" => some mtLPop
    | _ => none
  | true => match m with
    | "get" => some mtGet
    | "pop" => some mtDPop
    | "update" => some mtUpdate
    | _ => none
def mkM (A : AH) (m : String) (d : D) : Option Bool := match mkD A d with
  | some k => if (mtG k m).isSome then some k else none
  | none => none
def mtF (A : AH) (k : Bool) (m : String) (o : D) (vs : List D) : Res D := match o with
  | .ref n => match mtG k m with
    | some f => f A n vs
    | none => .no
  | _ => .no

/-! ### what is walked -/
abbrev Guard := List (Nat × AO)
def gOk (A : AH) (g : Guard) : Bool := g.all fun p => decide (A[p.1]? = some p.2)
/-- a walk: the items, what must stand as it stood, a dict that is locked -/
structure Wk where
  items : List D
  g : Guard
  lock : Option Nat := none
def lockA (A : AH) : Option Nat → AH
  | none => A
  | some n => match A[n]? with
    | some (.dct kvs) => A.set n (.lk kvs)
    | _ => A
def unlockA (A : AH) : Option Nat → AH
  | none => A
  | some n => match A[n]? with
    | some (.lk kvs) => A.set n (.dct kvs)
    | _ => A
/-- the walk of a value -/
def wkOf (A : AH) (d : D) : Option Wk := match d with
  | .tup xs => some ⟨xs, [], none⟩
  | .frl xs => some ⟨xs, [], none⟩
  | .ref n => match A[n]? with
    | some (.lst xs) => some ⟨xs, [(n, .lst xs)], none⟩
    | some (.dct kvs) => some ⟨kvs.map (·.1), [(n, .lk kvs)], some n⟩
    | _ => none
  | _ => none
def enumD : Nat → List D → List D
  | _, [] => []
  | i, d :: r => .tup [.int i, d] :: enumD (i + 1) r
def zipD : List D → List D → List D
  | a :: r, b :: s => .tup [a, b] :: zipD r s
  | _, _ => []
/-- enumerate, zip: no dicts -/
def wkEnum (A : AH) (d : D) : Option Wk := match wkOf A d with
  | some ⟨xs, g, none⟩ => some ⟨enumD 0 xs, g, none⟩
  | _ => none
def wkZip (A : AH) (d e : D) : Option Wk := match wkOf A d, wkOf A e with
  | some ⟨xs, g, none⟩, some ⟨ys, k, none⟩ => some ⟨zipD xs ys, g ++ k, none⟩
  | _, _ => none
def small (i : Int) : Bool := -4611686018427387904 ≤ i && i < 4611686018427387904
def rngD (lo hi : Int) : List D := (List.range (hi - lo).toNat).map fun (i : Nat) => .int (lo + i)
def wkRng : List D → Option Wk
  | [.int j] => if small j then some ⟨rngD 0 j, [], none⟩ else none
  | [.int i, .int j] => if small i && small j then some ⟨rngD i j, [], none⟩ else none
  | _ => none

/-! ### stores -/
def fset (F : Fr) (i : Nat) (d : D) : Fr := F.set i (some d)
mutual
def asgT : Tg → D → Fr → Option Fr
  | .nm i, d, F => some (fset F i d)
  | .tu ts, .tup xs, F => asgTs ts xs F
  | _, _, _ => none
def asgTs : Tg → List D → Fr → Option Fr
  | .nil, [], F => some F
  | .cons a r, d :: ds, F => match asgT a d F with
    | some F' => asgTs r ds F'
    | none => none
  | _, _, _ => none
end
def wipeF (F : Fr) : List Nat → Fr
  | [] => F
  | i :: r => (wipeF F r).set i none

/-! ### loops -/
def lcL (asg : D → Fr → Option Fr) (g : Guard) (body : Fr → AH → Res (Option D)) (F : Fr) : List D → List D → AH → Res (List D)
  | [], acc, A => if gOk A g then .ok acc A else .no
  | d :: r, acc, A => if gOk A g then (match asg d F with
    | some F' => bnd (body F' A) fun o A' => (match o with
      | some y => if acc.length < sizeLine then lcL asg g body F r (acc ++ [y]) A' else .no
      | none => lcL asg g body F r acc A')
    | none => .no) else .no
def dcL (asg : D → Fr → Option Fr) (g : Guard) (body : Fr → AH → Res (Option (D × D))) (F : Fr) : List D → List (D × D) → AH → Res (List (D × D))
  | [], acc, A => if gOk A g then .ok acc A else .no
  | d :: r, acc, A => if gOk A g then (match asg d F with
    | some F' => bnd (body F' A) fun o A' => (match o with
      | some (k, v) => if acc.length < sizeLine && keyOk k then dcL asg g body F r (dput acc k v) A' else .no
      | none => dcL asg g body F r acc A')
    | none => .no) else .no
def forL (asg : D → Fr → Option Fr) (g : Guard) (body : Fr → AH → SR) : List D → Fr → AH → SR
  | [], F, A => if gOk A g then .nx F A else .no
  | d :: r, F, A => if gOk A g then (match asg d F with
    | some F' => (match body F' A with
      | .nx F2 A2 => forL asg g body r F2 A2
      | .ct F2 A2 => forL asg g body r F2 A2
      | .bk F2 A2 => .nx F2 A2
      | x => x)
    | none => .no) else .no
def whlL (c : Fr → AH → Res Bool) (body : Fr → AH → SR) : Nat → Fr → AH → SR
  | 0, _, _ => .no
  | n + 1, F, A => match c F A with
    | .ok false A' => .nx F A'
    | .ok true A' => (match body F A' with
      | .nx F2 A2 => whlL c body n F2 A2
      | .ct F2 A2 => whlL c body n F2 A2
      | .bk F2 A2 => .nx F2 A2
      | x => x)
    | .exc x A' => .exc x F A'
    | .no => .no
/-- a walk's end: the dict is unlocked; an exception within is not served -/
def unlR {α : Type} (l : Option Nat) (r : Res α) : Res α := match l, r with
  | none, r => r
  | some n, .ok a A => .ok a (unlockA A (some n))
  | some _, _ => .no
def unlS (l : Option Nat) (r : SR) : SR := match l, r with
  | none, r => r
  | some n, .nx F A => .nx F (unlockA A (some n))
  | some n, .bk F A => .bk F (unlockA A (some n))
  | some n, .ct F A => .ct F (unlockA A (some n))
  | some n, .rt d A => .rt d (unlockA A (some n))
  | some _, _ => .no
/-- nothing is raised -/
def nox {α : Type} : Res α → Res α
  | .ok a A => .ok a A
  | _ => .no
def tru (r : Res D) : Res Bool := bnd r fun d A => ofO (truth A d) A
/-- pairs of a display -/
def pairUp : List D → Option (List (D × D))
  | [] => some []
  | k :: v :: r => if keyOk k then (pairUp r).map ((k, v) :: ·) else none
  | _ => none

/-! ### the evaluator -/
section
variable (cl : String → List D → AH → Res D)
mutual
def ev : Ex → Fr → AH → Res D
  | .var i, F, A => match F[i]? with
    | some (some d) => .ok d A
    | _ => .no
  | .int i, _, A => .ok (.int i) A
  | .str s, _, A => .ok (.str s) A
  | .bl b, _, A => .ok (.bl b) A
  | .non, _, A => .ok .non A
  | .gl x, _, A => .ok (.gl x) A
  | .cst _ d, _, A => .ok d A
  | .tup es, F, A => bnd (evs es F A) fun ds A' => if ds.length ≤ sizeLine then .ok (.tup ds) A' else .no
  | .lst es, F, A => bnd (evs es F A) fun ds A' => if ds.length ≤ sizeLine then .ok (.ref A'.length) (A' ++ [.lst ds]) else .no
  | .dct es, F, A => bnd (evs es F A) fun ds A' => match pairUp ds with
    | some kvs => if kvs.length ≤ 15 then .ok (.ref A'.length) (A' ++ [.dct (dmerge [] kvs)]) else .no
    | none => .no
  | .op o a b, F, A => bnd (ev a F A) fun x A1 => bnd (ev b F A1) fun y A2 => opB A2 o x y
  | .neg a, F, A => bnd (ev a F A) fun x A1 => match x with
    | .int i => .ok (.int (-i)) A1
    | _ => .no
  | .cmp o a b, F, A => bnd (ev a F A) fun x A1 => bnd (ev b F A1) fun y A2 => ofO ((opC A2 o x y).map .bl) A2
  | .chn o p a b c, F, A => bnd (ev a F A) fun x A1 => bnd (ev b F A1) fun y A2 => bnd (ofO (opC A2 o x y) A2) fun r A3 =>
    if r then bnd (ev c F A3) fun z A4 => ofO ((opC A4 p y z).map .bl) A4 else .ok (.bl false) A3
  | .and a b, F, A => bnd (ev a F A) fun x A1 => bnd (ofO (truth A1 x) A1) fun r A2 => if r then ev b F A2 else .ok x A2
  | .or a b, F, A => bnd (ev a F A) fun x A1 => bnd (ofO (truth A1 x) A1) fun r A2 => if r then .ok x A2 else ev b F A2
  | .not a, F, A => bnd (ev a F A) fun x A1 => ofO ((truth A1 x).map fun b => .bl (!b)) A1
  | .ite c a b, F, A => bnd (ev c F A) fun x A1 => bnd (ofO (truth A1 x) A1) fun r A2 => if r then ev a F A2 else ev b F A2
  | .ix a i, F, A => bnd (ev a F A) fun x A1 => bnd (ev i F A1) fun y A2 => ofO (opI A2 x y) A2
  | .sl a lo hi, F, A => bnd (ev a F A) fun x A1 => bnd (evo lo F A1) fun l A2 => bnd (evo hi F A2) fun h A3 => opS A3 x l h
  | .call f es, F, A => bnd (evs es F A) fun ds A1 => cl f ds A1
  | .bi f es, F, A => bnd (evs es F A) fun ds A1 => biF A1 f ds
  | .mth m o es, F, A => bnd (ev o F A) fun x A1 => bnd (ofO (mkM A1 m x) A1) fun k A2 => bnd (evs es F A2) fun ds A3 => mtF A3 k m x ds
  | .lc t it c e own, F, A => bnd (evw it F A) fun w A1 => unlR w.lock (bnd
      (lcL (asgT t) w.g (fun F' A' => nox (bnd (evc c F' A') fun b A2 => if b then bnd (ev e F' A2) fun y A3 => .ok (some y) A3 else .ok none A2)) (wipeF F own) w.items [] (lockA A1 w.lock))
      fun ds A2 => .ok (.ref A2.length) (A2 ++ [.lst ds]))
  | .dc t it c k v own, F, A => bnd (evw it F A) fun w A1 => unlR w.lock (bnd
      (dcL (asgT t) w.g (fun F' A' => nox (bnd (evc c F' A') fun b A2 => if b then bnd (ev k F' A2) fun x A3 => bnd (ev v F' A3) fun y A4 => .ok (some (x, y)) A4 else .ok none A2)) (wipeF F own) w.items [] (lockA A1 w.lock))
      fun ds A2 => .ok (.ref A2.length) (A2 ++ [.dct ds]))
  | .nil, _, _ => .no
  | .cons _ _, _, _ => .no
  | .wk _, _, _ => .no
  | .enm _, _, _ => .no
  | .zip _ _, _, _ => .no
  | .rng _, _, _ => .no
def evs : Ex → Fr → AH → Res (List D)
  | .nil, _, A => .ok [] A
  | .cons a r, F, A => bnd (ev a F A) fun x A1 => bnd (evs r F A1) fun xs A2 => .ok (x :: xs) A2
  | _, _, _ => .no
/-- a slice's part -/
def evo : Ex → Fr → AH → Res (Option Int)
  | .nil, _, A => .ok none A
  | .cons e _, F, A => bnd (ev e F A) fun x A1 => match x with
    | .int i => .ok (some i) A1
    | _ => .no
  | _, _, _ => .no
/-- a comprehension's test -/
def evc : Ex → Fr → AH → Res Bool
  | .nil, _, A => .ok true A
  | .cons e _, F, A => tru (ev e F A)
  | _, _, _ => .no
/-- what is walked -/
def evw : Ex → Fr → AH → Res Wk
  | .enm e, F, A => bnd (ev e F A) fun x A1 => ofO (wkEnum A1 x) A1
  | .zip a b, F, A => bnd (ev a F A) fun x A1 => bnd (ev b F A1) fun y A2 => ofO (wkZip A2 x y) A2
  | .rng es, F, A => bnd (evs es F A) fun ds A1 => ofO (wkRng ds) A1
  | .wk e, F, A => bnd (ev e F A) fun x A1 => ofO (wkOf A1 x) A1
  | _, _, _ => .no
end
/-- statements; N: the turns that a while may take -/
def sx (N : Nat) : Sm → Fr → AH → SR
  | .skip, F, A => .nx F A
  | .seq a b, F, A => match sx N a F A with
    | .nx F' A' => sx N b F' A'
    | x => x
  | .ex e, F, A => bns F (ev cl e F A) fun _ A' => .nx F A'
  | .set i e, F, A => bns F (ev cl e F A) fun d A' => .nx (fset F i d) A'
  | .asg t e, F, A => bns F (ev cl e F A) fun d A' => match asgT t d F with
    | some F' => .nx F' A'
    | none => .no
  | .sub o i e, F, A => bns F (ev cl e F A) fun v A1 => bns F (ev cl o F A1) fun x A2 => bns F (ev cl i F A2) fun y A3 => match opSet A3 x y v with
    | some A4 => .nx F A4
    | none => .no
  | .ret e, F, A => bns F (ev cl e F A) fun d A' => .rt d A'
  | .ite c a b, F, A => bns F (tru (ev cl c F A)) fun r A' => if r then sx N a F A' else sx N b F A'
  | .for t it b, F, A => bns F (evw cl it F A) fun w A1 => unlS w.lock (forL (asgT t) w.g (fun F' A' => sx N b F' A') w.items F (lockA A1 w.lock))
  | .whl c b, F, A => whlL (fun F' A' => tru (ev cl c F' A')) (fun F' A' => sx N b F' A') N F A
  | .brk, F, A => .bk F A
  | .cont, F, A => .ct F A
end

/-! ### programs -/
structure Fd where
  np : Nat
  ns : Nat
  body : Sm
abbrev Pg := String → Option Fd
def startF (fd : Fd) (ds : List D) : Fr := ds.map some ++ List.replicate (fd.ns - fd.np) none
/-- a call, by at most n calls one in another -/
def callF (P : Pg) (N : Nat) : Nat → String → List D → AH → Res D
  | 0, _, _, _ => .no
  | n + 1, f, ds, A => match P f with
    | none => .no
    | some fd => if ds.length = fd.np then (match sx (callF P N n) N fd.body (startF fd ds) A with
      | .nx _ A' => .ok .non A'
      | .rt d A' => .ok d A'
      | .exc x _ A' => .exc x A'
      | _ => .no) else .no
end Ev

/-! ## EvRep -/
/-! EvRep: how the evaluator's values and heaps stand in the abstract heap of the hand layer. -/
namespace Ev
open PySem PySem.Spec PyProof.Rows L2

/-- what the module's names stand for: the written part, the globals -/
structure Md where
  K : PySem.W.Frag
  mg : Str → Option Value
abbrev Ph := List Addr

def FzL (K : PySem.W.Frag) (H : Hp) (a : Addr) (xs : List V) : Prop :=
  (∃ o, H a = some (.frz o (.lst xs))) ∨
    ∃ (o : Obj) (its : Array Value) (n : Nat), K.lookup a = some o ∧ o.cls = .type "list" ∧ o.dict = none ∧ o.data = .seq its n ∧ its.size ≤ sizeLine ∧ Vals xs its.toList
theorem FzL.sq {K : PySem.W.Frag} {H : Hp} {a : Addr} {xs : List V} (h : FzL K H a xs) : SqL K H a xs := by
  rcases h with h | h
  · exact .inl (.inr h)
  · exact .inr h
def GV (mg : Str → Option Value) (x : Str) (v : V) : Prop := ∃ u, RelV v u ∧ (mg x = some u ∨ (mg x = none ∧ bootBuiltins x = some u))

mutual
def Rep (G : Md) (φ : Ph) (H : Hp) : D → V → Prop
  | .non, v => v = .non
  | .bl b, v => v = .bl b
  | .int i, v => v = .int i
  | .str s, v => v = .str (Str.ofString s)
  | .tup ds, v => ∃ a vs, v = .ref a ∧ SqT G.K H a vs ∧ Reps G φ H ds vs
  | .frl ds, v => ∃ a vs, v = .ref a ∧ FzL G.K H a vs ∧ Reps G φ H ds vs
  | .ref n, v => ∃ a, φ[n]? = some a ∧ v = .ref a
  | .gl x, v => GV G.mg (Str.ofString x) v
def Reps (G : Md) (φ : Ph) (H : Hp) : List D → List V → Prop
  | [], vs => vs = []
  | d :: ds, vs => ∃ v r, vs = v :: r ∧ Rep G φ H d v ∧ Reps G φ H ds r
end
def KR : D → Key → Prop
  | .int i, .inl j => j = i
  | .str s, .inr x => x = Str.ofString s
  | _, _ => False
def KReps (G : Md) (φ : Ph) (H : Hp) : List (D × D) → List (Key × V) → Prop
  | [], ks => ks = []
  | (k, d) :: r, ks => ∃ j v s, ks = (j, v) :: s ∧ KR k j ∧ Rep G φ H d v ∧ KReps G φ H r s
def ORep (G : Md) (φ : Ph) (H : Hp) : AO → HO → Prop
  | .lst ds, ho => ∃ vs, ho = .lst vs ∧ Reps G φ H ds vs
  | .dct kvs, ho => ∃ ks, ho = .dK ks ∧ KReps G φ H kvs ks
  | .lk kvs, ho => ∃ o ks, ho = .frz o (.dK ks) ∧ KReps G φ H kvs ks
  | .ins _ _, _ => False
structure HR (G : Md) (φ : Ph) (H : Hp) (A : AH) : Prop where
  len : φ.length = A.length
  inj : ∀ (i j : Nat) (a : Addr), φ[i]? = some a → φ[j]? = some a → i = j
  at_ : ∀ (n : Nat) (a : Addr) (o : AO), φ[n]? = some a → A[n]? = some o → ∃ ho, H a = some ho ∧ ORep G φ H o ho
structure Ext (φ : Ph) (H : Hp) (φ' : Ph) (H' : Hp) : Prop where
  pre : ∃ m, φ' = φ ++ m
  keep : ∀ a o, H a = some o → a ∉ φ → H' a = some o
  new : ∀ a, a ∈ φ' → a ∉ φ → H a = none
  frz : ∀ a o u, H a = some (.frz o u) → H' a = some (.frz o u)
/-- not locked -/
def NF (H : Hp) (a : Addr) : Prop := ∀ o u, H a ≠ some (.frz o u)
theorem NF.lst {H : Hp} {a : Addr} {vs : List V} (e : H a = some (.lst vs)) : NF H a := fun o u z => by rw [e] at z; cases z
theorem NF.dK {H : Hp} {a : Addr} {ks : List (Key × V)} (e : H a = some (.dK ks)) : NF H a := fun o u z => by rw [e] at z; cases z

theorem Ext.refl {φ : Ph} {H : Hp} : Ext φ H φ H := ⟨⟨[], by simp⟩, fun _ _ e _ => e, fun a h n => absurd h n, fun _ _ _ e => e⟩
theorem Ext.trans {φ φ1 φ2 : Ph} {H H1 H2 : Hp} (a : Ext φ H φ1 H1) (b : Ext φ1 H1 φ2 H2) : Ext φ H φ2 H2 := by
  obtain ⟨m1, e1⟩ := a.pre
  obtain ⟨m2, e2⟩ := b.pre
  refine ⟨⟨m1 ++ m2, by rw [e2, e1, List.append_assoc]⟩, fun c o e n => ?_, fun c h n => ?_, fun c o u e => b.frz c o u (a.frz c o u e)⟩
  · refine b.keep c o (a.keep c o e n) fun h => ?_
    rw [a.new c h n] at e; cases e
  · by_cases h1 : c ∈ φ1
    · exact a.new c h1 n
    · have := b.new c h h1
      cases e : H c with
      | none => rfl
      | some o => rw [a.keep c o e n] at this; cases this
theorem Ext.get {φ φ' : Ph} {H H' : Hp} (x : Ext φ H φ' H') {n : Nat} {a : Addr} (h : φ[n]? = some a) : φ'[n]? = some a := by
  obtain ⟨m, e⟩ := x.pre
  rw [e, List.getElem?_append_left (List.getElem?_eq_some_iff.mp h).1]; exact h
theorem Ext.mem {φ φ' : Ph} {H H' : Hp} (x : Ext φ H φ' H') {a : Addr} (h : a ∈ φ) : a ∈ φ' := by
  obtain ⟨m, e⟩ := x.pre
  rw [e]; exact List.mem_append_left _ h

/-- an object that the evaluator's heap may hold -/
def Held : HO → Prop
  | .lst _ => True
  | .dK _ => True
  | .frz _ (.dK _) => True
  | .ins _ _ _ => True
  | _ => False
section
variable {G : Md} {φ φ' : Ph} {H H' : Hp} {A : AH}
theorem ORep.held {o : AO} {ho : HO} (h : ORep G φ H o ho) : Held ho := by
  cases o with
  | lst ds => obtain ⟨vs, rfl, _⟩ := h; trivial
  | dct kvs => obtain ⟨ks, rfl, _⟩ := h; trivial
  | lk kvs => obtain ⟨o, ks, rfl, _⟩ := h; trivial
  | ins c fs => exact h.elim
theorem HR.mem (h : HR G φ H A) {a : Addr} (ha : a ∈ φ) : ∃ (n : Nat) (o : AO) (ho : HO), φ[n]? = some a ∧ A[n]? = some o ∧ H a = some ho ∧ ORep G φ H o ho := by
  obtain ⟨n, hn, e⟩ := List.mem_iff_getElem.mp ha
  have h1 : φ[n]? = some a := by rw [List.getElem?_eq_getElem hn, e]
  have h2 : n < A.length := by rw [← h.len]; exact hn
  obtain ⟨ho, e1, e2⟩ := h.at_ n a _ h1 (List.getElem?_eq_getElem h2)
  exact ⟨n, _, ho, h1, List.getElem?_eq_getElem h2, e1, e2⟩
theorem HR.notMem (h : HR G φ H A) {a : Addr} {ho : HO} (e : H a = some ho) (n : ¬ Held ho) : a ∉ φ := fun ha => by
  obtain ⟨_, _, ho', _, _, e1, e2⟩ := h.mem ha
  rw [e] at e1; cases e1
  exact n e2.held
theorem HR.notMemN (h : HR G φ H A) {a : Addr} (e : H a = none) : a ∉ φ := fun ha => by
  obtain ⟨_, _, ho', _, _, e1, e2⟩ := h.mem ha
  rw [e] at e1; cases e1
/-- tuples and what is known -/
def Still : HO → Prop
  | .tup _ => True
  | .frz _ (.tup _) => True
  | .frz _ (.lst _) => True
  | _ => False
theorem Still.notHeld {o : HO} (s : Still o) : ¬ Held o := fun h => by
  cases o with
  | frz o u => cases u <;> first | exact s | exact h
  | _ => first | exact s | exact h
structure Mono (φ : Ph) (H : Hp) (φ' : Ph) (H' : Hp) : Prop where
  pre : ∃ m, φ' = φ ++ m
  still : ∀ a o, H a = some o → Still o → H' a = some o
theorem Mono.get (x : Mono φ H φ' H') {n : Nat} {a : Addr} (h : φ[n]? = some a) : φ'[n]? = some a := by
  obtain ⟨m, e⟩ := x.pre
  rw [e, List.getElem?_append_left (List.getElem?_eq_some_iff.mp h).1]; exact h
theorem Ext.mono (h : HR G φ H A) (x : Ext φ H φ' H') : Mono φ H φ' H' := ⟨x.pre, fun a o e s => x.keep a o e (h.notMem e s.notHeld)⟩
theorem SqT.mono {a : Addr} {xs : List V} (x : Mono φ H φ' H') (q : SqT G.K H a xs) : SqT G.K H' a xs := by
  rcases q with (q | ⟨o, q⟩) | q
  · exact .inl (.inl (x.still _ _ q trivial))
  · exact .inl (.inr ⟨o, x.still _ _ q trivial⟩)
  · exact .inr q
theorem FzL.mono {a : Addr} {xs : List V} (x : Mono φ H φ' H') (q : FzL G.K H a xs) : FzL G.K H' a xs := by
  rcases q with ⟨o, q⟩ | q
  · exact .inl ⟨o, x.still _ _ q trivial⟩
  · exact .inr q
mutual
theorem Rep.mono (x : Mono φ H φ' H') : ∀ (d : D) (v : V), Rep G φ H d v → Rep G φ' H' d v
  | .non, _, r => r
  | .bl _, _, r => r
  | .int _, _, r => r
  | .str _, _, r => r
  | .tup ds, v, r => by
    obtain ⟨a, vs, e, q, rs⟩ := r
    exact ⟨a, vs, e, SqT.mono x q, Reps.mono x ds vs rs⟩
  | .frl ds, v, r => by
    obtain ⟨a, vs, e, q, rs⟩ := r
    exact ⟨a, vs, e, FzL.mono x q, Reps.mono x ds vs rs⟩
  | .ref n, v, r => by
    obtain ⟨a, e1, e2⟩ := r
    exact ⟨a, x.get e1, e2⟩
  | .gl _, _, r => r
theorem Reps.mono (x : Mono φ H φ' H') : ∀ (ds : List D) (vs : List V), Reps G φ H ds vs → Reps G φ' H' ds vs
  | [], _, r => r
  | d :: ds, vs, r => by
    obtain ⟨v, s, e, r1, r2⟩ := r
    exact ⟨v, s, e, Rep.mono x d v r1, Reps.mono x ds s r2⟩
end
theorem KReps.mono (x : Mono φ H φ' H') : ∀ (kvs : List (D × D)) (ks : List (Key × V)), KReps G φ H kvs ks → KReps G φ' H' kvs ks
  | [], _, r => r
  | (k, d) :: kvs, ks, r => by
    obtain ⟨j, v, s, e, r0, r1, r2⟩ := r
    exact ⟨j, v, s, e, r0, Rep.mono x d v r1, KReps.mono x kvs s r2⟩
theorem ORep.mono (x : Mono φ H φ' H') {o : AO} {ho : HO} (r : ORep G φ H o ho) : ORep G φ' H' o ho := by
  cases o with
  | lst ds => obtain ⟨vs, e, r⟩ := r; exact ⟨vs, e, Reps.mono x _ _ r⟩
  | dct kvs => obtain ⟨ks, e, r⟩ := r; exact ⟨ks, e, KReps.mono x _ _ r⟩
  | lk kvs => obtain ⟨o, ks, e, r⟩ := r; exact ⟨o, ks, e, KReps.mono x _ _ r⟩
  | ins c fs => exact r.elim
theorem SqT.ext {a : Addr} {xs : List V} (h : HR G φ H A) (x : Ext φ H φ' H') (q : SqT G.K H a xs) : SqT G.K H' a xs := SqT.mono (x.mono h) q
theorem FzL.ext {a : Addr} {xs : List V} (h : HR G φ H A) (x : Ext φ H φ' H') (q : FzL G.K H a xs) : FzL G.K H' a xs := FzL.mono (x.mono h) q
theorem Rep.ext {d : D} {v : V} (h : HR G φ H A) (x : Ext φ H φ' H') (r : Rep G φ H d v) : Rep G φ' H' d v := Rep.mono (x.mono h) d v r
theorem Reps.ext {ds : List D} {vs : List V} (h : HR G φ H A) (x : Ext φ H φ' H') (r : Reps G φ H ds vs) : Reps G φ' H' ds vs := Reps.mono (x.mono h) ds vs r
theorem KReps.ext {kvs : List (D × D)} {ks : List (Key × V)} (h : HR G φ H A) (x : Ext φ H φ' H') (r : KReps G φ H kvs ks) : KReps G φ' H' kvs ks := KReps.mono (x.mono h) kvs ks r
theorem ORep.ext {o : AO} {ho : HO} (h : HR G φ H A) (x : Ext φ H φ' H') (r : ORep G φ H o ho) : ORep G φ' H' o ho := ORep.mono (x.mono h) r
/-- a new thing beside -/
theorem Ext.beside {p : Addr} {o : HO} (hp : H p = none) : Ext φ H φ (upd H p o) :=
  ⟨⟨[], by simp⟩, fun a o' e _ => by rw [upd_ne (ne_of_none e hp)]; exact e, fun a h n => absurd h n, fun a o' u e => by rw [upd_ne (ne_of_none e hp)]; exact e⟩
theorem HR.beside (h : HR G φ H A) {p : Addr} {o : HO} (hp : H p = none) : HR G φ (upd H p o) A := by
  have x : Ext φ H φ (upd H p o) := Ext.beside hp
  refine ⟨h.len, h.inj, fun n a ob e1 e2 => ?_⟩
  obtain ⟨ho, e3, r⟩ := h.at_ n a ob e1 e2
  exact ⟨ho, by rw [upd_ne (ne_of_none e3 hp)]; exact e3, r.ext h x⟩
/-- a new object -/
theorem Ext.push {p : Addr} {o : HO} (hp : H p = none) : Ext φ H (φ ++ [p]) (upd H p o) := by
  refine ⟨⟨[p], rfl⟩, fun a o' e _ => by rw [upd_ne (ne_of_none e hp)]; exact e, fun a h n => ?_, fun a o' u e => by rw [upd_ne (ne_of_none e hp)]; exact e⟩
  rcases List.mem_append.mp h with h | h
  · exact absurd h n
  · rw [List.mem_singleton.mp h]; exact hp
theorem HR.push (h : HR G φ H A) {p : Addr} {o : AO} {ho : HO} (hp : H p = none) (r : ORep G φ H o ho) : HR G (φ ++ [p]) (upd H p ho) (A ++ [o]) := by
  have x : Ext φ H (φ ++ [p]) (upd H p ho) := Ext.push hp
  have np : p ∉ φ := h.notMemN hp
  have cases_ : ∀ (n : Nat) (a : Addr), (φ ++ [p])[n]? = some a → φ[n]? = some a ∨ (n = φ.length ∧ a = p) := fun n a e => by
    by_cases hn : n < φ.length
    · rw [List.getElem?_append_left hn] at e; exact .inl e
    · rw [List.getElem?_append_right (Nat.le_of_not_lt hn)] at e
      obtain ⟨h1, h2⟩ := List.getElem?_eq_some_iff.mp e
      have : n - φ.length = 0 := by simpa using h1
      refine .inr ⟨by omega, ?_⟩
      have h3 : [p][n - φ.length] = p := by simp
      rw [← h2, h3]
  refine ⟨by simp [h.len], fun i j a e1 e2 => ?_, fun n a ob e1 e2 => ?_⟩
  · rcases cases_ i a e1 with e1 | ⟨h1, e1⟩ <;> rcases cases_ j a e2 with e2 | ⟨h2, e2⟩
    · exact h.inj i j a e1 e2
    · exact absurd (e2 ▸ List.mem_of_getElem? e1 : p ∈ φ) np
    · exact absurd (e1 ▸ List.mem_of_getElem? e2 : p ∈ φ) np
    · omega
  · rcases cases_ n a e1 with e1 | ⟨h1, e1⟩
    · have hn : n < A.length := by rw [← h.len]; exact (List.getElem?_eq_some_iff.mp e1).1
      rw [List.getElem?_append_left hn] at e2
      obtain ⟨ho', e3, r'⟩ := h.at_ n a ob e1 e2
      exact ⟨ho', by rw [upd_ne (ne_of_none e3 hp)]; exact e3, r'.ext h x⟩
    · subst e1
      rw [h1, h.len] at e2
      simp at e2
      subst e2
      exact ⟨ho, upd_same, r.ext h x⟩
/-- an object that was laid ahead of what goes in -/
theorem Ext.lay {φ2 : Ph} {H2 : Hp} {p : Addr} {o ho : HO} (x : Ext φ (upd H p o) φ2 H2) (hp : H p = none) : Ext φ H (φ2 ++ [p]) (upd H2 p ho) := by
  obtain ⟨m, e⟩ := x.pre
  refine ⟨⟨m ++ [p], by rw [e, List.append_assoc]⟩, fun a o' ea n => ?_, fun a h n => ?_, fun a o' u ea => ?_⟩
  · have hne : a ≠ p := ne_of_none ea hp
    rw [upd_ne hne]
    exact x.keep a o' (by rw [upd_ne hne]; exact ea) n
  · rcases List.mem_append.mp h with h | h
    · have := x.new a h n
      unfold upd at this
      split at this
      · cases this
      · exact this
    · rw [List.mem_singleton.mp h]; exact hp
  · have hne : a ≠ p := ne_of_none ea hp
    rw [upd_ne hne]
    exact x.frz a o' u (by rw [upd_ne hne]; exact ea)
/-- it stands, and is none of the evaluator's -/
theorem Ext.laid {φ2 : Ph} {H2 : Hp} {p : Addr} {o : HO} (x : Ext φ (upd H p o) φ2 H2) (np : p ∉ φ) : H2 p = some o ∧ p ∉ φ2 := by
  refine ⟨x.keep p o upd_same np, fun h => ?_⟩
  have := x.new p h np
  rw [upd_same] at this; cases this
theorem Mono.lay {p : Addr} {o ho : HO} (hp : H p = some o) (ns : ¬ Still o) : Mono φ H (φ ++ [p]) (upd H p ho) :=
  ⟨⟨[p], rfl⟩, fun a o' e s => by
    rw [upd_ne (show a ≠ p from fun q => by rw [q, hp] at e; cases e; exact ns s)]; exact e⟩
/-- a tracked thing of our own is changed -/
theorem Mono.own {p : Addr} {o ho : HO} (hp : H p = some o) (ns : ¬ Still o) : Mono φ H φ (upd H p ho) :=
  ⟨⟨[], by simp⟩, fun a o' e s => by
    rw [upd_ne (show a ≠ p from fun q => by rw [q, hp] at e; cases e; exact ns s)]; exact e⟩
theorem HR.lay (h : HR G φ H A) {p : Addr} {o : AO} {ho hq : HO} (hp : H p = some hq) (ns : ¬ Still hq) (np : p ∉ φ) (r : ORep G φ H o ho) : HR G (φ ++ [p]) (upd H p ho) (A ++ [o]) := by
  have x : Mono φ H (φ ++ [p]) (upd H p ho) := Mono.lay hp ns
  have cases_ : ∀ (n : Nat) (a : Addr), (φ ++ [p])[n]? = some a → φ[n]? = some a ∨ (n = φ.length ∧ a = p) := fun n a e => by
    by_cases hn : n < φ.length
    · rw [List.getElem?_append_left hn] at e; exact .inl e
    · rw [List.getElem?_append_right (Nat.le_of_not_lt hn)] at e
      obtain ⟨h1, h2⟩ := List.getElem?_eq_some_iff.mp e
      have : n - φ.length = 0 := by simpa using h1
      refine .inr ⟨by omega, ?_⟩
      have h3 : [p][n - φ.length] = p := by simp
      rw [← h2, h3]
  refine ⟨by simp [h.len], fun i j a e1 e2 => ?_, fun n a ob e1 e2 => ?_⟩
  · rcases cases_ i a e1 with e1 | ⟨h1, e1⟩ <;> rcases cases_ j a e2 with e2 | ⟨h2, e2⟩
    · exact h.inj i j a e1 e2
    · exact absurd (e2 ▸ List.mem_of_getElem? e1 : p ∈ φ) np
    · exact absurd (e1 ▸ List.mem_of_getElem? e2 : p ∈ φ) np
    · omega
  · rcases cases_ n a e1 with e1 | ⟨h1, e1⟩
    · have hn : n < A.length := by rw [← h.len]; exact (List.getElem?_eq_some_iff.mp e1).1
      rw [List.getElem?_append_left hn] at e2
      obtain ⟨ho', e3, r'⟩ := h.at_ n a ob e1 e2
      exact ⟨ho', by rw [upd_ne (show a ≠ p from fun q => np (q ▸ List.mem_of_getElem? e1))]; exact e3, r'.mono x⟩
    · subst e1
      rw [h1, h.len] at e2
      simp at e2
      subst e2
      exact ⟨ho, upd_same, r.mono x⟩
/-- a tracked thing of our own is changed: the evaluator's heap stands -/
theorem HR.own (h : HR G φ H A) {p : Addr} {ho hq : HO} (hp : H p = some hq) (ns : ¬ Still hq) (np : p ∉ φ) : HR G φ (upd H p ho) A := by
  refine ⟨h.len, h.inj, fun n a ob e1 e2 => ?_⟩
  obtain ⟨ho', e3, r'⟩ := h.at_ n a ob e1 e2
  exact ⟨ho', by rw [upd_ne (show a ≠ p from fun q => np (q ▸ List.mem_of_getElem? e1))]; exact e3, r'.mono (Mono.own hp ns)⟩
/-- an object is changed -/
theorem Ext.set {a : Addr} {o : HO} (ha : a ∈ φ) (nf : NF H a) : Ext φ H φ (upd H a o) :=
  ⟨⟨[], by simp⟩, fun b o' e n => by rw [upd_ne (show b ≠ a from fun q => n (by rw [q]; exact ha))]; exact e, fun a h n => absurd h n, fun b o' u e => by rw [upd_ne (show b ≠ a from fun q => nf o' u (by rw [← q]; exact e))]; exact e⟩
theorem HR.set (h : HR G φ H A) {n : Nat} {a : Addr} {o : AO} {ho : HO} (hn : φ[n]? = some a) (nf : NF H a) (r : ORep G φ H o ho) : HR G φ (upd H a ho) (A.set n o) := by
  have x : Ext φ H φ (upd H a ho) := Ext.set (List.mem_of_getElem? hn) nf
  refine ⟨by simp [h.len], h.inj, fun m b ob e1 e2 => ?_⟩
  by_cases hm : m = n
  · subst hm
    rw [hn] at e1; cases e1
    have hl : m < A.length := by rw [← h.len]; exact (List.getElem?_eq_some_iff.mp hn).1
    rw [List.getElem?_set_self hl] at e2
    cases e2
    exact ⟨ho, upd_same, r.ext h x⟩
  · rw [List.getElem?_set_ne (Ne.symm hm)] at e2
    obtain ⟨ho', e3, r'⟩ := h.at_ m b ob e1 e2
    refine ⟨ho', ?_, r'.ext h x⟩
    rw [upd_ne (show b ≠ a from fun q => hm (h.inj m n a (by rw [← q]; exact e1) hn))]; exact e3
theorem HR.ref (h : HR G φ H A) {n : Nat} {v : V} {o : AO} (r : Rep G φ H (.ref n) v) (e : A[n]? = some o) : ∃ a ho, v = .ref a ∧ φ[n]? = some a ∧ H a = some ho ∧ ORep G φ H o ho := by
  obtain ⟨a, e1, e2⟩ := r
  obtain ⟨ho, e3, r'⟩ := h.at_ n a o e1 e
  exact ⟨a, ho, e2, e1, e3, r'⟩

/-! ### lists of values -/
theorem Reps.length : ∀ {ds : List D} {vs : List V}, Reps G φ H ds vs → vs.length = ds.length
  | [], _, r => by rw [show _ = [] from r]; rfl
  | d :: ds, vs, r => by
    obtain ⟨v, s, rfl, _, r2⟩ := r
    simp [Reps.length r2]
theorem Reps.nil : Reps G φ H [] [] := rfl
theorem Reps.cons {d : D} {ds : List D} {v : V} {vs : List V} (r : Rep G φ H d v) (rs : Reps G φ H ds vs) : Reps G φ H (d :: ds) (v :: vs) := ⟨v, vs, rfl, r, rs⟩
theorem Reps.append : ∀ {ds es : List D} {vs ws : List V}, Reps G φ H ds vs → Reps G φ H es ws → Reps G φ H (ds ++ es) (vs ++ ws)
  | [], _, _, _, r, s => by rw [show _ = [] from r]; exact s
  | d :: ds, es, vs, ws, r, s => by
    obtain ⟨v, t, rfl, r1, r2⟩ := r
    exact ⟨v, t ++ ws, rfl, r1, Reps.append r2 s⟩
theorem Reps.get : ∀ {ds : List D} {vs : List V} {i : Nat} {d : D}, Reps G φ H ds vs → ds[i]? = some d → ∃ v, vs[i]? = some v ∧ Rep G φ H d v
  | [], _, _, _, _, e => by simp at e
  | d :: ds, vs, 0, d', r, e => by
    obtain ⟨v, t, rfl, r1, r2⟩ := r
    simp at e; subst e
    exact ⟨v, rfl, r1⟩
  | d :: ds, vs, i + 1, d', r, e => by
    obtain ⟨v, t, rfl, r1, r2⟩ := r
    obtain ⟨w, e1, r3⟩ := Reps.get (i := i) r2 (by simpa using e)
    exact ⟨w, by simpa using e1, r3⟩
theorem Reps.drop : ∀ {ds : List D} {vs : List V} (n : Nat), Reps G φ H ds vs → Reps G φ H (ds.drop n) (vs.drop n)
  | _, _, 0, r => r
  | [], _, n + 1, r => by rw [show _ = [] from r]; exact rfl
  | d :: ds, vs, n + 1, r => by
    obtain ⟨v, t, rfl, r1, r2⟩ := r
    exact Reps.drop n r2
theorem Reps.take : ∀ {ds : List D} {vs : List V} (n : Nat), Reps G φ H ds vs → Reps G φ H (ds.take n) (vs.take n)
  | _, _, 0, _ => rfl
  | [], _, n + 1, r => by rw [show _ = [] from r]; exact rfl
  | d :: ds, vs, n + 1, r => by
    obtain ⟨v, t, rfl, r1, r2⟩ := r
    exact ⟨v, t.take n, rfl, r1, Reps.take n r2⟩
theorem Reps.set : ∀ {ds : List D} {vs : List V} {d : D} {v : V} (i : Nat), Reps G φ H ds vs → Rep G φ H d v → Reps G φ H (ds.set i d) (vs.set i v)
  | [], _, _, _, _, r, _ => by rw [show _ = [] from r]; exact rfl
  | d :: ds, vs, d', v', 0, r, s => by
    obtain ⟨v, t, rfl, r1, r2⟩ := r
    exact ⟨v', t, rfl, s, r2⟩
  | d :: ds, vs, d', v', i + 1, r, s => by
    obtain ⟨v, t, rfl, r1, r2⟩ := r
    exact ⟨v, t.set i v', rfl, r1, Reps.set i r2 s⟩
theorem Reps.dropLast : ∀ {ds : List D} {vs : List V}, Reps G φ H ds vs → Reps G φ H ds.dropLast vs.dropLast := fun {ds vs} r => by
  rw [List.dropLast_eq_take, List.dropLast_eq_take, r.length]; exact r.take _

/-! ### the frame -/
def FR (G : Md) (φ : Ph) (H : Hp) (F : Fr) (σ : L2.St) : Prop := F.length = σ.length ∧ ∀ (i : Nat) (d : D), F[i]? = some (some d) → ∃ v, σ[i]? = some (some v) ∧ Rep G φ H d v
theorem FR.mono {F : Fr} {σ : L2.St} (x : Mono φ H φ' H') (r : FR G φ H F σ) : FR G φ' H' F σ :=
  ⟨r.1, fun i d e => let ⟨v, e1, r1⟩ := r.2 i d e; ⟨v, e1, Rep.mono x _ _ r1⟩⟩
theorem FR.ext {F : Fr} {σ : L2.St} (h : HR G φ H A) (x : Ext φ H φ' H') (r : FR G φ H F σ) : FR G φ' H' F σ := r.mono (x.mono h)
theorem FR.set {F : Fr} {σ : L2.St} {d : D} {v : V} (r : FR G φ H F σ) (i : Nat) (s : Rep G φ H d v) : FR G φ H (fset F i d) (σ.set i (some v)) := by
  refine ⟨by simp [fset, r.1], fun j e h => ?_⟩
  unfold fset at h
  by_cases hj : i = j
  · subst hj
    by_cases hl : i < F.length
    · rw [List.getElem?_set_self hl] at h
      cases h
      rw [r.1] at hl
      exact ⟨v, by rw [List.getElem?_set_self hl], s⟩
    · rw [List.getElem?_eq_none (by simpa using hl)] at h; cases h
  · rw [List.getElem?_set_ne hj] at h
    obtain ⟨w, e1, r1⟩ := r.2 j e h
    exact ⟨w, by rw [List.getElem?_set_ne hj]; exact e1, r1⟩
theorem FR.wipe {F : Fr} {σ : L2.St} (r : FR G φ H F σ) : ∀ l : List Nat, FR G φ H (wipeF F l) (L2.wipe σ l)
  | [] => r
  | i :: l => by
    have ih := FR.wipe r l
    refine ⟨by simp [wipeF, L2.wipe, ih.1], fun j e h => ?_⟩
    unfold wipeF at h
    unfold L2.wipe
    by_cases hj : i = j
    · subst hj
      by_cases hl : i < (wipeF F l).length
      · rw [List.getElem?_set_self hl] at h; cases h
      · rw [List.getElem?_eq_none (by simpa using hl)] at h; cases h
    · rw [List.getElem?_set_ne hj] at h
      obtain ⟨w, e1, r1⟩ := ih.2 j e h
      exact ⟨w, by rw [List.getElem?_set_ne hj]; exact e1, r1⟩
end
end Ev

/-! ## EvVal -/
/-! EvVal: the evaluator's operators keep to the model's, by values. -/
namespace Ev
open PySem PySem.Spec PyProof.Rows L2
abbrev Gd (X : Cx) : Md := ⟨X.K, X.mg⟩

/-! ### texts -/
theorem ofString_cps (s : String) : (Str.ofString s).cps.toList = s.toList.map Char.toNat := by
  rw [Str.ofString_eq_toList]
theorem char_inj {a b : Char} (h : a.toNat = b.toNat) : a = b := Char.toNat_inj.mp h
theorem map_inj_char : ∀ {a b : List Char}, a.map Char.toNat = b.map Char.toNat → a = b
  | [], [], _ => rfl
  | [], _ :: _, h => by simp at h
  | _ :: _, [], h => by simp at h
  | x :: a, y :: b, h => by
    simp only [List.map_cons, List.cons.injEq] at h
    rw [char_inj h.1, map_inj_char h.2]
theorem ofString_inj {s t : String} (h : Str.ofString s = Str.ofString t) : s = t := by
  have h1 : s.toList.map Char.toNat = t.toList.map Char.toNat := by rw [← ofString_cps, ← ofString_cps, h]
  exact String.toList_inj.mp (map_inj_char h1)
theorem ofString_beq (s t : String) : decide (Str.ofString s = Str.ofString t) = (s == t) := by
  by_cases h : s = t
  · subst h; simp
  · have : ¬ Str.ofString s = Str.ofString t := fun q => h (ofString_inj q)
    rw [decide_eq_false this]; simp [h]
theorem ofString_length (s : String) : (Str.ofString s).length = s.length := by
  show (Str.ofString s).cps.size = s.length
  rw [← Array.length_toList, ofString_cps, List.length_map, String.length_toList]
theorem ofString_append (s t : String) : Str.ofString (s ++ t) = Str.ofString s ++ Str.ofString t := by
  show _ = Str.append _ _
  unfold Str.append
  rw [Str.ofString_eq_toList, Str.ofString_eq_toList, Str.ofString_eq_toList]
  simp [String.toList_append]

/-- what is wanted behind a value's making -/
def VC (G : Md) (φ : Ph) (H : Hp) (Q : VK) (d : D) (A : AH) : Prop := ∀ φ' H' v, Ext φ H φ' H' → HR G φ' H' A → Rep G φ' H' d v → Q v H'
theorem VC.ext {G : Md} {φ φ1 : Ph} {H H1 : Hp} {Q : VK} {d : D} {A : AH} (h : VC G φ H Q d A) (x : Ext φ H φ1 H1) : VC G φ1 H1 Q d A := fun φ' H' v e => h φ' H' v (x.trans e)
section
variable {G : Md} {φ : Ph} {H : Hp} {A : AH} {Q : VK}
theorem VC.here {d : D} {v : V} (h : VC G φ H Q d A) (hr : HR G φ H A) (r : Rep G φ H d v) : Q v H := h φ H v .refl hr r
/-- a new tuple -/
theorem VC.tup {ds : List D} {vs : List V} {p : Addr} (h : VC G φ H Q (.tup ds) A) (hr : HR G φ H A) (hp : H p = none) (r : Reps G φ H ds vs) : Q (.ref p) (upd H p (.tup vs)) :=
  h φ _ _ (.beside hp) (hr.beside hp) ⟨p, vs, rfl, .of upd_same, r.ext hr (.beside hp)⟩
/-- a new object -/
theorem VC.new {o : AO} {ho : HO} {p : Addr} (h : VC G φ H Q (.ref A.length) (A ++ [o])) (hr : HR G φ H A) (hp : H p = none) (r : ORep G φ H o ho) : Q (.ref p) (upd H p ho) := by
  refine h _ _ _ (.push hp) (hr.push hp r) ⟨p, ?_, rfl⟩
  rw [← hr.len]; simp
/-- an object is changed -/
theorem VC.set {n : Nat} {a : Addr} {o : AO} {ho : HO} {d : D} {v : V} (h : VC G φ H Q d (A.set n o)) (hr : HR G φ H A) (hn : φ[n]? = some a) (nf : NF H a) (r : ORep G φ H o ho) (rv : Rep G φ H d v) : Q v (upd H a ho) :=
  h φ _ v (.set (List.mem_of_getElem? hn) nf) (hr.set hn nf r) (rv.ext hr (.set (List.mem_of_getElem? hn) nf))
theorem HR.lst (hr : HR G φ H A) {n : Nat} {a : Addr} {xs : List D} (e : A[n]? = some (.lst xs)) (ea : φ[n]? = some a) : ∃ vs, H a = some (.lst vs) ∧ Reps G φ H xs vs := by
  obtain ⟨ho, e1, vs, rfl, r⟩ := hr.at_ n a _ ea e
  exact ⟨vs, e1, r⟩
theorem HR.seq (hr : HR G φ H A) {n : Nat} {a : Addr} {xs : List D} (e : seqL A n = some xs) (ea : φ[n]? = some a) : ∃ vs, H a = some (.lst vs) ∧ Reps G φ H xs vs := by
  unfold seqL at e
  split at e
  · rename_i ys h; cases e; exact hr.lst h ea
  · cases e
theorem HR.dct (hr : HR G φ H A) {n : Nat} {a : Addr} {kvs : List (D × D)} (e : A[n]? = some (.dct kvs)) (ea : φ[n]? = some a) : ∃ ks, H a = some (.dK ks) ∧ KReps G φ H kvs ks := by
  obtain ⟨ho, e1, vs, rfl, r⟩ := hr.at_ n a _ ea e
  exact ⟨vs, e1, r⟩
theorem HR.dctL (hr : HR G φ H A) {n : Nat} {a : Addr} {kvs : List (D × D)} (e : dctL A n = some kvs) (ea : φ[n]? = some a) : ∃ ks, Rd H a (.dK ks) ∧ KReps G φ H kvs ks := by
  unfold Ev.dctL at e
  split at e
  · rename_i ys h; cases e
    obtain ⟨ks, h1, h2⟩ := hr.dct h ea
    exact ⟨ks, .inl h1, h2⟩
  · rename_i ys h; cases e
    obtain ⟨ho, e1, o, ks, rfl, r⟩ := hr.at_ n a _ ea h
    exact ⟨ks, .inr ⟨o, e1⟩, r⟩
  · cases e
end

/-! ### binary operators -/
def bop : BOp → Operator
  | .add => .Add | .sub => .Sub | .mul => .Mult | .fdiv => .FloorDiv | .mod => .Mod
theorem mul_ok {i j : Int} (h : (decide (i.natAbs < 18446744073709551616) || decide (j.natAbs < 18446744073709551616)) = true) : CMul i j := by
  simp only [Bool.or_eq_true, decide_eq_true_eq] at h
  rcases h with h | h
  · exact .inl ⟨by omega, by omega⟩
  · exact .inr ⟨by omega, by omega⟩
section
variable {X : Cx}
def rB (G : Md) (o : BOp) : R2 := fun x y H Q => ∃ φ A d e r A', HR G φ H A ∧ Rep G φ H d x ∧ Rep G φ H e y ∧ opB A o d e = .ok r A' ∧ VC G φ H Q r A'
theorem opB_ok (o : BOp) : OpR X (binaryOp (bop o)) (rB (Gd X) o) := by
  intro pins s σ H x y v u Q I rx ry h
  obtain ⟨φ, A, d, e, r, A', hr, rd, re, he, q⟩ := h
  unfold opB at he
  split at he
  · cases rd; cases re; cases he
    exact op_add pins s σ H _ _ v u Q I rx ry ⟨_, _, rfl, rfl, q.here hr rfl⟩
  · cases rd; cases re; cases he
    exact op_sub pins s σ H _ _ v u Q I rx ry ⟨_, _, rfl, rfl, q.here hr rfl⟩
  · cases rd; cases re
    split at he
    · rename_i hc; cases he
      exact op_mul pins s σ H _ _ v u Q I rx ry ⟨_, _, rfl, rfl, mul_ok hc, q.here hr rfl⟩
    · cases he
  · cases rd; cases re
    split at he
    · rename_i hc; cases he
      simp only [Bool.and_eq_true, decide_eq_true_eq] at hc
      exact op_fdiv pins s σ H _ _ v u Q I rx ry ⟨_, _, rfl, rfl, hc, q.here hr rfl⟩
    · cases he
  · cases rd; cases re
    split at he
    · rename_i hc; cases he
      exact op_mod pins s σ H _ _ v u Q I rx ry ⟨_, _, rfl, rfl, hc, q.here hr rfl⟩
    · cases he
  · cases rd; cases re
    split at he
    · rename_i hc; cases he
      refine op_add_str pins s σ H _ _ v u Q I rx ry ⟨_, _, rfl, rfl, ?_, ?_⟩
      · rw [ofString_length, ofString_length]; exact hc
      · exact q.here hr (by show _ = _; rw [ofString_append])
    · cases he
  · rename_i xs ys
    split at he
    · rename_i hc; cases he
      obtain ⟨a, vs, rfl, q1, r1⟩ := rd
      obtain ⟨b, ws, rfl, q2, r2⟩ := re
      have l1 := r1.length
      have l2 := r2.length
      exact op_catA pins s σ H _ _ v u Q I rx ry ⟨a, b, vs, ws, rfl, rfl, q1, q2, by omega, fun h0 => q.here hr ⟨b, ws, rfl, q2, by
        subst h0
        have : xs = [] := by cases xs with | nil => rfl | cons => simp at l1
        subst this; exact r2⟩, fun _ h0 => q.here hr ⟨a, vs, rfl, q1, by
        subst h0
        have : ys = [] := by cases ys with | nil => rfl | cons => simp at l2
        subst this; rw [List.append_nil]; exact r1⟩, fun _ _ p hp => q.tup hr hp (r1.append r2)⟩
    · cases he
  · rename_i na nb
    obtain ⟨a, ea, rfl⟩ := rd
    obtain ⟨b, eb, rfl⟩ := re
    split at he
    · rename_i xs ys h1 h2
      split at he
      · rename_i hc; cases he
        obtain ⟨vs, e1, r1⟩ := hr.lst h1 ea
        obtain ⟨ws, e2, r2⟩ := hr.lst h2 eb
        have l1 := r1.length
        have l2 := r2.length
        exact op_cat pins s σ H _ _ v u Q I rx ry ⟨a, b, vs, ws, rfl, rfl, e1, e2, by omega, fun p hp => q.new hr hp ⟨_, rfl, r1.append r2⟩⟩
      · cases he
    · cases he
  · cases he

/-! ### equality of data -/
mutual
theorem dp_of {G : Md} {φ : Ph} {H : Hp} : ∀ (d : D) (v : V) (p : PyData), Rep G φ H d v → toPd d = some p → Dp G.K H v p
  | .non, v, p, r, h => by cases h; cases r; exact .non
  | .bl b, v, p, r, h => by cases h; cases r; exact .bl b
  | .int i, v, p, r, h => by cases h; cases r; exact .int i
  | .str s, v, p, r, h => by cases h; cases r; exact .str _
  | .tup ds, v, p, r, h => by
    obtain ⟨a, vs, rfl, q, rs⟩ := r
    unfold toPd at h
    cases e : toPds ds with
    | none => rw [e] at h; cases h
    | some ps => rw [e] at h; cases h; exact .tup q (dps_of ds vs ps rs e)
  | .frl _, _, _, _, h => by cases h
  | .ref _, _, _, _, h => by cases h
  | .gl _, _, _, _, h => by cases h
theorem dps_of {G : Md} {φ : Ph} {H : Hp} : ∀ (ds : List D) (vs : List V) (ps : List PyData), Reps G φ H ds vs → toPds ds = some ps → DpAll G.K H vs ps
  | [], vs, ps, r, h => by cases h; rw [show vs = [] from r]; exact .nil
  | d :: ds, vs, ps, r, h => by
    obtain ⟨v, t, rfl, r1, r2⟩ := r
    unfold toPds at h
    cases e1 : toPd d with
    | none => rw [e1] at h; cases h
    | some p =>
      cases e2 : toPds ds with
      | none => rw [e1, e2] at h; cases h
      | some ps' => rw [e1, e2] at h; cases h; exact .cons (dp_of d v p r1 e1) (dps_of ds t ps' r2 e2)
end
theorem dpA_of {G : Md} {φ : Ph} {H : Hp} {A : AH} (hr : HR G φ H A) {d : D} {v : V} {p : PyData} (r : Rep G φ H d v) (h : toP A d = some p) : Dp G.K H v p := by
  unfold toP at h
  split at h
  · rename_i n
    obtain ⟨a, ea, rfl⟩ := r
    split at h
    · rename_i xs hx
      obtain ⟨vs, e1, r1⟩ := hr.seq hx ea
      cases e : toPds xs with
      | none => rw [e] at h; cases h
      | some ps => rw [e] at h; cases h; exact .lst (.of e1) (dps_of xs vs ps r1 e)
    · cases h
  · exact dp_of _ _ _ r h
theorem flatV_of {G : Md} {φ : Ph} {H : Hp} {d : D} {v : V} (r : Rep G φ H d v) (f : flatD d = true) : flatV v = true := by
  cases d <;> first | (cases f; done) | (cases r; rfl)
theorem flatVs_of {G : Md} {φ : Ph} {H : Hp} : ∀ {ds : List D} {vs : List V}, Reps G φ H ds vs → ds.all flatD = true → vs.all flatV = true
  | [], vs, r, _ => by rw [show vs = [] from r]; rfl
  | d :: ds, vs, r, f => by
    obtain ⟨v, t, rfl, r1, r2⟩ := r
    simp only [List.all_cons, Bool.and_eq_true] at f ⊢
    exact ⟨flatV_of r1 f.1, flatVs_of r2 f.2⟩
theorem flatEq_of {G : Md} {φ : Ph} {H : Hp} {d e : D} {v w : V} (r : Rep G φ H d v) (s : Rep G φ H e w) (f : flatD d = true) (g : flatD e = true) : eqV v w = flatEq d e := by
  cases d <;> first | (cases f; done) | skip
  all_goals (cases e <;> first | (cases g; done) | skip)
  all_goals (cases r; cases s)
  all_goals (first | rfl | skip)
  rename_i a b
  show (Str.ofString a == Str.ofString b) = (a == b)
  rw [← ofString_beq, Bool.beq_eq_decide_eq]
theorem inV_of {G : Md} {φ : Ph} {H : Hp} {e : D} {w : V} (s : Rep G φ H e w) (g : flatD e = true) : ∀ {ds : List D} {vs : List V}, Reps G φ H ds vs → ds.all flatD = true → inV w vs = ds.any fun z => flatEq z e
  | [], vs, r, _ => by rw [show vs = [] from r]; rfl
  | d :: ds, vs, r, f => by
    obtain ⟨v, t, rfl, r1, r2⟩ := r
    simp only [List.all_cons, Bool.and_eq_true] at f
    have ih := inV_of s g r2 f.2
    unfold inV at ih ⊢
    rw [List.any_cons, List.any_cons, ih, flatEq_of r1 s f.1 g]
end
end Ev

/-! ## EvVal2 -/
/-! EvVal2: dicts, comparisons, truth, subscripts, slices, stores by values. -/
namespace Ev
open PySem PySem.Spec PyProof.Rows L2

/-! ### dicts -/
theorem KR.key {G : Md} {φ : Ph} {H : Hp} {k : D} {v : V} (h : keyOk k = true) (r : Rep G φ H k v) : ∃ j, v = kV j ∧ KR k j := by
  cases k with
  | int i => cases r; exact ⟨.inl i, rfl, rfl⟩
  | str s => cases r; exact ⟨.inr _, rfl, rfl⟩
  | _ => cases h
theorem KR.rep {G : Md} {φ : Ph} {H : Hp} {k : D} {j : Key} (h : KR k j) : Rep G φ H k (kV j) := by
  cases k <;> cases j <;> first | (exact h.elim) | (cases h; rfl)
theorem KR.ok {k : D} {j : Key} (h : KR k j) : keyOk k = true := by
  cases k <;> cases j <;> first | (exact h.elim) | rfl
theorem KR.eq {k l : D} {i j : Key} (a : KR k i) (b : KR l j) : keyEq k l = decide (i = j) := by
  cases k <;> cases i <;> first | (exact a.elim) | skip
  all_goals (cases l <;> cases j <;> first | (exact b.elim) | skip)
  all_goals (cases a; cases b)
  · rw [key_ll]; rfl
  · rw [key_lr]; rfl
  · rw [key_rl]; rfl
  · rw [key_rr, ofString_beq]; rfl
section
variable {G : Md} {φ : Ph} {H : Hp} {A : AH}
theorem KReps.get {k : D} {j : Key} (hk : KR k j) : ∀ {kvs : List (D × D)} {ks : List (Key × V)}, KReps G φ H kvs ks →
    (∃ d v, dget kvs k = some d ∧ valV ks j = some v ∧ Rep G φ H d v) ∨ (dget kvs k = none ∧ valV ks j = none)
  | [], ks, r => by rw [show ks = [] from r]; exact .inr ⟨rfl, rfl⟩
  | (l, d) :: kvs, ks, r => by
    obtain ⟨i, v, s, rfl, r0, r1, r2⟩ := r
    have he := KR.eq r0 hk
    by_cases hij : i = j
    · rw [decide_eq_true hij] at he
      exact .inl ⟨d, v, by simp [dget, List.find?_cons, he], valV_pos hij, r1⟩
    · rw [decide_eq_false hij] at he
      have ih := KReps.get hk r2
      rw [valV_neg (p := (i, v)) hij]
      rcases ih with ⟨d', v', h1, h2, h3⟩ | ⟨h1, h2⟩
      · exact .inl ⟨d', v', by simpa [dget, List.find?_cons, he] using h1, h2, h3⟩
      · exact .inr ⟨by simpa [dget, List.find?_cons, he] using h1, h2⟩
theorem KReps.any {k : D} {j : Key} (hk : KR k j) : ∀ {kvs : List (D × D)} {ks : List (Key × V)}, KReps G φ H kvs ks → (kvs.any fun kv => keyEq kv.1 k) = ks.any fun kv => decide (kv.1 = j)
  | [], ks, r => by rw [show ks = [] from r]; rfl
  | (l, d) :: kvs, ks, r => by
    obtain ⟨i, v, s, rfl, r0, r1, r2⟩ := r
    rw [List.any_cons, List.any_cons, KReps.any hk r2, KR.eq r0 hk]
theorem KReps.repl {k d : D} {j : Key} {v : V} (hk : KR k j) (rd : Rep G φ H d v) : ∀ {kvs : List (D × D)} {ks : List (Key × V)}, KReps G φ H kvs ks →
    KReps G φ H (kvs.map fun kv => if keyEq kv.1 k then (kv.1, d) else kv) (ks.map fun kv => if kv.1 = j then (kv.1, v) else kv)
  | [], ks, r => by rw [show ks = [] from r]; exact rfl
  | (l, d') :: kvs, ks, r => by
    obtain ⟨i, v', s, rfl, r0, r1, r2⟩ := r
    have ih := KReps.repl hk rd r2
    have he := KR.eq r0 hk
    rw [List.map_cons, List.map_cons]
    by_cases hij : i = j
    · rw [decide_eq_true hij] at he
      have e1 : (if keyEq (l, d').1 k = true then ((l, d').1, d) else (l, d')) = (l, d) := by simp [he]
      have e2 : (if (i, v').1 = j then ((i, v').1, v) else (i, v')) = (i, v) := by simp [hij]
      rw [e1, e2]
      exact ⟨i, v, _, rfl, r0, rd, ih⟩
    · rw [decide_eq_false hij] at he
      have e1 : (if keyEq (l, d').1 k = true then ((l, d').1, d) else (l, d')) = (l, d') := by simp [he]
      have e2 : (if (i, v').1 = j then ((i, v').1, v) else (i, v')) = (i, v') := by simp [hij]
      rw [e1, e2]
      exact ⟨i, v', _, rfl, r0, r1, ih⟩
theorem KReps.snoc {k d : D} {j : Key} {v : V} (hk : KR k j) (rd : Rep G φ H d v) : ∀ {kvs : List (D × D)} {ks : List (Key × V)}, KReps G φ H kvs ks → KReps G φ H (kvs ++ [(k, d)]) (ks ++ [(j, v)])
  | [], ks, r => by rw [show ks = [] from r]; exact ⟨j, v, [], rfl, hk, rd, rfl⟩
  | (l, d') :: kvs, ks, r => by
    obtain ⟨i, v', s, rfl, r0, r1, r2⟩ := r
    exact ⟨i, v', s ++ [(j, v)], rfl, r0, r1, KReps.snoc hk rd r2⟩
theorem KReps.put {k d : D} {j : Key} {v : V} (hk : KR k j) (rd : Rep G φ H d v) {kvs : List (D × D)} {ks : List (Key × V)} (r : KReps G φ H kvs ks) : KReps G φ H (dput kvs k d) (putK ks j v) := by
  unfold dput putK
  rw [KReps.any hk r]
  split
  · exact KReps.repl hk rd r
  · exact KReps.snoc hk rd r
theorem KReps.drop {k : D} {j : Key} (hk : KR k j) : ∀ {kvs : List (D × D)} {ks : List (Key × V)}, KReps G φ H kvs ks → KReps G φ H (ddrop kvs k) (dropK ks j)
  | [], ks, r => by rw [show ks = [] from r]; exact rfl
  | (l, d') :: kvs, ks, r => by
    obtain ⟨i, v', s, rfl, r0, r1, r2⟩ := r
    have ih := KReps.drop hk r2
    have he := KR.eq r0 hk
    unfold ddrop dropK at ih ⊢
    by_cases hij : i = j
    · rw [decide_eq_true hij] at he
      simpa [List.filter_cons, he, hij] using ih
    · rw [decide_eq_false hij] at he
      have e1 : (List.filter (fun kv => !keyEq kv.1 k) ((l, d') :: kvs)) = (l, d') :: List.filter (fun kv => !keyEq kv.1 k) kvs := by simp [List.filter_cons, he]
      have e2 : (List.filter (fun kv => decide (kv.1 ≠ j)) ((i, v') :: s)) = (i, v') :: List.filter (fun kv => decide (kv.1 ≠ j)) s := by simp [List.filter_cons, hij]
      rw [e1, e2]
      exact ⟨i, v', _, rfl, r0, r1, ih⟩
theorem KReps.merge {more : List (D × D)} : ∀ {kvs : List (D × D)} {ms ks : List (Key × V)}, KReps G φ H more ms → KReps G φ H kvs ks → KReps G φ H (dmerge kvs more) (mergeK ks ms) := by
  induction more with
  | nil => intro kvs ms ks r s; rw [show ms = [] from r]; exact s
  | cons kd more ih =>
    intro kvs ms ks r s
    obtain ⟨k, d⟩ := kd
    obtain ⟨i, v', t, rfl, r0, r1, r2⟩ := r
    show KReps G φ H (dmerge (dput kvs k d) more) (mergeK (putK ks i v') t)
    exact ih r2 (KReps.put r0 r1 s)
theorem KReps.length : ∀ {kvs : List (D × D)} {ks : List (Key × V)}, KReps G φ H kvs ks → ks.length = kvs.length
  | [], ks, r => by rw [show ks = [] from r]; rfl
  | (k, d) :: kvs, ks, r => by
    obtain ⟨i, v', t, rfl, r0, r1, r2⟩ := r
    simp [KReps.length r2]
theorem KReps.keys : ∀ {kvs : List (D × D)} {ks : List (Key × V)}, KReps G φ H kvs ks → Reps G φ H (kvs.map (·.1)) (ks.map fun kv => kV kv.1)
  | [], ks, r => by rw [show ks = [] from r]; exact rfl
  | (k, d) :: kvs, ks, r => by
    obtain ⟨i, v', t, rfl, r0, r1, r2⟩ := r
    exact ⟨_, _, rfl, r0.rep, KReps.keys r2⟩
theorem KReps.at {kvs : List (D × D)} : ∀ {ks : List (Key × V)} {i : Nat} {k d : D}, KReps G φ H kvs ks → kvs[i]? = some (k, d) → ∃ j v, ks[i]? = some (j, v) ∧ KR k j ∧ Rep G φ H d v := by
  induction kvs with
  | nil => intro ks i k d _ e; simp at e
  | cons kv kvs ih =>
    intro ks i k d r e
    obtain ⟨l, d'⟩ := kv
    obtain ⟨j, v', t, rfl, r0, r1, r2⟩ := r
    cases i with
    | zero => simp at e; obtain ⟨rfl, rfl⟩ := e; exact ⟨j, v', rfl, r0, r1⟩
    | succ i => simpa using ih r2 (by simpa using e)
/-- what a dict holds at a key -/
theorem HR.dgetL (hr : HR G φ H A) {n : Nat} {a : Addr} {kvs : List (D × D)} {k : D} {y : V} (e : Ev.dctL A n = some kvs) (ea : φ[n]? = some a) (hk : keyOk k = true) (r : Rep G φ H k y) :
    (∃ d v, dget kvs k = some d ∧ DGet H a y (some v) ∧ Rep G φ H d v) ∨ (dget kvs k = none ∧ DGet H a y none) := by
  obtain ⟨ks, h1, h2⟩ := hr.dctL e ea
  obtain ⟨j, rfl, hj⟩ := KR.key hk r
  rcases h2.get hj with ⟨d, v, q1, q2, q3⟩ | ⟨q1, q2⟩
  · exact .inl ⟨d, v, q1, .inl ⟨ks, j, h1, rfl, q2.symm⟩, q3⟩
  · exact .inr ⟨q1, .inl ⟨ks, j, h1, rfl, q2.symm⟩⟩
end

/-! ### comparisons -/
def cop : COp → CmpOp
  | .eq => .Eq | .ne => .NotEq | .lt => .Lt | .le => .LtE | .gt => .Gt | .ge => .GtE | .is => .Is | .isnt => .IsNot | .mem => .In | .nmem => .NotIn
def rC (G : Md) (o : COp) : R2 := fun x y H Q => ∃ φ A d e b, HR G φ H A ∧ Rep G φ H d x ∧ Rep G φ H e y ∧ opC A o d e = some b ∧ Q (.bl b) H
section
variable {X : Cx}
theorem in_ok (hu : X.A.units + 64 < cLine) (neg : Bool) : OpR X (compareOp (if neg then .NotIn else .In)) (fun x y H Q => ∃ φ A d e b, HR (Gd X) φ H A ∧ Rep (Gd X) φ H d x ∧ Rep (Gd X) φ H e y ∧ memD A d e = some b ∧ Q (.bl (if neg then !b else b)) H) := by
  intro pins s σ H x y v u Q I rx ry h
  obtain ⟨φ, A, d, e, b, hr, rd, re, he, q⟩ := h
  unfold memD at he
  split at he
  · rename_i n
    obtain ⟨a, ea, rfl⟩ := re
    split at he
    · rename_i kvs hkv
      split at he
      · rename_i hk; cases he
        have ry' : u = Value.ref a := ry
        subst ry'
        rcases hr.dgetL hkv ea hk rd with ⟨d', v', q1, q2, _⟩ | ⟨q1, q2⟩
        · rw [q1] at q
          cases neg with
          | true => exact d_notIn (by omega) I q2 rx fun s' I' => ⟨.bl (!(some v').isSome), H, I', rfl, q⟩
          | false => exact d_in (by omega) I q2 rx fun s' I' => ⟨.bl (some v').isSome, H, I', rfl, q⟩
        · rw [q1] at q
          cases neg with
          | true => exact d_notIn (by omega) I q2 rx fun s' I' => ⟨.bl (!(none : Option V).isSome), H, I', rfl, q⟩
          | false => exact d_in (by omega) I q2 rx fun s' I' => ⟨.bl (none : Option V).isSome, H, I', rfl, q⟩
      · cases he
    · split at he
      · rename_i xs hx
        split at he
        · rename_i hf; cases he
          simp only [Bool.and_eq_true] at hf
          obtain ⟨vs, e1, r1⟩ := hr.seq hx ea
          have hin := inV_of rd hf.1 r1 hf.2
          cases neg with
          | true => exact op_notIn_seq pins s σ H _ _ v u Q I rx ry ⟨a, vs, rfl, .inl (.of e1), flatV_of rd hf.1, flatVs_of r1 hf.2, by rw [hin]; exact q⟩
          | false => exact op_in_seq pins s σ H _ _ v u Q I rx ry ⟨a, vs, rfl, .inl (.of e1), flatV_of rd hf.1, flatVs_of r1 hf.2, by rw [hin]; exact q⟩
        · cases he
      · cases he
  · rename_i xs
    obtain ⟨a, vs, rfl, hq, r1⟩ := re
    split at he
    · rename_i hf; cases he
      simp only [Bool.and_eq_true] at hf
      have hin := inV_of rd hf.1 r1 hf.2
      cases neg with
      | true => exact op_notIn_seq pins s σ H _ _ v u Q I rx ry ⟨a, vs, rfl, .inr hq, flatV_of rd hf.1, flatVs_of r1 hf.2, by rw [hin]; exact q⟩
      | false => exact op_in_seq pins s σ H _ _ v u Q I rx ry ⟨a, vs, rfl, .inr hq, flatV_of rd hf.1, flatVs_of r1 hf.2, by rw [hin]; exact q⟩
    · cases he
  · cases he
theorem rep_non {G : Md} {φ : Ph} {H : Hp} {d : D} {v : V} {A : AH} (hr : HR G φ H A) (r : Rep G φ H d v) (hg : ∀ x, d ≠ .gl x) : decide (v = .non) = Ev.isNon d := by
  cases d with
  | non => cases r; rfl
  | bl b => cases r; rfl
  | int i => cases r; rfl
  | str s => cases r; rfl
  | tup ds => obtain ⟨a, vs, rfl, _⟩ := r; rfl
  | frl ds => obtain ⟨a, vs, rfl, _⟩ := r; rfl
  | ref n => obtain ⟨a, _, rfl⟩ := r; rfl
  | gl x => exact absurd rfl (hg x)
theorem opC_ok (hu : X.A.units + 64 < cLine) (o : COp) : OpR X (compareOp (cop o)) (rC (Gd X) o) := by
  intro pins s σ H x y v u Q I rx ry h
  obtain ⟨φ, A, d, e, b, hr, rd, re, he, q⟩ := h
  have eqs : ∀ r, eqD A d e = some r → ∃ p q, Dp X.K H x p ∧ Dp X.K H y q ∧ SeqAt.shaped p = true ∧ SeqAt.shaped q = true ∧ PyData.eqv p q = r := fun r hh => by
    unfold eqD at hh
    split at hh
    · rename_i p q' h1 h2
      split at hh
      · rename_i hs; cases hh
        simp only [Bool.and_eq_true] at hs
        exact ⟨p, q', dpA_of hr rd h1, dpA_of hr re h2, hs.1, hs.2, rfl⟩
      · cases hh
    · cases hh
  cases o with
  | eq =>
    obtain ⟨p, p', h1, h2, h3, h4, h5⟩ := eqs b he
    exact op_eqD hu pins s σ H x y v u Q I rx ry ⟨p, p', h1, h2, h3, h4, by rw [h5]; exact q⟩
  | ne =>
    have he : (eqD A d e).map (!·) = some b := he
    obtain ⟨r, hr1, hr2⟩ := Option.map_eq_some_iff.mp he
    obtain ⟨p, p', h1, h2, h3, h4, h5⟩ := eqs r hr1
    exact op_neD hu pins s σ H x y v u Q I rx ry ⟨p, p', h1, h2, h3, h4, by rw [h5, hr2]; exact q⟩
  | lt =>
    have he : cmpI (fun i j => decide (i < j)) d e = some b := he
    unfold cmpI at he
    split at he
    · cases he; cases rd; cases re; exact op_lt pins s σ H _ _ v u Q I rx ry ⟨_, _, rfl, rfl, q⟩
    · cases he
  | le =>
    have he : cmpI (fun i j => decide (i ≤ j)) d e = some b := he
    unfold cmpI at he
    split at he
    · cases he; cases rd; cases re; exact op_le pins s σ H _ _ v u Q I rx ry ⟨_, _, rfl, rfl, q⟩
    · cases he
  | gt =>
    have he : cmpI (fun i j => decide (j < i)) d e = some b := he
    unfold cmpI at he
    split at he
    · cases he; cases rd; cases re; exact op_gt pins s σ H _ _ v u Q I rx ry ⟨_, _, rfl, rfl, q⟩
    · cases he
  | ge =>
    have he : cmpI (fun i j => decide (j ≤ i)) d e = some b := he
    unfold cmpI at he
    split at he
    · cases he; cases rd; cases re; exact op_ge pins s σ H _ _ v u Q I rx ry ⟨_, _, rfl, rfl, q⟩
    · cases he
  | is =>
    have hg : ∀ x, d ≠ .gl x := fun x z => by rw [z] at he; cases he
    have he : isN d e = some b := by
      cases d <;> first | exact he | exact absurd rfl (hg _)
    unfold isN at he
    split at he
    · cases re
      refine op_isN pins s σ H _ _ v u Q I rx ry ⟨rfl, ?_⟩
      rw [rep_non hr rd hg]
      cases he
      exact q
    · cases he
  | isnt =>
    have hg : ∀ x, d ≠ .gl x := fun x z => by rw [z] at he; cases he
    have he : (isN d e).map (!·) = some b := by
      cases d <;> first | exact he | exact absurd rfl (hg _)
    unfold isN at he
    split at he
    · cases re
      refine op_notN pins s σ H _ _ v u Q I rx ry ⟨rfl, ?_⟩
      rw [rep_non hr rd hg]
      cases he
      exact q
    · cases he
  | mem => exact in_ok hu false pins s σ H x y v u Q I rx ry ⟨φ, A, d, e, b, hr, rd, re, he, q⟩
  | nmem =>
    have he : (memD A d e).map (!·) = some b := he
    obtain ⟨r, hr1, hr2⟩ := Option.map_eq_some_iff.mp he
    exact in_ok hu true pins s σ H x y v u Q I rx ry ⟨φ, A, d, e, r, hr, rd, re, hr1, by rw [show (if true = true then !r else r) = b from hr2]; exact q⟩

/-! ### truth -/
theorem tru_of {G : Md} {φ : Ph} {H : Hp} {A : AH} {d : D} {x : V} {b : Bool} (hr : HR G φ H A) (r : Rep G φ H d x) (h : truth A d = some b) : TruV G.K x H b := by
  unfold truth at h
  split at h
  · cases h; cases r; rfl
  · cases h; cases r; rfl
  · cases h; cases r; rfl
  · rename_i z
    split at h
    case isFalse => cases h
    rename_i hs
    cases h; cases r
    refine ⟨by rw [ofString_length]; exact hs, ?_⟩
    rw [ofString_length]
    by_cases hz : z = ""
    · subst hz; decide
    · have : z.length ≠ 0 := fun q => hz (String.length_eq_zero_iff.mp q)
      have e1 : (z != "") = true := bne_iff_ne.mpr hz
      have e2 : ((z.length : Int) != 0) = true := bne_iff_ne.mpr (by omega)
      rw [e1, e2]
  · rename_i xs
    obtain ⟨a, vs, rfl, hq, rs⟩ := r
    cases h
    refine .inr (.inl ⟨vs, hq, ?_⟩)
    have := rs.length
    cases xs <;> cases vs <;> first | rfl | (simp at this)
  · rename_i n
    obtain ⟨a, ea, rfl⟩ := r
    split at h
    · rename_i xs hx
      cases h
      obtain ⟨vs, e1, rs⟩ := hr.lst hx ea
      refine .inl ⟨vs, .of e1, ?_⟩
      have := rs.length
      cases xs <;> cases vs <;> first | rfl | (simp at this)
    · rename_i kvs hx
      cases h
      obtain ⟨ks, e1, rs⟩ := hr.dct hx ea
      refine .inr (.inr ⟨ks, e1, ?_⟩)
      have := rs.length
      cases kvs <;> cases ks <;> first | rfl | (simp at this)
    · cases h
  · cases h
  · cases h

/-! ### subscripts -/
def rI' (G : Md) : R2 := fun x y H Q => ∃ φ A d e r, HR G φ H A ∧ Rep G φ H d x ∧ Rep G φ H e y ∧ opI A d e = some r ∧ VC G φ H Q r A
theorem atI_rep {G : Md} {φ : Ph} {H : Hp} {ds : List D} {vs : List V} {i : Int} {d : D} (r : Reps G φ H ds vs) (h : L2.atI ds i = some d) : ∃ v, L2.atI vs i = some v ∧ Rep G φ H d v := by
  unfold L2.atI at h ⊢
  rw [r.length]
  cases e : L2.ixN ds.length i with
  | none => rw [e] at h; cases h
  | some j =>
    rw [e] at h
    exact r.get h
theorem ix_ok (hu : X.A.units + 64 < cLine) : IxR X (rI' (Gd X)) := by
  intro value slice pins s σ H x y v u Q I rx ry h hs
  obtain ⟨φ, A, d, e, r, hr, rd, re, he, q⟩ := h
  unfold opI at he
  split at he
  · rename_i xs
    obtain ⟨a, vs, rfl, hq, rs⟩ := rd
    split at he
    · cases re
      obtain ⟨w, hw, rw'⟩ := atI_rep rs he
      exact ix_tup value slice pins s σ H _ _ v u Q I rx ry ⟨a, vs, _, w, rfl, rfl, hq, hw, q.here hr rw'⟩ hs
    · cases he
  · rename_i n
    obtain ⟨a, ea, rfl⟩ := rd
    split at he
    · rename_i kvs hkv
      split at he
      · rename_i hk
        have ex : v = Value.ref a := rx
        subst ex
        rcases hr.dgetL hkv ea hk re with ⟨d', v', q1, q2, q3⟩ | ⟨q1, q2⟩
        · rw [q1] at he; cases he
          exact tail_any (dict_typeIs I q2) PySem.F.slot_dict_getitem.lookup (d_getItem (by omega) I q2 ry fun w' s3 I3 rw' => ⟨v', H, I3, rw', q.here hr q3⟩) hs
        · rw [q1] at he; cases he
      · cases he
    · split at he
      · rename_i xs k hx
        cases re
        obtain ⟨vs, e1, rs⟩ := hr.seq hx ea
        obtain ⟨w, hw, rw'⟩ := atI_rep rs he
        exact ix_list value slice pins s σ H _ _ v u Q I rx ry ⟨a, vs, _, w, rfl, rfl, .of e1, hw, q.here hr rw'⟩ hs
      · cases he
  · cases he
def rS (G : Md) : V → Option Int → Option Int → Hp → VK → Prop := fun x lo hi H Q => ∃ φ A d r A', HR G φ H A ∧ Rep G φ H d x ∧ opS A d lo hi = .ok r A' ∧ VC G φ H Q r A'
theorem cut_rep {G : Md} {φ : Ph} {H : Hp} {ds : List D} {vs : List V} (lo hi : Option Int) (r : Reps G φ H ds vs) : Reps G φ H (cutD ds lo hi) (cutV vs lo hi) := by
  unfold cutD cutV
  rw [r.length]
  exact (r.drop _).take _
theorem sl_ok : SlR X (rS (Gd X)) := by
  intro pins s σ H x v vl vu lo hi sl Q I rx hs pl pu h
  obtain ⟨φ, A, d, r, A', hr, rd, he, q⟩ := h
  unfold opS at he
  split at he
  · rename_i xs
    cases he
    obtain ⟨a, vs, rfl, hq, rs⟩ := rd
    have hl := rs.length
    refine sl_tupA pins s σ H _ v vl vu lo hi sl Q I rx hs pl pu ⟨a, vs, rfl, hq, fun hw => q.here hr ⟨a, vs, rfl, hq, ?_⟩, fun _ p hp => q.tup hr hp (cut_rep lo hi rs)⟩
    rw [hl] at hw
    unfold cutD
    rw [hw.1, hw.2]
    simpa using rs
  · rename_i n
    obtain ⟨a, ea, rfl⟩ := rd
    split at he
    · rename_i xs hx
      cases he
      obtain ⟨vs, e1, rs⟩ := hr.seq hx ea
      exact sl_list pins s σ H _ v vl vu lo hi sl Q I rx hs pl pu ⟨a, vs, rfl, .of e1, fun p hp => q.new hr hp ⟨_, rfl, cut_rep lo hi rs⟩⟩
    · cases he
  · cases he
/-- o[i] = v -/
def rSt (G : Md) : V → V → V → Hp → (Hp → Prop) → Prop := fun o i v H Q => ∃ φ A d e f A', HR G φ H A ∧ Rep G φ H d o ∧ Rep G φ H e i ∧ Rep G φ H f v ∧ opSet A d e f = some A' ∧ ∀ φ' H', Ext φ H φ' H' → HR G φ' H' A' → Q H'
theorem set_ok (hu : X.A.units + 64 < cLine) : PSet X (rSt (Gd X)) := by
  intro pins s σ H o i v ov iv u Q I ro ri rv h
  obtain ⟨φ, A, d, e, f, A', hr, rd, re, rf, he, q⟩ := h
  unfold opSet at he
  split at he
  · rename_i n
    obtain ⟨a, ea, rfl⟩ := rd
    split at he
    · rename_i xs hx
      obtain ⟨vs, e1, rs⟩ := hr.lst hx ea
      split at he
      · rename_i k
        cases re
        obtain ⟨j, hj, rfl⟩ := Option.map_eq_some_iff.mp he
        exact set_list pins s σ H _ _ _ ov iv u Q I ro ri rv ⟨a, vs, k, j, rfl, rfl, e1, by rw [rs.length]; exact hj, q _ _ (.set (List.mem_of_getElem? ea) (.lst e1)) (hr.set ea (.lst e1) ⟨_, rfl, rs.set j rf⟩)⟩
      · cases he
    · rename_i kvs hx
      split at he
      · rename_i hk
        cases he
        simp only [Bool.and_eq_true, decide_eq_true_eq] at hk
        obtain ⟨ks, e1, rs⟩ := hr.dct hx ea
        obtain ⟨j, rfl, hj⟩ := KR.key hk.1 re
        have eo : ov = Value.ref a := ro
        subst eo
        exact d_setItem (by omega) I (.k e1 (by rw [rs.length]; exact hk.2)) ri rv fun s' I' => ⟨_, I', q _ _ (.set (List.mem_of_getElem? ea) (.dK e1)) (hr.set ea (.dK e1) ⟨_, rfl, rs.put hj rf⟩)⟩
      · cases he
    · cases he
  · cases he
end
end Ev

/-! ## EvVal3 -/
/-! EvVal3: built-in functions and methods by values. -/
namespace Ev
open PySem PySem.Spec PyProof.Rows L2
abbrev BF := AH → List D → Res D
def rBi (G : Md) (f : BF) : List V → Hp → VK → Prop := fun xs H Q => ∃ φ A ds r A', HR G φ H A ∧ Reps G φ H ds xs ∧ f A ds = .ok r A' ∧ VC G φ H Q r A'
section
variable {G : Md} {φ : Ph} {H : Hp} {A : AH}
theorem Reps.one {d : D} {xs : List V} (r : Reps G φ H [d] xs) : ∃ x, xs = [x] ∧ Rep G φ H d x := by
  obtain ⟨v, t, rfl, r1, r2⟩ := r
  rw [show t = [] from r2]; exact ⟨v, rfl, r1⟩
theorem Reps.two {d e : D} {xs : List V} (r : Reps G φ H [d, e] xs) : ∃ x y, xs = [x, y] ∧ Rep G φ H d x ∧ Rep G φ H e y := by
  obtain ⟨v, t, rfl, r1, r2⟩ := r
  obtain ⟨y, rfl, r3⟩ := Reps.one r2
  exact ⟨v, y, rfl, r1, r3⟩
theorem ints_rep : ∀ {ds : List D} {ns : List Int} {vs : List V}, intsOf ds = some ns → Reps G φ H ds vs → vs = ns.map V.int
  | [], ns, vs, h, r => by cases h; rw [show vs = [] from r]; rfl
  | d :: ds, ns, vs, h, r => by
    obtain ⟨v, t, rfl, r1, r2⟩ := r
    cases d <;> first | (cases h; done) | skip
    have h : (intsOf ds).map (_ :: ·) = some ns := h
    obtain ⟨ms, h1, rfl⟩ := Option.map_eq_some_iff.mp h
    rw [ints_rep h1 r2, show v = _ from r1]; rfl
theorem strs_rep : ∀ {ds : List D} {ns : List String} {vs : List V}, strsOf ds = some ns → Reps G φ H ds vs → vs = (ns.map Str.ofString).map V.str
  | [], ns, vs, h, r => by cases h; rw [show vs = [] from r]; rfl
  | d :: ds, ns, vs, h, r => by
    obtain ⟨v, t, rfl, r1, r2⟩ := r
    cases d <;> first | (cases h; done) | skip
    have h : (strsOf ds).map (_ :: ·) = some ns := h
    obtain ⟨ms, h1, rfl⟩ := Option.map_eq_some_iff.mp h
    rw [strs_rep h1 r2, show v = _ from r1]; rfl
theorem strs_reps : ∀ ns : List String, Reps G φ H (ns.map D.str) ((ns.map Str.ofString).map V.str)
  | [] => rfl
  | n :: ns => ⟨_, _, rfl, rfl, strs_reps ns⟩
end

/-! ### the order of texts -/
theorem ltCps_iff : ∀ a b : List Nat, ltCps a b = true ↔ a < b
  | [], [] => by simp [ltCps]
  | [], _ :: _ => by simp [ltCps]
  | _ :: _, [] => by simp [ltCps]
  | x :: a, y :: b => by
    have ih := ltCps_iff a b
    rw [List.cons_lt_cons_iff]
    unfold ltCps
    by_cases h1 : x < y
    · simp [h1]
    · by_cases h2 : x = y
      · subst h2; simp [ih]
      · have : ¬ x < y := h1
        simp [h1, h2]
theorem strLe_iff (a b : String) : strLe a b = true ↔ ¬ b.toList.map Char.toNat < a.toList.map Char.toNat := by
  unfold strLe
  rw [decide_eq_true_iff]
  exact Iff.rfl
theorem strLe_total (a b : String) : (strLe a b || strLe b a) = true := by
  rw [Bool.or_eq_true]
  unfold strLe
  rw [decide_eq_true_iff, decide_eq_true_iff]
  exact List.le_total _ _
theorem strLe_trans (a b c : String) (h1 : strLe a b = true) (h2 : strLe b c = true) : strLe a c = true := by
  unfold strLe at *
  rw [decide_eq_true_iff] at *
  exact List.le_trans h1 h2
theorem strLe_antisymm (a b : String) (h1 : strLe a b = true) (h2 : strLe b a = true) : a = b := by
  unfold strLe at *
  rw [decide_eq_true_iff] at *
  exact String.toList_inj.mp (map_inj_char (List.le_antisymm h1 h2))
theorem rising_pair : ∀ (ys : List String) (x : String), risingS (Str.ofString x) (ys.map Str.ofString) = true → (x :: ys).Pairwise (fun a b => strLe a b = true)
  | [], x, _ => by simp
  | y :: ys, x, h => by
    have h' : (!ltCps (Str.ofString y).cps.toList (Str.ofString x).cps.toList && risingS (Str.ofString y) (ys.map Str.ofString)) = true := h
    rw [Bool.and_eq_true, Bool.not_eq_true', ofString_cps, ofString_cps] at h'
    have ih := rising_pair ys y h'.2
    have hxy : strLe x y = true := by
      rw [strLe_iff, ← ltCps_iff, h'.1]; simp
    refine List.pairwise_cons.mpr ⟨fun z hz => ?_, ih⟩
    rcases List.mem_cons.mp hz with e | hz
    · rw [e]; exact hxy
    · exact strLe_trans _ _ _ hxy ((List.pairwise_cons.mp ih).1 z hz)
theorem sorted_pair : ∀ ys : List String, sortedS (ys.map Str.ofString) = true → ys.Pairwise (fun a b => strLe a b = true)
  | [], _ => List.Pairwise.nil
  | y :: ys, h => rising_pair ys y h
theorem perm_sorted_eq {r : String → String → Bool} (anti : ∀ a b, r a b = true → r b a = true → a = b) : ∀ {xs ys : List String}, xs.Perm ys → xs.Pairwise (fun a b => r a b = true) → ys.Pairwise (fun a b => r a b = true) → xs = ys
  | [], ys, p, _, _ => (List.nil_perm.mp p).symm
  | x :: xs, [], p, _, _ => absurd p.length_eq (by simp)
  | x :: xs, y :: ys, p, h1, h2 => by
    obtain ⟨a1, a2⟩ := List.pairwise_cons.mp h1
    obtain ⟨b1, b2⟩ := List.pairwise_cons.mp h2
    have e : x = y := by
      have hx : x ∈ y :: ys := p.mem_iff.mp (List.mem_cons_self)
      have hy : y ∈ x :: xs := p.mem_iff.mpr (List.mem_cons_self)
      rcases List.mem_cons.mp hx with e | hx
      · exact e
      · rcases List.mem_cons.mp hy with e | hy
        · exact e.symm
        · exact anti _ _ (a1 y hy) (b1 x hx)
    subst e
    rw [perm_sorted_eq anti ((List.perm_cons x).mp p) a2 b2]
theorem sortS_of {xs ys : List String} (p : ys.Perm xs) (h : sortedS (ys.map Str.ofString) = true) : ys = sortS xs := by
  unfold sortS
  refine perm_sorted_eq strLe_antisymm (p.trans (List.mergeSort_perm xs _).symm) (sorted_pair ys h) ?_
  exact List.pairwise_mergeSort (fun a b c => strLe_trans a b c) (fun a b => strLe_total a b) xs
theorem of_perm_map : ∀ {zs : List Str} {xs : List String}, zs.Perm (xs.map Str.ofString) → ∃ ys : List String, zs = ys.map Str.ofString ∧ ys.Perm xs := fun {zs xs} p => by
  have hm : ∀ z ∈ zs, ∃ y ∈ xs, Str.ofString y = z := fun z hz => List.mem_map.mp (p.mem_iff.mp hz)
  have : ∀ l : List Str, (∀ z ∈ l, ∃ y, Str.ofString y = z) → ∃ ys : List String, l = ys.map Str.ofString := fun l => by
    induction l with
    | nil => intro _; exact ⟨[], rfl⟩
    | cons z l ih =>
      intro h
      obtain ⟨y, hy⟩ := h z (List.mem_cons_self)
      obtain ⟨ys, e⟩ := ih fun w hw => h w (List.mem_cons_of_mem _ hw)
      exact ⟨y :: ys, by simp [hy, e]⟩
  obtain ⟨ys, e⟩ := this zs fun z hz => let ⟨y, _, h⟩ := hm z hz; ⟨y, h⟩
  refine ⟨ys, e, ?_⟩
  rw [e] at p
  have p2 := p.map (fun z : Str => String.ofList (z.cps.toList.map Char.ofNat))
  have hid : ∀ s : String, String.ofList ((Str.ofString s).cps.toList.map Char.ofNat) = s := fun s => by
    rw [ofString_cps, List.map_map]
    have : (Char.ofNat ∘ Char.toNat) = id := by funext c; simp
    rw [this, List.map_id, String.ofList_toList]
  rw [List.map_map, List.map_map] at p2
  have e2 : ((fun z : Str => String.ofList (z.cps.toList.map Char.ofNat)) ∘ Str.ofString) = id := by funext s; exact hid s
  rw [e2, List.map_id, List.map_id] at p2
  exact p2

section
variable {X : Cx}
theorem len_ok : CallR X (.builtin "len") (rBi (Gd X) biLen) := by
  intro pins s σ H xs us Q I rv h
  obtain ⟨φ, A, ds, r, A', hr, rs, he, q⟩ := h
  unfold biLen at he
  split at he
  · obtain ⟨x, rfl, rx⟩ := rs.one
    obtain ⟨a, vs, rfl, hq, r1⟩ := rx
    cases he
    exact call_len_seq pins s σ H _ us Q I rv ⟨a, vs, rfl, .inr hq, q.here hr (by rw [r1.length]; rfl)⟩
  · obtain ⟨x, rfl, rx⟩ := rs.one
    obtain ⟨a, ea, rfl⟩ := rx
    split at he
    · rename_i kvs hk
      cases he
      obtain ⟨ks, h1, h2⟩ := hr.dctL hk ea
      obtain ⟨u, rfl, ru⟩ := Vals.one rv
      cases ru
      exact d_len I h1 fun t s' I' => ⟨.int ks.length, H, I', ⟨t, rfl⟩, q.here hr (by rw [h2.length]; rfl)⟩
    · split at he
      · rename_i xs hx
        cases he
        obtain ⟨vs, e1, r1⟩ := hr.seq hx ea
        exact call_len_seq pins s σ H _ us Q I rv ⟨a, vs, rfl, .inl (.of e1), q.here hr (by rw [r1.length]; rfl)⟩
      · cases he
  · cases he
theorem tuple_ok : CallR X (.type "tuple") (rBi (Gd X) biTuple) := by
  intro pins s σ H xs us Q I rv h
  obtain ⟨φ, A, ds, r, A', hr, rs, he, q⟩ := h
  unfold biTuple at he
  split at he
  · obtain ⟨x, rfl, rx⟩ := rs.one
    obtain ⟨a, vs, rfl, hq, r1⟩ := rx
    cases he
    exact call_tuple_of pins s σ H _ us Q I rv ⟨a, vs, rfl, .inr ⟨hq, q.here hr ⟨a, vs, rfl, hq, r1⟩⟩⟩
  · obtain ⟨x, rfl, rx⟩ := rs.one
    obtain ⟨a, ea, rfl⟩ := rx
    split at he
    · rename_i xs hx
      cases he
      obtain ⟨vs, e1, r1⟩ := hr.seq hx ea
      exact call_tuple_of pins s σ H _ us Q I rv ⟨a, vs, rfl, .inl ⟨.of e1, fun p hp => q.tup hr hp r1⟩⟩
    · cases he
  · cases he
theorem list_ok : CallR X (.type "list") (rBi (Gd X) biList) := by
  intro pins s σ H xs us Q I rv h
  obtain ⟨φ, A, ds, r, A', hr, rs, he, q⟩ := h
  unfold biList at he
  split at he
  · obtain ⟨x, rfl, rx⟩ := rs.one
    obtain ⟨a, vs, rfl, hq, r1⟩ := rx
    cases he
    exact call_list_of pins s σ H _ us Q I rv ⟨a, vs, rfl, .inr hq, fun p hp => q.new hr hp ⟨_, rfl, r1⟩⟩
  · obtain ⟨x, rfl, rx⟩ := rs.one
    obtain ⟨a, ea, rfl⟩ := rx
    split at he
    · rename_i xs hx
      cases he
      obtain ⟨vs, e1, r1⟩ := hr.seq hx ea
      exact call_list_of pins s σ H _ us Q I rv ⟨a, vs, rfl, .inl (.of e1), fun p hp => q.new hr hp ⟨_, rfl, r1⟩⟩
    · cases he
  · cases he
theorem dict_ok : CallR X (.type "dict") (rBi (Gd X) biDict) := by
  intro pins s σ H xs us Q I rv h
  obtain ⟨φ, A, ds, r, A', hr, rs, he, q⟩ := h
  unfold biDict at he
  split at he
  · obtain ⟨x, rfl, rx⟩ := rs.one
    obtain ⟨a, ea, rfl⟩ := rx
    split at he
    · rename_i kvs hk
      cases he
      obtain ⟨ks, h1, h2⟩ := hr.dctL hk ea
      obtain ⟨u, rfl, ru⟩ := Vals.one rv
      cases ru
      exact d_copyOf I h1 fun p s' hp I' => ⟨.ref p, _, I', rfl, q.new hr hp ⟨_, rfl, h2⟩⟩
    · cases he
  · cases he
theorem int_ok : CallR X (.type "int") (rBi (Gd X) biInt) := by
  intro pins s σ H xs us Q I rv h
  obtain ⟨φ, A, ds, r, A', hr, rs, he, q⟩ := h
  unfold biInt at he
  split at he
  · obtain ⟨x, rfl, rx⟩ := rs.one
    cases he; cases rx
    exact call_int1 pins s σ H _ us Q I rv (.inl ⟨_, rfl, q.here hr rfl⟩)
  · obtain ⟨x, rfl, rx⟩ := rs.one
    cases he; cases rx
    exact call_int1 pins s σ H _ us Q I rv (.inr ⟨_, rfl, q.here hr rfl⟩)
  · cases he
theorem abs_ok : CallR X (.builtin "abs") (rBi (Gd X) biAbs) := by
  intro pins s σ H xs us Q I rv h
  obtain ⟨φ, A, ds, r, A', hr, rs, he, q⟩ := h
  unfold biAbs at he
  split at he
  · obtain ⟨x, rfl, rx⟩ := rs.one
    cases he; cases rx
    exact call_abs pins s σ H _ us Q I rv ⟨_, rfl, q.here hr rfl⟩
  · cases he
theorem sum_ok (hc : X.calm = true) : CallR X (.builtin "sum") (rBi (Gd X) biSum) := by
  intro pins s σ H xs us Q I rv h
  obtain ⟨φ, A, ds, r, A', hr, rs, he, q⟩ := h
  unfold biSum at he
  split at he
  · obtain ⟨x, rfl, rx⟩ := rs.one
    obtain ⟨a, ea, rfl⟩ := rx
    split at he
    · rename_i ns hn
      cases he
      obtain ⟨xs, hx, hn⟩ := Option.bind_eq_some_iff.mp hn
      obtain ⟨vs, e1, r1⟩ := hr.seq hx ea
      rw [ints_rep hn r1] at e1
      exact cr_sum hc pins s σ H _ us Q I rv ⟨a, ns, rfl, .of e1, q.here hr rfl⟩
    · cases he
  · cases he
theorem keys_strs {G : Md} {φ : Ph} {H : Hp} : ∀ {kvs : List (D × D)} {ks : List (Key × V)} {ss : List String}, KReps G φ H kvs ks → strsOf (kvs.map (·.1)) = some ss → ks.map (·.1) = (ss.map Str.ofString).map Sum.inr
  | [], ks, ss, r, h => by cases h; rw [show ks = [] from r]; rfl
  | (k, d) :: kvs, ks, ss, r, h => by
    obtain ⟨j, v, t, rfl, r0, r1, r2⟩ := r
    cases k <;> first | (cases h; done) | skip
    rename_i z
    have h : (strsOf (kvs.map (·.1))).map (z :: ·) = some ss := h
    obtain ⟨ms, h1, rfl⟩ := Option.map_eq_some_iff.mp h
    have ih := keys_strs r2 h1
    cases j with
    | inl i => exact r0.elim
    | inr x => cases r0; simp [ih]
theorem sorted_ok (hc : X.calm = true) : CallR X (.builtin "sorted") (rBi (Gd X) biSorted) := by
  intro pins s σ H xs us Q I rv h
  obtain ⟨φ, A, ds, r, A', hr, rs, he, q⟩ := h
  unfold biSorted at he
  split at he
  · obtain ⟨x, rfl, rx⟩ := rs.one
    obtain ⟨a, ea, rfl⟩ := rx
    split at he
    · rename_i kvs hk
      split at he
      · rename_i ss hss
        split at he
        · rename_i hl
          cases he
          obtain ⟨ks, h1, h2⟩ := hr.dctL hk ea
          refine call_sortedD hc pins s σ H _ us Q I rv ⟨a, ks, ss.map Str.ofString, rfl, h1, keys_strs h2 hss, by simpa using hl, fun ys p hp hs hn => ?_⟩
          obtain ⟨zs, rfl, hz⟩ := of_perm_map hp
          rw [sortS_of hz hs]
          exact q.new hr hn ⟨_, rfl, strs_reps _⟩
        · cases he
      · cases he
    · split at he
      · rename_i ss hss
        split at he
        · rename_i hl
          cases he
          obtain ⟨xs, hx, hss⟩ := Option.bind_eq_some_iff.mp hss
          obtain ⟨vs, e1, r1⟩ := hr.seq hx ea
          rw [strs_rep hss r1] at e1
          refine cr_sortedS pins s σ H _ us Q I rv ⟨a, ss.map Str.ofString, rfl, .of e1, by simpa using hl, fun ys p hp hs hn => ?_⟩
          obtain ⟨zs, rfl, hz⟩ := of_perm_map hp
          rw [sortS_of hz hs]
          exact q.new hr hn ⟨_, rfl, strs_reps _⟩
        · cases he
      · cases he
  · cases he
end
end Ev

/-! ## EvVal4 -/
/-! EvVal4: isinstance; methods. -/
namespace Ev
open PySem PySem.Spec PyProof.Rows L2
section
variable {X : Cx}
/-- the built-in names that the text does not hide -/
def FreeB (mg : Str → Option Value) : Prop := ∀ t : String, t ∈ tyNames → mg (Str.ofString t) = none
theorem ty_of {G : Md} {φ : Ph} {H : Hp} {A : AH} {d : D} {x : V} {n : String} (hr : HR G φ H A) (r : Rep G φ H d x) (h : tyName A d = some n) : TyX G.K H x (.type n) ∧ n ∈ "NoneType" :: tyNames := by
  unfold tyName at h
  split at h
  · cases h; cases r; exact ⟨.base .non, by decide⟩
  · cases h; cases r; exact ⟨.base (.bl _), by decide⟩
  · cases h; cases r; exact ⟨.base (.int _), by decide⟩
  · cases h; cases r; exact ⟨.base (.str _), by decide⟩
  · cases h
    obtain ⟨a, vs, rfl, hq, _⟩ := r
    refine ⟨?_, by decide⟩
    rcases hq with (q | ⟨o, q⟩) | ⟨o, its, m, q, c, _⟩
    · exact .base (.tup q)
    · exact .fTuple q
    · exact .kTuple q c
  · obtain ⟨a, ea, rfl⟩ := r
    split at h
    · rename_i xs hx
      cases h
      obtain ⟨vs, e1, _⟩ := hr.lst hx ea
      exact ⟨.base (.lst e1), by decide⟩
    · rename_i kvs hx
      cases h
      obtain ⟨ks, e1, _⟩ := hr.dct hx ea
      exact ⟨.base (.dK e1), by decide⟩
    · rename_i kvs hx
      cases h
      obtain ⟨ho, e1, o, ks, rfl, _⟩ := hr.at_ _ _ _ ea hx
      exact ⟨.fDict e1, by decide⟩
    · cases h
  · cases h
theorem kit_all : ∀ n ∈ "NoneType" :: tyNames, ∀ t ∈ tyNames, kitB n t = some (n == t || (n == "bool" && t == "int")) := by decide +kernel
theorem boot_ty : ∀ t ∈ tyNames, bootBuiltins (Str.ofString t) = some (.type t) := by decide +kernel
theorem isi_ok (hf : FreeB X.mg) : CallR X (.builtin "isinstance") (rBi (Gd X) biIsi) := by
  intro pins s σ H xs us Q I rv h
  obtain ⟨φ, A, ds, r, A', hr, rs, he, q⟩ := h
  unfold biIsi at he
  split at he
  · rename_i d t
    obtain ⟨x, c, rfl, rx, rc⟩ := rs.two
    cases hb : isA A d t with
    | none => rw [hb] at he; cases he
    | some b =>
      rw [hb] at he
      cases he
      unfold isA at hb
      split at hb
      · rename_i n hn
        split at hb
        · rename_i ht
          cases hb
          have ht : t ∈ tyNames := by simpa using ht
          obtain ⟨ty, hm⟩ := ty_of hr rx hn
          obtain ⟨u, ru, hu⟩ := rc
          have e : u = .type t := by
            rcases hu with hu | ⟨_, hu⟩
            · have := hf t ht
              rw [show X.mg (Str.ofString t) = some u from hu] at this; cases this
            · rw [boot_ty t ht] at hu; exact (Option.some.inj hu).symm
          subst e
          have ec : c = .ty t := ru.inj (show RelV (.ty t) _ from rfl)
          subst ec
          exact call_isi pins s σ H _ us Q I rv ⟨x, .ty t, .type n, .type t, _, rfl, .ty t, ty, kit_ty (kit_all n hm t ht), q.here hr rfl⟩
        · cases hb
      · cases hb
  · cases he

/-! ### methods: by the receiver's address -/
abbrev MF := AH → Nat → List D → Res D
def rMt (G : Md) (f : MF) : V → List V → Hp → VK → Prop := fun x xs H Q => ∃ φ A n ds r A', HR G φ H A ∧ Rep G φ H (.ref n) x ∧ Reps G φ H ds xs ∧ f A n ds = .ok r A' ∧ VC G φ H Q r A'
theorem append_ok : MtM X "list.append" (rMt (Gd X) mtAppend) := by
  intro pins s σ H x xs v us Q I rx rv h
  obtain ⟨φ, A, n, ds, r, A', hr, rd, rs, he, q⟩ := h
  obtain ⟨a, ea, rfl⟩ := rd
  unfold mtAppend at he
  split at he
  · obtain ⟨y, rfl, ry⟩ := rs.one
    split at he
    · rename_i ys hx
      split at he
      · rename_i hl
        cases he
        obtain ⟨vs, e1, r1⟩ := hr.lst hx ea
        exact mt_append pins s σ H _ _ v us Q I rx rv ⟨a, vs, y, rfl, rfl, e1, by rw [r1.length]; exact hl, q.set hr ea (.lst e1) ⟨_, rfl, r1.append (.cons ry .nil)⟩ rfl⟩
      · cases he
    · cases he
  · cases he
theorem extend_ok : MtM X "list.extend" (rMt (Gd X) mtExtend) := by
  intro pins s σ H x xs v us Q I rx rv h
  obtain ⟨φ, A, n, ds, r, A', hr, rd, rs, he, q⟩ := h
  obtain ⟨a, ea, rfl⟩ := rd
  unfold mtExtend at he
  split at he
  · obtain ⟨y, rfl, ry⟩ := rs.one
    obtain ⟨b, eb, rfl⟩ := ry
    split at he
    · rename_i ys zs h1 h2
      split at he
      · rename_i hl
        cases he
        obtain ⟨vs, e1, r1⟩ := hr.lst h1 ea
        obtain ⟨ws, e2, r2⟩ := hr.lst h2 eb
        exact mt_extend pins s σ H _ _ v us Q I rx rv ⟨a, b, vs, ws, rfl, rfl, e1, e2, by rw [r1.length, r2.length]; exact hl, q.set hr ea (.lst e1) ⟨_, rfl, r1.append r2⟩ rfl⟩
      · cases he
    · cases he
  · cases he
theorem lpop_ok : MtM X "list.pop" (rMt (Gd X) mtLPop) := by
  intro pins s σ H x xs v us Q I rx rv h
  obtain ⟨φ, A, n, ds, r, A', hr, rd, rs, he, q⟩ := h
  obtain ⟨a, ea, rfl⟩ := rd
  unfold mtLPop at he
  split at he
  · have rs' : xs = [] := rs
    subst rs'
    unfold mtPop at he
    dsimp only at he
    split at he
    · rename_i ys h1
      split at he
      · rename_i y hy
        cases he
        obtain ⟨vs, e1, r1⟩ := hr.lst h1 ea
        rw [List.getLast?_eq_getElem?] at hy
        obtain ⟨w, hw, rw'⟩ := r1.get hy
        exact mt_pop pins s σ H _ _ v us Q I rx rv ⟨a, vs, w, rfl, rfl, e1, by rw [r1.length]; exact hw, q.set hr ea (.lst e1) ⟨_, rfl, r1.dropLast⟩ rw'⟩
      · cases he
    · cases he
  · cases he
theorem get_ok (hu : X.A.units + 64 < cLine) : MtM X "dict.get" (rMt (Gd X) mtGet) := by
  intro pins s σ H x xs v us Q I rx rv h
  obtain ⟨φ, A, n, ds, r, A', hr, rd, rs, he, q⟩ := h
  obtain ⟨a, ea, rfl⟩ := rd
  cases (show v = Value.ref a from rx)
  unfold mtGet at he
  split at he
  · obtain ⟨y, rfl, ry⟩ := rs.one
    obtain ⟨u, rfl, ru⟩ := Vals.one rv
    split at he
    · rename_i kvs hk
      split at he
      · rename_i hkk
        cases he
        have hk' : Ev.dctL A n = some kvs := by unfold Ev.dctL; rw [hk]
        rcases hr.dgetL hk' ea hkk ry with ⟨d', v', q1, q2, q3⟩ | ⟨q1, q2⟩
        · rw [q1] at q
          exact d_get1 (by omega) I q2 ru fun w' s' I' rw' => ⟨v', H, I', rw', q.here hr q3⟩
        · rw [q1] at q
          exact d_get1 (by omega) I q2 ru fun w' s' I' rw' => ⟨.non, H, I', rw', q.here hr rfl⟩
      · cases he
    · cases he
  · obtain ⟨y, z, rfl, ry, rz⟩ := rs.two
    obtain ⟨u, u2, rfl, ru, ru2⟩ := Vals.two rv
    split at he
    · rename_i kvs hk
      split at he
      · rename_i hkk
        cases he
        have hk' : Ev.dctL A n = some kvs := by unfold Ev.dctL; rw [hk]
        rcases hr.dgetL hk' ea hkk ry with ⟨d', v', q1, q2, q3⟩ | ⟨q1, q2⟩
        · rw [q1] at q
          exact d_get2 (by omega) I q2 ru ru2 fun w' s' I' rw' => ⟨v', H, I', rw', q.here hr q3⟩
        · rw [q1] at q
          exact d_get2 (by omega) I q2 ru ru2 fun w' s' I' rw' => ⟨z, H, I', rw', q.here hr rz⟩
      · cases he
    · cases he
  · cases he
theorem dpop_ok : MtM X "dict.pop" (rMt (Gd X) mtDPop) := by
  intro pins s σ H x xs v us Q I rx rv h
  obtain ⟨φ, A, n, ds, r, A', hr, rd, rs, he, q⟩ := h
  obtain ⟨a, ea, rfl⟩ := rd
  cases (show v = Value.ref a from rx)
  unfold mtDPop at he
  split at he
  · obtain ⟨y, z, rfl, ry, rz⟩ := rs.two
    obtain ⟨u, u2, rfl, ru, ru2⟩ := Vals.two rv
    unfold mtPop at he
    dsimp only at he
    split at he
    · rename_i kvs hk
      split at he
      · rename_i hkk
        obtain ⟨ks, h1, h2⟩ := hr.dct hk ea
        obtain ⟨j, rfl, hj⟩ := KR.key hkk ry
        rcases h2.get hj with ⟨d', v', q1, q2, q3⟩ | ⟨q1, q2⟩
        · rw [q1] at he
          cases he
          exact d_pop I h1 ru q2 (.inr ⟨u2, rfl⟩) fun w' s' I' rw' => ⟨v', _, I', rw', q.set hr ea (.dK h1) ⟨_, rfl, h2.drop hj⟩ q3⟩
        · rw [q1] at he
          cases he
          exact d_popD I h1 ru q2 fun s' I' => ⟨z, H, I', ru2, q.here hr rz⟩
      · cases he
    · cases he
  · cases he
theorem update_ok : MtM X "dict.update" (rMt (Gd X) mtUpdate) := by
  intro pins s σ H x xs v us Q I rx rv h
  obtain ⟨φ, A, n, ds, r, A', hr, rd, rs, he, q⟩ := h
  obtain ⟨a, ea, rfl⟩ := rd
  cases (show v = Value.ref a from rx)
  unfold mtUpdate at he
  split at he
  · rename_i b
    obtain ⟨y, rfl, ry⟩ := rs.one
    obtain ⟨c, eb, rfl⟩ := ry
    obtain ⟨u, rfl, ru⟩ := Vals.one rv
    cases (show u = Value.ref c from ru)
    split at he
    · cases he
    · rename_i hbn
      split at he
      · rename_i kvs more h1 h2
        split at he
        · rename_i hl
          cases he
          obtain ⟨ks, e1, r1⟩ := hr.dct h1 ea
          obtain ⟨ms, e2, r2⟩ := hr.dct h2 eb
          obtain ⟨z1, hd1, vs1, rel1, dd1⟩ := dk_of I.hok e1
          obtain ⟨z2, hd2, vs2, rel2, dd2⟩ := dk_of I.hok e2
          have hac : a ≠ c := fun e => hbn (hr.inj b n c eb (by rw [← e]; exact ea))
          have hsz : ks.length + ms.length ≤ sizeLine := by rw [r1.length, r2.length]; exact hl
          refine call_meetsIn PySem.F.slot_dict_update dd1.typeIs PySem.F.entry_dict_update (PySem.F.args_dict_update_2 _ _) (meets_dict_update (mixKind X.prog X.w) a c hac hd2)
            ⟨vs1, vs2, dd1, dd2, (by rw [← rel1.length, ← rel2.length]; exact hsz), fun h' dd' _ hs => ?_⟩
          have he : ∃ q, h'.get? a = some q := let ⟨q, _, _, hq, _⟩ := dd'; ⟨q, hq⟩
          have hl2 : (mergeK ks ms).length ≤ sizeLine := Nat.le_trans (length_mergeK ms ks) (by omega)
          exact ⟨.non, _, d_write (t' := s.toks) I (by rw [e1]; exact True.intro) hs he (dk_new hl2 hd1 (KV.merge rel2 rel1) dd'), rfl, q.set hr ea (.dK e1) ⟨_, rfl, r2.merge r1⟩ rfl⟩
        · cases he
      · cases he
  · cases he
end
end Ev

/-! ## EvIt -/
/-! EvIt: what is walked: lists, tuples, dicts, ranges; enumerate and zip of lists and tuples in any mix. -/
namespace PySem
open Sem (wp)
open Calls
theorem ev_meets_enum1 {v : Value} {o : Obj} {H : Heap → Prop} (B : Begins v o H) :
    Meets (Builtin.«enumerate.__new__» ⟨[.type "enumerate", v], []⟩) (fun _ R s => H s.heap ∧
      R (.ok (.ret (.ref (s.heap.push o).objs.size))) { s with heap := (s.heap.push o).push { cls := .type "enumerate", data := .fields #[.none, .bool false, .ref s.heap.objs.size, rawInt 0, .none, .none] } }) :=
  .of_wp fun prog w A R s h => by
    obtain ⟨hp, g, d, tk, os⟩ := s; obtain ⟨h1, h⟩ := h
    have hsub := sub_enumerate
    have q1 : ∀ {A' : Around} {E : Value → Shared → Prop} {Q : Value → Shared → Prop}, Q (.ref hp.objs.size) ⟨hp.push o, g, d, tk, os⟩ → wpAny (model prog w) A' (pyIter v) Q E ⟨hp, g, d, tk, os⟩ :=
      fun q => B.iter prog w _ _ ⟨hp, g, d, tk, os⟩ _ h1 q
    wp_walk using q1
    refine wpAny_stack_any fun st => wpAny_pure ?_
    split
    · rename_i c _ _ _ _ _
      cases (c == Value.type "enumerate")
      · wp_walk using q1
        exact ⟨_, rfl, h⟩
      · wp_walk using q1
        exact ⟨_, rfl, h⟩
    · wp_walk using q1
      exact ⟨_, rfl, h⟩
theorem ev_enum1_begins {prog : Program} {w : World} {A : Around} {E : Value → Shared → Prop} {s : Shared} {v : Value} {o : Obj} {H : Heap → Prop} {Q : Value → Shared → Prop} (B : Begins v o H) (h1 : H s.heap)
    (h : ∀ h', IsEnum h' (s.heap.objs.size + 1) s.heap.objs.size 0 .none → h'.get? s.heap.objs.size = some o → h'.objs.size = s.heap.objs.size + 2 →
      (∀ b o, s.heap.get? b = some o → h'.get? b = some o) → Q (.ref (s.heap.objs.size + 1)) { s with heap := h' }) :
    wpAny (model prog w) A (call (.type "enumerate") [v]) Q E s := by
  refine callType_new F.called_enumerate (by decide) (F.typeCall_enumerate_1 _) (F.newCall_enumerate_1 _) (fun obj => F.args_object_init_2 obj _) F.entry_enumerate_new
    (ev_meets_enum1 B) ⟨h1, ?_⟩
  have hz : (s.heap.push o).objs.size = s.heap.objs.size + 1 := Heap.size_push ..
  show _ ∧ _
  rw [hz]
  have he : IsEnum ((s.heap.push o).push { cls := .type "enumerate", data := .fields #[.none, .bool false, .ref s.heap.objs.size, rawInt 0, .none, .none] }) (s.heap.objs.size + 1) s.heap.objs.size 0 .none := by
    have := Heap.get?_push_size (s.heap.push o) (o := { cls := .type "enumerate", data := .fields #[.none, .bool false, .ref s.heap.objs.size, rawInt 0, .none, .none] }) rfl
    rw [hz] at this; exact this
  refine ⟨⟨_, he, rfl⟩, h _ he (Heap.get?_push_of_some _ (Heap.get?_push_size _ B.free)) (by rw [Heap.size_push, hz]) fun b o x => Heap.get?_push_of_some _ (Heap.get?_push_of_some _ x)⟩
end PySem

namespace Ev
open PySem PySem.Spec PyProof.Rows L2

/-! ### sources: lists and tuples -/
def SqB (b : Bool) (K : PySem.W.Frag) (H : Hp) (a : Addr) (xs : List V) : Prop := match b with
  | true => SqT K H a xs
  | false => SqL K H a xs
def ItB (b : Bool) (h : Heap) (it a : Addr) (i : Nat) : Prop := match b with
  | true => h.IsTupleIter it a i
  | false => h.IsListIter it a i
def SqH (b : Bool) (h : Heap) (a : Addr) (its : Array Value) : Prop := match b with
  | true => h.IsTuple a its
  | false => h.IsList a its
theorem drawsB (b : Bool) {prog : Program} {w : World} {A : Around} (hh : A.handled = none) (it l : Addr) (hne : l ≠ it) (items : Array Value) :
    Draws prog w A it [it, l] items.size (fun i v => items[i]? = some v) (fun i h => ItB b h it l i ∧ SqH b h l items) := by
  cases b with
  | true => exact Draws.tuple hh it l hne items
  | false => exact Draws.list hh it l hne items
theorem ItB.obj {b : Bool} {h : Heap} {it a : Addr} {i : Nat} (x : ItB b h it a i) : ∃ o, h.get? it = some o ∧ ∀ v, o.data ≠ .cell v := by
  cases b with
  | true => obtain ⟨o, e, c, d⟩ := x; exact ⟨o, e, fun v z => by rw [d] at z; cases z⟩
  | false => obtain ⟨o, e, c, d⟩ := x; exact ⟨o, e, fun v z => by rw [d] at z; cases z⟩
theorem ItB.at {b : Bool} {h h' : Heap} {it a : Addr} {i : Nat} (x : ItB b h it a i) (k : ∀ o, h.get? it = some o → h'.get? it = some o) : ItB b h' it a i := by
  cases b with
  | true => exact Heap.IsTupleIter.at x k
  | false => exact Heap.IsListIter.at x k
theorem SqH.lt {b : Bool} {h : Heap} {a : Addr} {its : Array Value} (x : SqH b h a its) : a < h.objs.size := by
  cases b with
  | true => obtain ⟨o, e, _⟩ := x; exact Heap.lt_size e
  | false => obtain ⟨o, e, _⟩ := x; exact Heap.lt_size e
section
variable {X : Cx} {pins : List (Addr × Obj)} {σ : L2.St} {H : Hp} {s : Shared} {a : Addr} {xs ys : List V} {b : Bool}
theorem Inv.src (I : L2.Inv X pins σ H s) (h : SqB b X.K H a xs) : ∃ its : List Value, Vals xs its ∧ SqH b s.heap a its.toArray := by
  cases b with
  | true => obtain ⟨its, r, p, _⟩ := I.tuple h; exact ⟨its, r, p⟩
  | false => obtain ⟨its, r, p, _⟩ := I.list h; exact ⟨its, r, p.isList⟩
theorem Inv.src_inj (I : L2.Inv X pins σ H s) (h : SqB b X.K H a xs) (h' : SqB b X.K H a ys) : xs = ys := by
  cases b with
  | true => exact I.tuple_inj h h'
  | false => exact I.list_inj h h'
end
def ItzB (b c : Bool) (K : PySem.W.Frag) (x y : Addr) : It :=
  ⟨fun i H => ∃ (xs ys : List V) (u v : V), SqB b K H x xs ∧ SqB c K H y ys ∧ xs[i]? = some u ∧ ys[i]? = some v,
    fun i H w H' => ∃ T u v, w = .ref T ∧ H T = none ∧ H' = upd H T (.tup [u, v]) ∧ (∀ xs, SqB b K H x xs → xs[i]? = some u) ∧ ∀ ys, SqB c K H y ys → ys[i]? = some v,
    fun i H => ∃ xs ys : List V, SqB b K H x xs ∧ SqB c K H y ys ∧ min xs.length ys.length = i⟩
def IteB (b : Bool) (K : PySem.W.Frag) (x : Addr) : It :=
  ⟨fun i H => ∃ (xs : List V) (u : V), SqB b K H x xs ∧ xs[i]? = some u, fun i H w H' => ∃ T u, w = .ref T ∧ H T = none ∧ H' = upd H T (.tup [.int (i : Nat), u]) ∧ ∀ xs, SqB b K H x xs → xs[i]? = some u,
    fun i H => ∃ xs : List V, SqB b K H x xs ∧ xs.length = i⟩
structure Apart2 (z TI TO i1 i2 a1 a2 : Addr) : Prop where
  sep : ZipSep2 z TI TO i1 i2 [i1, a1] [i2, a2]
  n1 : a1 ≠ i1
  n2 : a2 ≠ i2
theorem size_vals {xs : List V} {its : List Value} (r : Vals xs its) : its.toArray.size = xs.length := by rw [List.size_toArray]; exact r.length.symm
theorem turn_zipB {P : Program} {w : World} {K : PySem.W.Frag} {elts : List Expr} {kk : Nat} {tpos : Pos} {b1 b2 : Bool} {a1 a2 z TI TO i1 i2 : Addr} (D : Apart2 z TI TO i1 i2 a1 a2) :
    Turn P w K (.Tuple elts kk tpos) (ItzB b1 b2 K a1 a2) [z, TI, TO, i1, i2] z
      (fun i h => IsZip h z TI TO .none ∧ IsTupOf2 h TI (.ref i1) (.ref i2) ∧ (∃ x y, IsTupOf2 h TO x y) ∧ ItB b1 h i1 a1 i ∧ ItB b2 h i2 a2 i) where
  mem := by simp
  obj := fun i h st c hc => by
    obtain ⟨hz, hTI, ⟨x, y, hTO⟩, h1, h2⟩ := st
    have e' : c = z ∨ c = TI ∨ c = TO ∨ c = i1 ∨ c = i2 := by simpa using hc
    rcases e' with q | q | q | q | q
    · rw [q]; exact ⟨_, hz, fun v q => nomatch q⟩
    · rw [q]; exact ⟨_, hTI, fun v q => nomatch q⟩
    · rw [q]; exact ⟨_, hTO, fun v q => nomatch q⟩
    · rw [q]; exact h1.obj
    · rw [q]; exact h2.obj
  keep := fun i h h' st k => by
    obtain ⟨hz, hTI, ⟨x, y, hTO⟩, h1, h2⟩ := st
    exact ⟨k z (by simp) _ hz, k TI (by simp) _ hTI, ⟨x, y, k TO (by simp) _ hTO⟩, h1.at fun o q => k i1 (by simp) o q, h2.at fun o q => k i2 (by simp) o q⟩
  item := by
    intro X hP hw hK hc i pins s σ H E I hf st hg
    subst hP hw hK
    obtain ⟨hz, hTI, hTO, h1, h2⟩ := st
    obtain ⟨xs, ys, x, y, hqx, hqy, hx, hy⟩ := hg
    obtain ⟨its, rv, p⟩ := Inv.src I hqx
    obtain ⟨its2, rv2, p2⟩ := Inv.src I hqy
    obtain ⟨u, hu, ru⟩ := rv.get hx
    obtain ⟨u2, hu2, ru2⟩ := rv2.get hy
    have hh : X.A.in1.handled = none := I.ok.hd hc
    have W := WalksT.zipD2 D.sep (drawsB b1 (prog := X.prog) (w := X.w) hh i1 a1 D.n1 its.toArray) (drawsB b2 (prog := X.prog) (w := X.w) hh i2 a2 D.n2 its2.toArray)
    have li : i < min its.toArray.size its2.toArray.size := by
      rw [size_vals rv, size_vals rv2]
      have e1 := (List.getElem?_eq_some_iff.mp hx).1
      have e2 := (List.getElem?_eq_some_iff.mp hy).1
      omega
    refine W.item i s _ _ li ⟨hz, hTI, hTO, ⟨h1, p⟩, ⟨h2, p2⟩⟩ fun T vals h' tk hv hT hI hm kk => ?_
    obtain ⟨v1, v2, q1, q2, rfl⟩ := hv
    have q1' : its[i]? = some v1 := by simpa using q1
    have q2' : its2[i]? = some v2 := by simpa using q2
    rw [hu] at q1'; cases q1'
    rw [hu2] at q2'; cases q2'
    have ap := W.apart i T h' hm
    refine ⟨_, rfl, W.go elts _ tpos i T { s with heap := h', toks := tk } _ _ hm fun h'' st' kk2 => ?_⟩
    obtain ⟨oT, eT, cT, nT, dT⟩ := hI
    have hT2 : h''.get? T = some oT := kk2 T oT ap eT
    have new : ObjOk X.prog X.w (upd H T (.tup [x, y])) h'' T (.tup [x, y]) :=
      ⟨by show 2 ≤ sizeLine; decide, [u, u2], .cons ru (.cons ru2 .nil), ⟨oT, hT2, cT, nT, dT⟩⟩
    have I1 : L2.Inv X pins σ (upd H T (.tup [x, y])) { s with heap := h'', toks := tk } :=
      I.turnedNew (t' := tk) (ch := [z, TI, TO, i1, i2]) (fun c o hb q => by
        have nb : c ∉ [z, TO, i1, i2] := fun hm => hb (by
          have : c = z ∨ c = TO ∨ c = i1 ∨ c = i2 := by simpa using hm
          simp only [List.mem_cons]
          rcases this with e | e | e | e <;> simp [e])
        exact kk2 c o nb (kk c o nb q)) hf hT new
    obtain ⟨z', TI', TO', ⟨h1', _⟩, ⟨h2', _⟩⟩ := st'
    refine ⟨.ref T, _, I1, rfl, ⟨T, x, y, rfl, I.hok.fresh hT, rfl, fun l hl => by rw [Inv.src_inj I hl hqx]; exact hx, fun l hl => by rw [Inv.src_inj I hl hqy]; exact hy⟩, ⟨z', TI', TO', h1', h2'⟩, fun c hcm => ?_⟩
    have hlt : c < s.heap.objs.size := by
      have e' : c = z ∨ c = TI ∨ c = TO ∨ c = i1 ∨ c = i2 := by simpa using hcm
      rcases e' with q | q | q | q | q
      · rw [q]; exact Heap.lt_size hz
      · rw [q]; exact Heap.lt_size hTI
      · rw [q]; obtain ⟨_, _, hTO⟩ := hTO; exact Heap.lt_size hTO
      · rw [q]; obtain ⟨_, e1, _⟩ := h1.obj; exact Heap.lt_size e1
      · rw [q]; obtain ⟨_, e2, _⟩ := h2.obj; exact Heap.lt_size e2
    rw [upd_ne (Nat.ne_of_lt (Nat.lt_of_lt_of_le hlt hT))]
    exact (hf c hcm).1
  done := by
    intro X hP hw hK hc i pins s σ H E I hf st hg
    subst hP hw hK
    obtain ⟨hz, hTI, hTO, h1, h2⟩ := st
    obtain ⟨xs, ys, hqx, hqy, hend⟩ := hg
    obtain ⟨its, rv, p⟩ := Inv.src I hqx
    obtain ⟨its2, rv2, p2⟩ := Inv.src I hqy
    have hh : X.A.in1.handled = none := I.ok.hd hc
    have W := WalksT.zipD2 D.sep (drawsB b1 (prog := X.prog) (w := X.w) hh i1 a1 D.n1 its.toArray) (drawsB b2 (prog := X.prog) (w := X.w) hh i2 a2 D.n2 its2.toArray)
    have hi : i = min its.toArray.size its2.toArray.size := by rw [size_vals rv, size_vals rv2]; exact hend.symm
    subst hi
    refine W.done s _ _ ⟨hz, hTI, hTO, ⟨h1, p⟩, ⟨h2, p2⟩⟩ fun h' tk kk => ⟨rfl, I.turnedL (t' := tk) (ch := [z, TI, TO, i1, i2]) (fun c o hb q => kk c o (fun hm => hb (by
          have : c = z ∨ c = TO ∨ c = i1 ∨ c = i2 := by simpa using hm
          simp only [List.mem_cons]
          rcases this with e | e | e | e <;> simp [e])) q) hf⟩
  self := fun A i s Q E st h => wpAny_pyIter_zip st.1 h
theorem turn_enumB {P : Program} {w : World} {K : PySem.W.Frag} {elts : List Expr} {kk : Nat} {tpos : Pos} {b : Bool} {a e it : Addr} (n1 : e ≠ it) (n2 : a ≠ it) (n3 : e ≠ a) :
    Turn P w K (.Tuple elts kk tpos) (IteB b K a) [e, it] e (fun i h => (∃ old, IsEnum h e it ((i : Nat) : Int) old) ∧ ItB b h it a i) where
  mem := by simp
  obj := fun i h st c hc => by
    obtain ⟨⟨old, he⟩, hi⟩ := st
    have e' : c = e ∨ c = it := by simpa using hc
    rcases e' with z | z
    · rw [z]; exact ⟨_, he, fun v q => nomatch q⟩
    · rw [z]; exact hi.obj
  keep := fun i h h' st k => let ⟨⟨old, he⟩, hi⟩ := st; ⟨⟨old, k e (by simp) _ he⟩, hi.at fun o q => k it (by simp) o q⟩
  item := by
    intro X hP hw hK hc i pins s σ H E I hf st hg
    subst hP hw hK
    obtain ⟨he, hi⟩ := st
    obtain ⟨xs, x, hqx, hx⟩ := hg
    obtain ⟨its, rv, p⟩ := Inv.src I hqx
    obtain ⟨u, hu, ru⟩ := rv.get hx
    have hh : X.A.in1.handled = none := I.ok.hd hc
    have W := WalksT.enumFrom 0 (drawsB b (prog := X.prog) (w := X.w) hh it a n2 its.toArray) e n1 (by simp [n1, n3]) (by simp)
    have li : i < its.toArray.size := by
      rw [size_vals rv]
      exact (List.getElem?_eq_some_iff.mp hx).1
    refine W.item i s _ _ li ⟨by rw [Int.zero_add]; exact he, hi, p⟩ fun T vals h' tk hv hT hI hm kk => ?_
    obtain ⟨t, v1, q1, rfl⟩ := hv
    have q1' : its[i]? = some v1 := by simpa using q1
    rw [hu] at q1'; cases q1'
    have ap := W.apart i T h' hm
    refine ⟨_, rfl, W.go elts _ tpos i T { s with heap := h', toks := tk } _ _ hm fun h'' st' kk2 => ?_⟩
    obtain ⟨oT, eT, cT, nT, dT⟩ := hI
    have hT2 : h''.get? T = some oT := kk2 T oT ap eT
    have new : ObjOk X.prog X.w (upd H T (.tup [.int (i : Nat), x])) h'' T (.tup [.int (i : Nat), x]) :=
      ⟨by show 2 ≤ sizeLine; decide, [.int (0 + (i : Int)) t, u], .cons ⟨t, by rw [Int.zero_add]⟩ (.cons ru .nil), ⟨oT, hT2, cT, nT, dT⟩⟩
    have I1 : L2.Inv X pins σ (upd H T (.tup [.int (i : Nat), x])) { s with heap := h'', toks := tk } :=
      I.turnedNew (t' := tk) (ch := [e, it]) (fun c o hb q => kk2 c o hb (kk c o hb q)) hf hT new
    obtain ⟨he', hi', _⟩ := st'
    rw [Int.zero_add] at he'
    refine ⟨.ref T, _, I1, rfl, ⟨T, x, rfl, I.hok.fresh hT, rfl, fun l hl => by rw [Inv.src_inj I hl hqx]; exact hx⟩, ⟨he', hi'⟩, fun c hcm => ?_⟩
    have hlt : c < s.heap.objs.size := by
      have e' : c = e ∨ c = it := by simpa using hcm
      rcases e' with q | q
      · rw [q]; obtain ⟨_, he⟩ := he; exact Heap.lt_size he
      · rw [q]; obtain ⟨_, e1, _⟩ := hi.obj; exact Heap.lt_size e1
    rw [upd_ne (Nat.ne_of_lt (Nat.lt_of_lt_of_le hlt hT))]
    exact (hf c hcm).1
  done := by
    intro X hP hw hK hc i pins s σ H E I hf st hg
    subst hP hw hK
    obtain ⟨he, hi⟩ := st
    obtain ⟨xs, hqx, hend⟩ := hg
    obtain ⟨its, rv, p⟩ := Inv.src I hqx
    have hh : X.A.in1.handled = none := I.ok.hd hc
    have W := WalksT.enumFrom 0 (drawsB b (prog := X.prog) (w := X.w) hh it a n2 its.toArray) e n1 (by simp [n1, n3]) (by simp)
    have hie : i = its.toArray.size := by rw [size_vals rv]; exact hend.symm
    subst hie
    exact W.done s _ _ ⟨by rw [Int.zero_add]; exact he, hi, p⟩ fun h' tk kk => ⟨rfl, I.turnedL (t' := tk) (ch := [e, it]) (fun c o hb q => kk c o hb q) hf⟩
  self := fun A i s Q E st h => let ⟨⟨_, he⟩, _⟩ := st; wpAny_pyIter_enum he h
end Ev

/-! ## EvMt -/
/-! EvMt: a term of the evaluator matches a text of the model. -/
namespace Ev
open PySem PySem.Spec PyProof.Rows L2

/-- where one stands: the names by slots, the scope, the names that may be stored, the text's own defs, its constants -/
structure SC where
  N : List Str
  sc : Scope
  sto : List Str
  fns : List String
  csts : List (String × D)
def visB (sc : Scope) (x : Str) : Bool := match sc.names.lookup x with
  | some .local => true
  | some .cell => true
  | some .free => true
  | _ => false
def glB (sc : Scope) (x : Str) : Bool := decide (sc.names.lookup x = some .globalImplicit) && decide ((x == ("__debug__" : Str)) = false) && decide (x ≠ "__name__")
/-- neither starred, nor a slice, nor a set -/
def plainB : Expr → Bool
  | .Starred _ _ => false
  | .Slice _ _ _ _ => false
  | .Set _ _ _ => false
  | _ => true
def biNames : List String := ["len", "abs", "isinstance", "sum", "sorted"]
def tyBi : List String := ["tuple", "list", "dict", "int"]
def mtNames : List String := ["append", "extend", "pop", "get", "update"]
def ownB (N : List Str) (own : List Nat) : List (Str × Nat) := own.filterMap fun i => (N[i]?).map fun x => (x, i)
/-- the names that a comprehension's block may store -/
def stoOf (scope : Scope) : List Str := (scope.names.filter fun y => y.2 == .local || y.2 == .cell).map (·.1)
def SC.blk (c : SC) (scope : Scope) : SC := { c with sc := relS scope c.sc, sto := stoOf scope }
mutual
def mtt : Tg → SC → Expr → Bool
  | .nm i, c, x => match x with
    | .Name n _ => decide (c.N[i]? = some n) && c.sto.contains n
    | _ => false
  | .tu ts, c, x => match x with
    | .Tuple es _ _ => mtts ts c es
    | _ => false
  | .nil, _, _ => false
  | .cons _ _, _, _ => false
def mtts : Tg → SC → List Expr → Bool
  | .nil, _, xs => match xs with
    | [] => true
    | _ => false
  | .cons a r, c, xs => match xs with
    | x :: xs => mtt a c x && mtts r c xs
    | _ => false
  | .nm _, _, _ => false
  | .tu _, _, _ => false
end
def tgSlots : Tg → List Nat
  | .nm i => [i]
  | .tu ts => tgSlots ts
  | .nil => []
  | .cons a r => tgSlots a ++ tgSlots r
def isTup : Expr → Bool
  | .Tuple _ _ _ => true
  | _ => false
mutual
def mt : Ex → SC → Expr → Bool
  | .var i, c, x => match x with
    | .Name n _ => decide (c.N[i]? = some n) && visB c.sc n && decide ((n == ("__debug__" : Str)) = false) && decide ((n == ("__classdict__" : Str)) = false)
    | _ => false
  | .int i, _, x => match x with
    | .Constant (.int j) _ _ => decide (i = j)
    | _ => false
  | .str s, _, x => match x with
    | .Constant (.str z) _ _ => decide (z = Str.ofString s)
    | _ => false
  | .bl b, _, x => match x with
    | .Constant (.bool d) _ _ => b == d
    | _ => false
  | .non, _, x => match x with
    | .Constant .none _ _ => true
    | _ => false
  | .gl s, c, x => match x with
    | .Name n _ => decide (n = Str.ofString s) && glB c.sc n && tyNames.contains s
    | _ => false
  | .cst s d, c, x => match x with
    | .Name n _ => decide (n = Str.ofString s) && glB c.sc n && decide ((s, d) ∈ c.csts)
    | _ => false
  | .tup es, c, x => match x with
    | .Tuple xs _ _ => mts es c xs
    | _ => false
  | .lst es, c, x => match x with
    | .List xs _ => mts es c xs
    | _ => false
  | .dct es, c, x => match x with
    | .Dict ks vs _ => mtd es c ks vs && decide (ks.length ≤ 15)
    | _ => false
  | .op o a b, c, x => match x with
    | .BinOp l p r _ => decide (p = bop o) && mt a c l && mt b c r
    | _ => false
  | .neg a, c, x => match x with
    | .UnaryOp p l _ => decide (p = .USub) && mt a c l
    | _ => false
  | .cmp o a b, c, x => match x with
    | .Compare l [p] [r] _ => decide (p = cop o) && mt a c l && mt b c r
    | _ => false
  | .chn o p a b d, c, x => match x with
    | .Compare l [o', p'] [r, z] _ => decide (o' = cop o) && decide (p' = cop p) && mt a c l && mt b c r && mt d c z
    | _ => false
  | .and a b, c, x => match x with
    | .BoolOp p (l :: r :: rest) pos => decide (p = .And) && mt a c l && (match rest with
      | [] => mt b c r
      | _ => mt b c (.BoolOp .And (r :: rest) pos))
    | _ => false
  | .or a b, c, x => match x with
    | .BoolOp p (l :: r :: rest) pos => decide (p = .Or) && mt a c l && (match rest with
      | [] => mt b c r
      | _ => mt b c (.BoolOp .Or (r :: rest) pos))
    | _ => false
  | .not a, c, x => match x with
    | .UnaryOp p l _ => decide (p = .Not) && mt a c l
    | _ => false
  | .ite k a b, c, x => match x with
    | .IfExp t l r _ => mt k c t && mt a c l && mt b c r
    | _ => false
  | .ix a i, c, x => match x with
    | .Subscript l r _ => mt a c l && mt i c r
    | _ => false
  | .sl a lo hi, c, x => match x with
    | .Subscript l (.Slice u v none _) _ => mt a c l && mto lo c u && mto hi c v
    | _ => false
  | .call f es, c, x => match x with
    | .Call (.Name n _) xs [] _ => decide (n = Str.ofString f) && decide (f ≠ "super") && glB c.sc n && c.fns.contains f && mts es c xs
    | _ => false
  | .bi f es, c, x => match x with
    | .Call (.Name n _) xs [] _ => decide (n = Str.ofString f) && decide (f ≠ "super") && glB c.sc n && (biNames.contains f || tyBi.contains f) && !xs.isEmpty && mts es c xs
    | _ => false
  | .mth m o es, c, x => match x with
    | .Call (.Attribute l n apos) xs [] cpos => decide (n = Str.ofString m) && (apos.endLine == cpos.line) && mtNames.contains m && decide (xs.length < 29) && mt o c l && mts es c xs
    | _ => false
  | .lc t it cd e own, c, x => match x with
    | .ListComp l gs scope _ => (match gs with
      | [⟨tg, iter, ifs, k⟩] => decide (k = 0) && blkC c.N c.sc scope (ownB c.N own) && decide ((ownB c.N own).map (·.2) = own) && (tgSlots t).all own.contains && mtw it c iter tg && mtt t (c.blk scope) tg && mtc cd (c.blk scope) ifs && mt e (c.blk scope) l
      | _ => false)
    | _ => false
  | .dc t it cd k v own, c, x => match x with
    | .DictComp kx vx gs scope _ => (match gs with
      | [⟨tg, iter, ifs, a⟩] => decide (a = 0) && blkC c.N c.sc scope (ownB c.N own) && decide ((ownB c.N own).map (·.2) = own) && (tgSlots t).all own.contains && mtw it c iter tg && mtt t (c.blk scope) tg && mtc cd (c.blk scope) ifs && mt k (c.blk scope) kx && mt v (c.blk scope) vx
      | _ => false)
    | _ => false
  | .nil, _, _ => false
  | .cons _ _, _, _ => false
  | .wk _, _, _ => false
  | .enm _, _, _ => false
  | .zip _ _, _, _ => false
  | .rng _, _, _ => false
def mts : Ex → SC → List Expr → Bool
  | .nil, _, xs => match xs with
    | [] => true
    | _ => false
  | .cons a r, c, xs => match xs with
    | x :: xs => mt a c x && mts r c xs
    | _ => false
  | _, _, _ => false
def mtd : Ex → SC → List (Option Expr) → List Expr → Bool
  | .nil, _, ks, vs => match ks, vs with
    | [], [] => true
    | _, _ => false
  | .cons a (.cons b r), c, ks, vs => match ks, vs with
    | some k :: ks, v :: vs => mt a c k && mt b c v && mtd r c ks vs
    | _, _ => false
  | _, _, _, _ => false
def mto : Ex → SC → Option Expr → Bool
  | .nil, _, o => match o with
    | none => true
    | _ => false
  | .cons e r, c, o => match o with
    | some x => mt e c x
    | none => false
  | _, _, _ => false
def mtc : Ex → SC → List Expr → Bool
  | .nil, _, xs => match xs with
    | [] => true
    | _ => false
  | .cons e r, c, xs => match xs with
    | [x] => mt e c x
    | _ => false
  | _, _, _ => false
/-- what is walked, and the target -/
def mtw : Ex → SC → Expr → Expr → Bool
  | .wk e, c, x, _ => mt e c x
  | .enm e, c, x, t => isTup t && (match x with
    | .Call (.Name n _) [l] [] _ => decide (n = "enumerate") && glB c.sc n && mt e c l
    | _ => false)
  | .zip a b, c, x, t => isTup t && (match x with
    | .Call (.Name n _) [l, r] [] _ => decide (n = "zip") && glB c.sc n && mt a c l && mt b c r
    | _ => false)
  | .rng es, c, x, _ => match x with
    | .Call (.Name n _) xs [] _ => decide (n = "range") && glB c.sc n && (xs.length == 1 || xs.length == 2) && mts es c xs
    | _ => false
  | _, _, _, _ => false
end
end Ev

/-! ## EvSnd -/
/-! EvSnd: the evaluator's expressions keep to the model. -/
namespace Ev
open PySem PySem.Spec PyProof.Rows L2

abbrev Cl := String → List D → AH → Res D
/-- an exception as it stands: its class, its own dict -/
def XRep (G : Md) (φ : Ph) (H : Hp) (x : Xc) (cls : Value) (dd : Option Addr) : Prop := False
/-- what is wanted behind an evaluation; W: of an exception -/
def okG (G : Md) {β : Type} (φ : Ph) (H : Hp) (W : Value → Option Addr → Hp → Prop) (P : β → AH → Ph → Hp → Prop) : Res β → Prop
  | .ok b A => ∀ φ' H', Ext φ H φ' H' → HR G φ' H' A → P b A φ' H'
  | .exc x A => ∀ φ' H' cls dd, Ext φ H φ' H' → HR G φ' H' A → XRep G φ' H' x cls dd → W cls dd H'
  | .no => False
section
variable {G : Md} {α β : Type} {φ φ1 : Ph} {H H1 : Hp} {W : Value → Option Addr → Hp → Prop}
theorem okG.ext {P : β → AH → Ph → Hp → Prop} {r : Res β} (h : okG G φ H W P r) (x : Ext φ H φ1 H1) : okG G φ1 H1 W P r := by
  cases r with
  | ok b A => exact fun φ' H' e hr => h φ' H' (x.trans e) hr
  | exc y A => exact fun φ' H' c d e hr xr => h φ' H' c d (x.trans e) hr xr
  | no => exact h
theorem okG.bnd {P : β → AH → Ph → Hp → Prop} {r : Res α} {f : α → AH → Res β} (h : okG G φ H W P (bnd r f)) : okG G φ H W (fun a A φ' H' => okG G φ' H' W P (f a A)) r := by
  cases r with
  | ok a A => exact fun φ' H' e _ => okG.ext (r := f a A) h e
  | exc y A => exact h
  | no => exact h
theorem okG.ofO {P : β → AH → Ph → Hp → Prop} {o : Option β} {A : AH} (h : okG G φ H W P (ofO o A)) : ∃ b, o = some b ∧ ∀ φ' H', Ext φ H φ' H' → HR G φ' H' A → P b A φ' H' := by
  cases o with
  | some b => exact ⟨b, rfl, h⟩
  | none => exact h.elim
theorem okG.imp {P P' : β → AH → Ph → Hp → Prop} {r : Res β} (h : okG G φ H W P r) (k : ∀ b A φ' H', Ext φ H φ' H' → HR G φ' H' A → P b A φ' H' → P' b A φ' H') : okG G φ H W P' r := by
  cases r with
  | ok b A => exact fun φ' H' e hr => k _ _ _ _ e hr (h φ' H' e hr)
  | exc y A => exact h
  | no => exact h
end
def pV (G : Md) (Q : VK) : D → AH → Ph → Hp → Prop := fun d _ φ H => ∀ v, Rep G φ H d v → Q v H
def pL (G : Md) (Q : List V → Hp → Prop) : List D → AH → Ph → Hp → Prop := fun ds _ φ H => ∀ vs, Reps G φ H ds vs → Q vs H
def pB (Q : Bool → Hp → Prop) : Bool → AH → Ph → Hp → Prop := fun b _ _ H => Q b H
def pO (Q : Option Int → Hp → Prop) : Option Int → AH → Ph → Hp → Prop := fun b _ _ H => Q b H
theorem okG.vc {G : Md} {φ : Ph} {H : Hp} {W : Value → Option Addr → Hp → Prop} {Q : VK} {d : D} {A : AH} (h : okG G φ H W (pV G Q) (.ok d A)) : VC G φ H Q d A := fun φ' H' v e hr r => h φ' H' e hr v r

/-- readings by the evaluator -/
def tG (G : Md) {β : Type} (W : WX) (f : Fr → AH → Res β) (σ : L2.St) (H : Hp) (P : β → AH → Ph → Hp → Prop) : Prop := ∃ φ F A, HR G φ H A ∧ FR G φ H F σ ∧ okG G φ H (fun c d H' => W c d σ H') P (f F A)
def tE (G : Md) (cl : Cl) (W : WX) (e : Ex) : TE := fun σ H Q => tG G W (ev cl e) σ H (pV G Q)
def tT (G : Md) (cl : Cl) (W : WX) (e : Ex) : TT := fun σ H Q => tG G W (fun F A => tru (ev cl e F A)) σ H (pB Q)
def tA (G : Md) (cl : Cl) (W : WX) (e : Ex) : TA := fun σ H Q => tG G W (evs cl e) σ H (pL G Q)
def tO (G : Md) (cl : Cl) (W : WX) (e : Ex) : TO := fun σ H Q => tG G W (evo cl e) σ H (pO Q)
def tCd (G : Md) (cl : Cl) (W : WX) (e : Ex) : TT := fun σ H Q => tG G W (evc cl e) σ H (pB Q)

/-- what a call keeps -/
def spEv (G : Md) (cl : Cl) (f : String) : Sp := fun vs H Q E => ∃ φ A ds, HR G φ H A ∧ Reps G φ H ds vs ∧ okG G φ H E (pV G Q) (cl f ds A)
structure FnIs (P : Program) (w : World) (K : PySem.W.Frag) (mg : Str → Option Value) (base : Heap) (A : Around) (cl : Cl) (f : String) : Prop where
  ex : ∃ (fa : Addr) (fd : FuncData) (ps : List Str) (k : Nat), mg (Str.ofString f) = some (.ref fa) ∧ PySem.W.keepIn K (.ref fa) = true ∧ Binds K fd ps [] ∧ FnOk P w K mg base (CX P w) k fa fd ps (spEv ⟨K, mg⟩ cl f) ∧ Room k A
structure CtxOk (X : Cx) (c : SC) (cl : Cl) (W : WX) : Prop where
  N : X.N = c.N
  nd : c.N.Nodup
  sc : X.env.scope = c.sc
  calm : X.calm = true
  kd : X.env.scope.kind = .function
  hu : X.A.units + 64 < cLine
  tk : Takes X W
  ps : PassesOwn (model X.prog X.w) X.A X.env X.xe
  fb : FreeB X.mg
  bn : ∀ x ∈ biNames ++ tyBi ++ ["enumerate", "zip", "range"], X.mg (Str.ofString x) = none
  sto : ∀ x ∈ c.sto, Loc X.env.scope x ∧ (X.fn x = true ∨ X.env.scope.names.lookup x = some .local)
  calls : ∀ f ∈ c.fns, FnIs X.prog X.w X.K X.mg X.base X.A cl f
  csts : ∀ p ∈ c.csts, ∃ v u, X.mg (Str.ofString p.1) = some u ∧ RelV v u ∧ ∀ φ H, Rep (Gd X) φ H p.2 v

section
variable {X : Cx} {c : SC} {cl : Cl} {W : WX} {G : Md}
theorem pe_imp {x : Expr} {t t' : TE} (h : PE X x t) (k : ∀ σ H Q, t' σ H Q → t σ H Q) : PE X x t' := ⟨fun pins s σ H Q I q => h.run pins s σ H Q I (k σ H Q q)⟩
theorem pt_imp {x : Expr} {t t' : TT} (h : PT X x t) (k : ∀ σ H Q, t' σ H Q → t σ H Q) : PT X x t' := ⟨fun pins s σ H Q I q => h.run pins s σ H Q I (k σ H Q q)⟩
theorem pw_imp {x : Expr} {t t' : TT} (h : PW X x t) (k : ∀ σ H Q, t' σ H Q → t σ H Q) : PW X x t' := ⟨fun wh pins s σ H Q I q => h.run wh pins s σ H Q I (k σ H Q q)⟩
theorem pa_imp {x : List Expr} {t t' : TA} (h : PA X x t) (k : ∀ σ H Q, t' σ H Q → t σ H Q) : PA X x t' := ⟨fun pos pins s σ H Q I q => h.run pos pins s σ H Q I (k σ H Q q)⟩
theorem tE_mono {e : Ex} {σ : L2.St} {H : Hp} {Q Q' : VK} (h : tE G cl W e σ H Q) (k : ∀ v H', Q v H' → Q' v H') : tE G cl W e σ H Q' := by
  obtain ⟨φ, F, A, hr, fr, ok⟩ := h
  exact ⟨φ, F, A, hr, fr, ok.imp fun b A φ' H' _ _ q v r => k _ _ (q v r)⟩
/-- one part, then the rest -/
theorem tE_go {β : Type} {e : Ex} {σ : L2.St} {H : Hp} {φ : Ph} {F : Fr} {A : AH} {P : β → AH → Ph → Hp → Prop} {f : D → AH → Res β} (hr : HR G φ H A) (fr : FR G φ H F σ)
    (ok : okG G φ H (fun c d H' => W c d σ H') P (bnd (ev cl e F A) f)) :
    tE G cl W e σ H (fun x H1 => ∃ φ1 A1 d, HR G φ1 H1 A1 ∧ FR G φ1 H1 F σ ∧ Rep G φ1 H1 d x ∧ okG G φ1 H1 (fun c d H' => W c d σ H') P (f d A1)) :=
  ⟨φ, F, A, hr, fr, ok.bnd.imp fun d A1 φ1 H1 e hr1 q v r => ⟨φ1, A1, d, hr1, fr.ext hr e, r, q⟩⟩
theorem tA_go {β : Type} {e : Ex} {σ : L2.St} {H : Hp} {φ : Ph} {F : Fr} {A : AH} {P : β → AH → Ph → Hp → Prop} {f : List D → AH → Res β} (hr : HR G φ H A) (fr : FR G φ H F σ)
    (ok : okG G φ H (fun c d H' => W c d σ H') P (bnd (evs cl e F A) f)) :
    tA G cl W e σ H (fun xs H1 => ∃ φ1 A1 ds, HR G φ1 H1 A1 ∧ FR G φ1 H1 F σ ∧ Reps G φ1 H1 ds xs ∧ okG G φ1 H1 (fun c d H' => W c d σ H') P (f ds A1)) :=
  ⟨φ, F, A, hr, fr, ok.bnd.imp fun d A1 φ1 H1 e hr1 q v r => ⟨φ1, A1, d, hr1, fr.ext hr e, r, q⟩⟩
/-- the reading of a form whose parts are evaluated in a row: the second part needs the first's value -/
theorem tE_go2 {β : Type} {e e2 : Ex} {σ : L2.St} {H : Hp} {φ : Ph} {F : Fr} {A : AH} {P : β → AH → Ph → Hp → Prop} {f : D → D → AH → Res β} (hr : HR G φ H A) (fr : FR G φ H F σ)
    (ok : okG G φ H (fun c d H' => W c d σ H') P (bnd (ev cl e F A) fun x A1 => bnd (ev cl e2 F A1) fun y A2 => f x y A2)) :
    tE G cl W e σ H (fun x H1 => tE G cl W e2 σ H1 (fun y H2 => ∃ φ2 A2 d d2, HR G φ2 H2 A2 ∧ FR G φ2 H2 F σ ∧ Rep G φ2 H2 d x ∧ Rep G φ2 H2 d2 y ∧ okG G φ2 H2 (fun c d H' => W c d σ H') P (f d d2 A2))) :=
  tE_mono (tE_go hr fr ok) fun x H1 ⟨φ1, A1, d, hr1, fr1, r1, ok1⟩ =>
    ⟨φ1, F, A1, hr1, fr1, ok1.bnd.imp fun d2 A2 φ2 H2 e hr2 q v r => ⟨φ2, A2, d, d2, hr2, fr1.ext hr1 e, r1.ext hr1 e, r, q⟩⟩

/-! ### plain texts -/
theorem mt_plain {e : Ex} {x : Expr} (h : mt e c x = true) : plainB x = true := by
  cases x <;> first | rfl | (exfalso; revert h; cases e <;> simp [mt])
theorem star_plain {x : Expr} {xs : List Expr} {env : Env} (h : plainB x = true) : starEach (x :: xs) env = (false, eval x env) :: starEach xs env := by
  cases x <;> first | rfl | (cases h; done)
theorem mts_plain : ∀ {e : Ex} {xs : List Expr}, mts e c xs = true → xs.all plainB = true
  | .nil, xs, h => by
    cases xs with
    | nil => rfl
    | cons => simp [mts] at h
  | .cons a r, xs, h => by
    cases xs with
    | nil => rfl
    | cons x xs =>
      have h : mt a c x = true ∧ mts r c xs = true := by simpa [mts] using h
      rw [List.all_cons, mt_plain h.1, mts_plain h.2]; rfl
  | .var _, _, h | .int _, _, h | .str _, _, h | .bl _, _, h | .non, _, h | .gl _, _, h | .cst _ _, _, h | .tup _, _, h | .lst _, _, h | .dct _, _, h | .op _ _ _, _, h | .neg _, _, h | .cmp _ _ _, _, h
  | .chn _ _ _ _ _, _, h | .and _ _, _, h | .or _ _, _, h | .not _, _, h | .ite _ _ _, _, h | .ix _ _, _, h | .sl _ _ _, _, h | .call _ _, _, h | .bi _ _, _, h | .mth _ _ _, _, h | .lc _ _ _ _ _, _, h
  | .dc _ _ _ _ _ _, _, h | .wk _, _, h | .enm _, _, h | .zip _ _, _, h | .rng _, _, h => by simp [mts] at h
theorem star_all : ∀ {xs : List Expr} {env : Env}, xs.all plainB = true → starEach xs env = xs.map fun x => (false, eval x env)
  | [], _, _ => rfl
  | x :: xs, env, h => by
    simp only [List.all_cons, Bool.and_eq_true] at h
    rw [star_plain h.1, star_all h.2]; rfl
theorem back_none {xs : List Expr} {env : Env} {pos : Pos} (h : xs.all plainB = true) : (backTo pos (starEach xs env)).any (·.1) = false := by
  rw [star_all h]
  induction xs with
  | nil => rfl
  | cons x xs ih =>
    simp only [List.all_cons, Bool.and_eq_true] at h
    have := ih h.2
    simpa [backTo] using this
theorem sub_plain {x : Expr} (h : plainB x = true) (o i : Value) : subscripted x false o i = operate [o, i] (getItem o i) := by
  cases x <;> first | rfl | (cases h; done)
theorem mark_plain {x : Expr} {op : CmpOp} (h : plainB x = true) : behindInMarks op x = false := by
  cases x <;> first | rfl | (cases h; done)
theorem folded_plain {x : Expr} {env : Env} {v : Value} (h : plainB x = true) : foldedSetIterable x env v = pure v := by
  cases x <;> first | rfl | (cases h; done)
theorem attr_plain {e : Ex} {x : Expr} {env : Env} {m : Str} {whole : Sem Value} (h : mt e c x = true) : attributeBase x m env whole = whole := by
  cases x with
  | Call f as ks pos =>
    cases f with
    | Name id p =>
      cases as with
      | cons => rfl
      | nil =>
        cases ks with
        | cons => rfl
        | nil =>
          have hid : id ≠ "super" := by
            cases e <;> first | (simp [mt] at h; done) | skip
            · rename_i f es
              have h : (decide (id = Str.ofString f) && decide (f ≠ "super") && glB c.sc id && c.fns.contains f && mts es c []) = true := h
              simp only [Bool.and_eq_true, decide_eq_true_eq] at h
              intro q
              exact h.1.1.1.2 (ofString_inj (h.1.1.1.1.symm.trans q))
          unfold attributeBase
          have : (id != ("super" : Str)) = true := bne_iff_ne.mpr hid
          simp only [this, Bool.true_or, if_true]
    | _ => rfl
  | _ => rfl
end
end Ev

/-! ## EvSnd2 -/
/-! EvSnd2: names, constants, displays, operators, tests. -/
namespace Ev
open PySem PySem.Spec PyProof.Rows L2

/-- what is walked: the reading gives the walk's iterator over the heap behind (a dict is locked) -/
structure WkIt (G : Md) (φ0 : Ph) (H0 : Hp) (w : Wk) (J : It) : Prop where
  step : ∀ (φ : Ph) (H : Hp) (A : AH) (i : Nat) (d : D), Ext φ0 H0 φ H → HR G φ H A → gOk A w.g = true → w.items[i]? = some d → J.go i H ∧ ∀ x H', J.yld i H x H' → Ext φ H φ H' ∧ HR G φ H' A ∧ Rep G φ H' d x
  stop : ∀ (φ : Ph) (H : Hp) (A : AH), Ext φ0 H0 φ H → HR G φ H A → gOk A w.g = true → J.stop w.items.length H
/-- the lock: the dict's place, unlocked at the end -/
def LockOk (X : Cx) (φ : Ph) (H : Hp) (l : Option Nat) : Prop := match l with
  | none => True
  | some n => ∃ a o ks, φ[n]? = some a ∧ H a = some (.frz o (.dK ks)) ∧ (∀ o' u', X.H_0 a ≠ some (.frz o' u')) ∧ ∀ (φ0 : Ph) (H0 : Hp), True
def iW (X : Cx) (cl : Cl) (W : WX) (e : Ex) : TI := fun σ H R => tG (Gd X) W (evw cl e) σ H (fun w A φ1 H1 =>
  ∀ H2 J, (w.lock = none → H2 = H1) → (∀ n, w.lock = some n → ∃ a o ks, φ1[n]? = some a ∧ H1 a = some (.dK ks) ∧ H2 = upd H1 a (.frz o (.dK ks)) ∧ ∀ o' u', X.H_0 a ≠ some (.frz o' u')) →
    HR (Gd X) φ1 H2 (lockA A w.lock) → WkIt (Gd X) φ1 H2 w J → R J H2)
structure SE (cl : Cl) (e : Ex) : Prop where
  pe : ∀ {X : Cx} {c : SC} {W : WX} {x : Expr}, CtxOk X c cl W → mt e c x = true → PE X x (tE (Gd X) cl W e)
  pt : ∀ {X : Cx} {c : SC} {W : WX} {x : Expr}, CtxOk X c cl W → mt e c x = true → PT X x (tT (Gd X) cl W e)
  pw : ∀ {X : Cx} {c : SC} {W : WX} {op : BoolOp} {xs : List Expr} {pos : Pos}, CtxOk X c cl W → mt e c (.BoolOp op xs pos) = true → PW X (.BoolOp op xs pos) (tT (Gd X) cl W e)
  pa : ∀ {X : Cx} {c : SC} {W : WX} {xs : List Expr}, CtxOk X c cl W → mts e c xs = true → PA X xs (tA (Gd X) cl W e)
  pd : ∀ {X : Cx} {c : SC} {W : WX} {ks : List (Option Expr)} {vs : List Expr} {pos : Pos}, CtxOk X c cl W → mtd e c ks vs = true → ∃ trs, PPs X pos ks vs trs ∧ ks.all (·.isSome) = true ∧ ks.length = vs.length ∧
    ∀ (σ : L2.St) (H : Hp) (Q : List (V × V) → Hp → Prop), tG (Gd X) W (evs cl e) σ H (fun ds A φ H' => ∃ kvs, pairUp ds = some kvs ∧ ∀ ps, KReps (Gd X) φ H' kvs ps → Q (ps.map fun kv => (kV kv.1, kv.2)) H') → tPairs trs σ H Q
  po : ∀ {X : Cx} {c : SC} {W : WX} {o : Option Expr}, CtxOk X c cl W → mto e c o = true → PO X o (tO (Gd X) cl W e)
  pc : ∀ {X : Cx} {c : SC} {W : WX} {xs : List Expr}, CtxOk X c cl W → mtc e c xs = true → PTs X xs (tCd (Gd X) cl W e)
  pi : ∀ {X : Cx} {c : SC} {W : WX} {x tg : Expr}, CtxOk X c cl W → mtw e c x tg = true → PI X tg x (iW X cl W e)
/-- a form that is an expression alone -/
structure Alone (e : Ex) : Prop where
  a : ∀ c xs, mts e c xs = false
  d : ∀ c ks vs, mtd e c ks vs = false
  o : ∀ c x, mto e c x = false
  t : ∀ c xs, mtc e c xs = false
  w : ∀ c x t, mtw e c x t = false
theorem SE.of {cl : Cl} {e : Ex} (al : Alone e)
    (pe : ∀ {X : Cx} {c : SC} {W : WX} {x : Expr}, CtxOk X c cl W → mt e c x = true → PE X x (tE (Gd X) cl W e))
    (pt : ∀ {X : Cx} {c : SC} {W : WX} {x : Expr}, CtxOk X c cl W → mt e c x = true → PT X x (tT (Gd X) cl W e))
    (pw : ∀ {X : Cx} {c : SC} {W : WX} {op : BoolOp} {xs : List Expr} {pos : Pos}, CtxOk X c cl W → mt e c (.BoolOp op xs pos) = true → PW X (.BoolOp op xs pos) (tT (Gd X) cl W e)) : SE cl e where
  pe := pe
  pt := pt
  pw := pw
  pa := fun _ h => by rw [al.a] at h; cases h
  pd := fun _ h => by rw [al.d] at h; cases h
  po := fun _ h => by rw [al.o] at h; cases h
  pc := fun _ h => by rw [al.t] at h; cases h
  pi := fun _ h => by rw [al.w] at h; cases h

section
variable {X : Cx} {c : SC} {cl : Cl} {W : WX}
/-- an expression's test is its value's truth -/
theorem pt_of {e : Ex} {x : Expr} (h : PE X x (tE (Gd X) cl W e)) (hx : ∀ whole, isTrue x X.env whole = (do let v ← whole; standAt x.pos; holding [v] (truthy v))) : PT X x (tT (Gd X) cl W e) := by
  refine pt_imp (pt_truth h hx) fun σ H Q q => ?_
  obtain ⟨φ, F, A, hr, fr, ok⟩ := q
  refine tE_mono (tE_go hr fr ok) fun v H1 ⟨φ1, A1, d, hr1, fr1, r1, ok1⟩ => ?_
  obtain ⟨b, hb, q⟩ := ok1.ofO
  exact ⟨b, tru_of hr1 r1 hb, q φ1 H1 .refl hr1⟩
theorem gen_Name {n : Str} {p : Pos} {env : Env} (whole : Sem Value) : isTrue (.Name n p) env whole = (do let v ← whole; standAt (Expr.pos (.Name n p)); holding [v] (truthy v)) := rfl
/-- by one part -/
theorem fin_ok {G : Md} {φ : Ph} {H : Hp} {A : AH} {d : D} {v : V} {Wc : Value → Option Addr → Hp → Prop} {Q : VK} (ok : okG G φ H Wc (pV G Q) (.ok d A)) (hr : HR G φ H A) (r : Rep G φ H d v) : Q v H := ok φ H .refl hr v r
end

section
variable {cl : Cl}
theorem se_var (i : Nat) : SE cl (.var i) := by
  have pe : ∀ {X : Cx} {c : SC} {W : WX} {x : Expr}, CtxOk X c cl W → mt (.var i) c x = true → PE X x (tE (Gd X) cl W (.var i)) := fun {X c W x} ok h => by
    cases x with
    | Name n p =>
      have h : (decide (c.N[i]? = some n) && visB c.sc n && decide ((n == ("__debug__" : Str)) = false) && decide ((n == ("__classdict__" : Str)) = false)) = true := h
      simp only [Bool.and_eq_true, decide_eq_true_eq] at h
      obtain ⟨⟨⟨h1, h2⟩, h3⟩, h4⟩ := h
      refine pe_imp (pe_var (i := i) (by rw [ok.N]; exact h1) (by
        show Vis X.env.scope n
        rw [ok.sc]
        unfold visB at h2
        unfold Vis
        split at h2 <;> first | (cases h2; done) | simp [*]) h3 h4) fun σ H Q q => ?_
      obtain ⟨φ, F, A, hr, fr, o⟩ := q
      unfold ev at o
      split at o
      · rename_i d hd
        obtain ⟨v, e1, r1⟩ := fr.2 i d hd
        exact ⟨v, e1, fin_ok o hr r1⟩
      · exact o.elim
    | _ => simp [mt] at h
  refine SE.of ⟨fun c xs => by simp [mts], fun c ks vs => by simp [mtd], fun c x => by simp [mto], fun c x => by simp [mtc], fun c x t => by simp [mtw]⟩ pe (fun {X c W x} ok h => pt_of (pe ok h) ?_) (fun ok h => by simp [mt] at h)
  cases x <;> first | (exact fun _ => rfl) | (simp [mt] at h; done)
theorem se_int (i : Int) : SE cl (.int i) := by
  have pe : ∀ {X : Cx} {c : SC} {W : WX} {x : Expr}, CtxOk X c cl W → mt (.int i) c x = true → PE X x (tE (Gd X) cl W (.int i)) := fun {X c W x} ok h => by
    cases x with
    | Constant k j p =>
      cases k with
      | int j =>
        have h : i = j := by simpa [mt] using h
        subst h
        exact pe_imp pe_int fun σ H Q ⟨φ, F, A, hr, fr, o⟩ => fin_ok o hr rfl
      | _ => simp [mt] at h
    | _ => simp [mt] at h
  refine SE.of ⟨fun c xs => by simp [mts], fun c ks vs => by simp [mtd], fun c x => by simp [mto], fun c x => by simp [mtc], fun c x t => by simp [mtw]⟩ pe (fun {X c W x} ok h => pt_of (pe ok h) ?_) (fun ok h => by simp [mt] at h)
  cases x <;> first | (exact fun _ => rfl) | (simp [mt] at h; done)
theorem se_str (z : String) : SE cl (.str z) := by
  have pe : ∀ {X : Cx} {c : SC} {W : WX} {x : Expr}, CtxOk X c cl W → mt (.str z) c x = true → PE X x (tE (Gd X) cl W (.str z)) := fun {X c W x} ok h => by
    cases x with
    | Constant k j p =>
      cases k with
      | str j =>
        have h : j = Str.ofString z := by simpa [mt] using h
        subst h
        exact pe_imp pe_str fun σ H Q ⟨φ, F, A, hr, fr, o⟩ => fin_ok o hr rfl
      | _ => simp [mt] at h
    | _ => simp [mt] at h
  refine SE.of ⟨fun c xs => by simp [mts], fun c ks vs => by simp [mtd], fun c x => by simp [mto], fun c x => by simp [mtc], fun c x t => by simp [mtw]⟩ pe (fun {X c W x} ok h => pt_of (pe ok h) ?_) (fun ok h => by simp [mt] at h)
  cases x <;> first | (exact fun _ => rfl) | (simp [mt] at h; done)
theorem se_bl (b : Bool) : SE cl (.bl b) := by
  have pe : ∀ {X : Cx} {c : SC} {W : WX} {x : Expr}, CtxOk X c cl W → mt (.bl b) c x = true → PE X x (tE (Gd X) cl W (.bl b)) := fun {X c W x} ok h => by
    cases x with
    | Constant k j p =>
      cases k with
      | bool j =>
        have h : b = j := by simpa [mt] using h
        subst h
        exact pe_imp pe_bl fun σ H Q ⟨φ, F, A, hr, fr, o⟩ => fin_ok o hr rfl
      | _ => simp [mt] at h
    | _ => simp [mt] at h
  refine SE.of ⟨fun c xs => by simp [mts], fun c ks vs => by simp [mtd], fun c x => by simp [mto], fun c x => by simp [mtc], fun c x t => by simp [mtw]⟩ pe (fun {X c W x} ok h => pt_of (pe ok h) ?_) (fun ok h => by simp [mt] at h)
  cases x <;> first | (exact fun _ => rfl) | (simp [mt] at h; done)
theorem se_non : SE cl .non := by
  have pe : ∀ {X : Cx} {c : SC} {W : WX} {x : Expr}, CtxOk X c cl W → mt .non c x = true → PE X x (tE (Gd X) cl W .non) := fun {X c W x} ok h => by
    cases x with
    | Constant k j p =>
      cases k with
      | none => exact pe_imp pe_non fun σ H Q ⟨φ, F, A, hr, fr, o⟩ => fin_ok o hr rfl
      | _ => simp [mt] at h
    | _ => simp [mt] at h
  refine SE.of ⟨fun c xs => by simp [mts], fun c ks vs => by simp [mtd], fun c x => by simp [mto], fun c x => by simp [mtc], fun c x t => by simp [mtw]⟩ pe (fun {X c W x} ok h => pt_of (pe ok h) ?_) (fun ok h => by simp [mt] at h)
  cases x <;> first | (exact fun _ => rfl) | (simp [mt] at h; done)
theorem se_gl (z : String) : SE cl (.gl z) := by
  have pe : ∀ {X : Cx} {c : SC} {W : WX} {x : Expr}, CtxOk X c cl W → mt (.gl z) c x = true → PE X x (tE (Gd X) cl W (.gl z)) := fun {X c W x} ok h => by
    cases x with
    | Name n p =>
      have h : (decide (n = Str.ofString z) && glB c.sc n && tyNames.contains z) = true := h
      simp only [Bool.and_eq_true, decide_eq_true_eq, glB] at h
      obtain ⟨⟨rfl, ⟨h1, h2⟩, h3⟩, h4⟩ := h
      have h4 : z ∈ tyNames := by simpa using h4
      have hg : Gl X (Str.ofString z) := by
        show X.env.scope.names.lookup _ = _
        rw [ok.sc]; exact h1
      have hm := ok.fb z h4
      exact pe_imp (pe_bltn (v := .ty z) hg hm (boot_ty z h4) rfl h3 h2) fun σ H Q ⟨φ, F, A, hr, fr, o⟩ => fin_ok o hr ⟨.type z, rfl, .inr ⟨hm, boot_ty z h4⟩⟩
    | _ => simp [mt] at h
  refine SE.of ⟨fun c xs => by simp [mts], fun c ks vs => by simp [mtd], fun c x => by simp [mto], fun c x => by simp [mtc], fun c x t => by simp [mtw]⟩ pe (fun {X c W x} ok h => pt_of (pe ok h) ?_) (fun ok h => by simp [mt] at h)
  cases x <;> first | (exact fun _ => rfl) | (simp [mt] at h; done)
theorem se_cst (z : String) (d : D) : SE cl (.cst z d) := by
  have pe : ∀ {X : Cx} {c : SC} {W : WX} {x : Expr}, CtxOk X c cl W → mt (.cst z d) c x = true → PE X x (tE (Gd X) cl W (.cst z d)) := fun {X c W x} ok h => by
    cases x with
    | Name n p =>
      have h : (decide (n = Str.ofString z) && glB c.sc n && decide ((z, d) ∈ c.csts)) = true := h
      simp only [Bool.and_eq_true, decide_eq_true_eq, glB] at h
      obtain ⟨⟨rfl, ⟨h1, h2⟩, h3⟩, h4⟩ := h
      have hg : Gl X (Str.ofString z) := by
        show X.env.scope.names.lookup _ = _
        rw [ok.sc]; exact h1
      obtain ⟨v, u, hm, r, hrep⟩ := ok.csts (z, d) h4
      exact pe_imp (pe_glob hg hm r h2) fun σ H Q ⟨φ, F, A, hr, fr, o⟩ => fin_ok o hr (hrep φ H)
    | _ => simp [mt] at h
  refine SE.of ⟨fun c xs => by simp [mts], fun c ks vs => by simp [mtd], fun c x => by simp [mto], fun c x => by simp [mtc], fun c x t => by simp [mtw]⟩ pe (fun {X c W x} ok h => pt_of (pe ok h) ?_) (fun ok h => by simp [mt] at h)
  cases x <;> first | (exact fun _ => rfl) | (simp [mt] at h; done)
theorem se_tup {es : Ex} (ih : SE cl es) : SE cl (.tup es) := by
  have pe : ∀ {X : Cx} {c : SC} {W : WX} {x : Expr}, CtxOk X c cl W → mt (.tup es) c x = true → PE X x (tE (Gd X) cl W (.tup es)) := fun {X c W x} ok h => by
    cases x with
    | Tuple xs k p =>
      have h : mts es c xs = true := h
      refine pe_imp (pe_tup (ih.pa ok h)) fun σ H Q ⟨φ, F, A, hr, fr, o⟩ => ?_
      obtain ⟨φ', F', A', hr', fr', o'⟩ := tA_go (β := D) (cl := cl) (e := es) (f := fun ds A' => if ds.length ≤ sizeLine then .ok (.tup ds) A' else .no) hr fr o
      refine ⟨φ', F', A', hr', fr', o'.imp fun ds A1 φ1 H1 _ _ q vs rv => ?_⟩
      obtain ⟨φ2, A2, ds2, hr2, fr2, r2, o2⟩ := q vs rv
      split at o2
      · rename_i hl
        exact ⟨by rw [r2.length]; exact hl, fun p hp => o2.vc.tup hr2 hp r2⟩
      · exact o2.elim
    | _ => simp [mt] at h
  refine SE.of ⟨fun c xs => by simp [mts], fun c ks vs => by simp [mtd], fun c x => by simp [mto], fun c x => by simp [mtc], fun c x t => by simp [mtw]⟩ pe (fun {X c W x} ok h => pt_of (pe ok h) ?_) (fun ok h => by simp [mt] at h)
  cases x <;> first | (exact fun _ => rfl) | (simp [mt] at h; done)
theorem se_lst {es : Ex} (ih : SE cl es) : SE cl (.lst es) := by
  have pe : ∀ {X : Cx} {c : SC} {W : WX} {x : Expr}, CtxOk X c cl W → mt (.lst es) c x = true → PE X x (tE (Gd X) cl W (.lst es)) := fun {X c W x} ok h => by
    cases x with
    | List xs p =>
      have h : mts es c xs = true := h
      refine pe_imp (pe_lst (ih.pa ok h)) fun σ H Q ⟨φ, F, A, hr, fr, o⟩ => ?_
      obtain ⟨φ', F', A', hr', fr', o'⟩ := tA_go (β := D) (cl := cl) (e := es) (f := fun ds A' => if ds.length ≤ sizeLine then .ok (.ref A'.length) (A' ++ [.lst ds]) else .no) hr fr o
      refine ⟨φ', F', A', hr', fr', o'.imp fun ds A1 φ1 H1 _ _ q vs rv => ?_⟩
      obtain ⟨φ2, A2, ds2, hr2, fr2, r2, o2⟩ := q vs rv
      split at o2
      · rename_i hl
        exact ⟨by rw [r2.length]; exact hl, fun p hp => o2.vc.new hr2 hp ⟨_, rfl, r2⟩⟩
      · exact o2.elim
    | _ => simp [mt] at h
  refine SE.of ⟨fun c xs => by simp [mts], fun c ks vs => by simp [mtd], fun c x => by simp [mto], fun c x => by simp [mtc], fun c x t => by simp [mtw]⟩ pe (fun {X c W x} ok h => pt_of (pe ok h) ?_) (fun ok h => by simp [mt] at h)
  cases x <;> first | (exact fun _ => rfl) | (simp [mt] at h; done)
theorem se_op (o : BOp) {a b : Ex} (iha : SE cl a) (ihb : SE cl b) : SE cl (.op o a b) := by
  have pe : ∀ {X : Cx} {c : SC} {W : WX} {x : Expr}, CtxOk X c cl W → mt (.op o a b) c x = true → PE X x (tE (Gd X) cl W (.op o a b)) := fun {X c W x} ok h => by
    cases x with
    | BinOp l p r pos =>
      have h : (decide (p = bop o) && mt a c l && mt b c r) = true := h
      simp only [Bool.and_eq_true, decide_eq_true_eq] at h
      obtain ⟨⟨rfl, h1⟩, h2⟩ := h
      refine pe_imp (pe_op (opB_ok o) (iha.pe ok h1) (ihb.pe ok h2)) fun σ H Q ⟨φ, F, A, hr, fr, q⟩ => ?_
      refine tE_mono (tE_go2 (β := D) (cl := cl) (e := a) (e2 := b) (f := fun x y A2 => opB A2 o x y) hr fr q) fun x H1 t1 => tE_mono t1 fun y H2 ⟨φ2, A2, d, d2, hr2, fr2, r1, r2, q2⟩ => ?_
      cases e : opB A2 o d d2 with
      | ok r A3 => rw [e] at q2; exact ⟨φ2, A2, d, d2, r, A3, hr2, r1, r2, e, q2.vc⟩
      | exc y A3 => exfalso; revert e; unfold opB; repeat' split
                    all_goals (intro e; cases e)
      | no => rw [e] at q2; exact q2.elim
    | _ => simp [mt] at h
  refine SE.of ⟨fun c xs => by simp [mts], fun c ks vs => by simp [mtd], fun c x => by simp [mto], fun c x => by simp [mtc], fun c x t => by simp [mtw]⟩ pe (fun {X c W x} ok h => pt_of (pe ok h) ?_) (fun ok h => by simp [mt] at h)
  cases x <;> first | (exact fun _ => rfl) | (simp [mt] at h; done)
theorem se_neg {a : Ex} (iha : SE cl a) : SE cl (.neg a) := by
  have pe : ∀ {X : Cx} {c : SC} {W : WX} {x : Expr}, CtxOk X c cl W → mt (.neg a) c x = true → PE X x (tE (Gd X) cl W (.neg a)) := fun {X c W x} ok h => by
    cases x with
    | UnaryOp p l pos =>
      have h : (decide (p = .USub) && mt a c l) = true := h
      simp only [Bool.and_eq_true, decide_eq_true_eq] at h
      obtain ⟨rfl, h1⟩ := h
      refine pe_imp (pe_un un_neg (iha.pe ok h1)) fun σ H Q ⟨φ, F, A, hr, fr, q⟩ => ?_
      refine tE_mono (tE_go (β := D) (cl := cl) (e := a) (f := fun x A1 => match x with | .int i => .ok (.int (-i)) A1 | _ => .no) hr fr q) fun x H1 ⟨φ1, A1, d, hr1, fr1, r1, q1⟩ => ?_
      cases d with
      | int i => cases r1; exact ⟨i, rfl, fin_ok q1 hr1 rfl⟩
      | _ => exact q1.elim
    | _ => simp [mt] at h
  refine SE.of ⟨fun c xs => by simp [mts], fun c ks vs => by simp [mtd], fun c x => by simp [mto], fun c x => by simp [mtc], fun c x t => by simp [mtw]⟩ pe (fun {X c W x} ok h => pt_of (pe ok h) ?_) (fun ok h => by simp [mt] at h)
  cases x with
  | UnaryOp p l pos =>
    have h : (decide (p = .USub) && mt a c l) = true := h
    simp only [Bool.and_eq_true, decide_eq_true_eq] at h
    obtain ⟨rfl, h1⟩ := h
    exact fun _ => rfl
  | _ => simp [mt] at h
theorem cmp_read {X : Cx} {W : WX} {o : COp} {a b : Ex} {σ : L2.St} {H : Hp} {Q : VK} (q : tE (Gd X) cl W (.cmp o a b) σ H Q) : tOp (rC (Gd X) o) (tE (Gd X) cl W a) (tE (Gd X) cl W b) σ H Q := by
  obtain ⟨φ, F, A, hr, fr, q⟩ := q
  refine tE_mono (tE_go2 (β := D) (cl := cl) (e := a) (e2 := b) (f := fun x y A2 => ofO ((opC A2 o x y).map .bl) A2) hr fr q) fun x H1 t1 => tE_mono t1 fun y H2 ⟨φ2, A2, d, d2, hr2, fr2, r1, r2, q2⟩ => ?_
  obtain ⟨v, hv, q3⟩ := q2.ofO
  obtain ⟨k, hk, rfl⟩ := Option.map_eq_some_iff.mp hv
  exact ⟨φ2, A2, d, d2, k, hr2, r1, r2, hk, q3 φ2 H2 .refl hr2 _ rfl⟩
/-- a test's reading, from the value's -/
theorem tT_val {G : Md} {W : WX} {e : Ex} {σ : L2.St} {H : Hp} {Q : Bool → Hp → Prop} (q : tT G cl W e σ H Q) (hb : ∀ F A d A', ev cl e F A = .ok d A' → ∃ b, d = .bl b) : tE G cl W e σ H (fun v H' => ∃ b, v = .bl b ∧ Q b H') := by
  obtain ⟨φ, F, A, hr, fr, q⟩ := q
  refine ⟨φ, F, A, hr, fr, ?_⟩
  have q : okG G φ H (fun c d H' => W c d σ H') (pB Q) (bnd (ev cl e F A) fun d A => ofO (truth A d) A) := q
  cases he : ev cl e F A with
  | ok d A' =>
    obtain ⟨b, rfl⟩ := hb F A d A' he
    rw [he] at q
    exact fun φ' H' e' hr' v r => ⟨b, r, q φ' H' e' hr'⟩
  | exc x A' => rw [he] at q; exact q
  | no => rw [he] at q; exact q.elim
theorem cmp_bl {o : COp} {a b : Ex} {F : Fr} {A A' : AH} {d : D} (h : ev cl (.cmp o a b) F A = .ok d A') : ∃ k, d = .bl k := by
  unfold ev at h
  cases e1 : ev cl a F A with
  | ok x A1 =>
    rw [e1] at h
    simp only [bnd] at h
    cases e2 : ev cl b F A1 with
    | ok y A2 =>
      rw [e2] at h
      simp only [bnd] at h
      cases e3 : opC A2 o x y with
      | some k => rw [e3] at h; cases h; exact ⟨k, rfl⟩
      | none => rw [e3] at h; cases h
    | exc => rw [e2] at h; cases h
    | no => rw [e2] at h; cases h
  | exc => rw [e1] at h; cases h
  | no => rw [e1] at h; cases h
theorem se_cmp (o : COp) {a b : Ex} (iha : SE cl a) (ihb : SE cl b) : SE cl (.cmp o a b) := by
  refine SE.of ⟨fun c xs => by simp [mts], fun c ks vs => by simp [mtd], fun c x => by simp [mto], fun c x => by simp [mtc], fun c x t => by simp [mtw]⟩ ?_ ?_ (fun ok h => by simp [mt] at h)
  · intro X c W x ok h
    cases x with
    | Compare l ps rs pos =>
      rcases ps with _ | ⟨p, _ | _⟩ <;> rcases rs with _ | ⟨r, _ | _⟩ <;> first | (simp [mt] at h; done) | skip
      have h : (decide (p = cop o) && mt a c l && mt b c r) = true := h
      simp only [Bool.and_eq_true, decide_eq_true_eq] at h
      obtain ⟨⟨rfl, h1⟩, h2⟩ := h
      exact pe_imp (pe_cmpR (opC_ok ok.hu o) (iha.pe ok h1) (ihb.pe ok h2) (mark_plain (mt_plain h2))) fun σ H Q q => cmp_read q
    | _ => simp [mt] at h
  · intro X c W x ok h
    cases x with
    | Compare l ps rs pos =>
      rcases ps with _ | ⟨p, _ | _⟩ <;> rcases rs with _ | ⟨r, _ | _⟩ <;> first | (simp [mt] at h; done) | skip
      have h : (decide (p = cop o) && mt a c l && mt b c r) = true := h
      simp only [Bool.and_eq_true, decide_eq_true_eq] at h
      obtain ⟨⟨rfl, h1⟩, h2⟩ := h
      exact pt_imp (pt_cmpR (opC_ok ok.hu o) (iha.pe ok h1) (ihb.pe ok h2) (mark_plain (mt_plain h2))) fun σ H Q q => cmp_read (tT_val q fun F A d A' h => cmp_bl h)
    | _ => simp [mt] at h
end
end Ev

/-! ## EvSnd3 -/
/-! EvSnd3: tests, choices, subscripts, calls. -/
namespace Ev
open PySem PySem.Spec PyProof.Rows L2

section
variable {cl : Cl}
theorem tru_and {a b : Ex} {F : Fr} {A : AH} : tru (ev cl (.and a b) F A) = bnd (tru (ev cl a F A)) fun r A1 => if r then tru (ev cl b F A1) else .ok false A1 := by
  show tru (bnd (ev cl a F A) fun x A1 => bnd (ofO (truth A1 x) A1) fun r A2 => if r then ev cl b F A2 else .ok x A2) = _
  unfold tru
  cases ev cl a F A with
  | ok x A1 =>
    simp only [bnd]
    cases h : truth A1 x with
    | none => rfl
    | some r => cases r with
      | true => rfl
      | false => simp only [ofO, Bool.false_eq_true, if_false]; rw [h]
  | exc y A1 => rfl
  | no => rfl
theorem tru_or {a b : Ex} {F : Fr} {A : AH} : tru (ev cl (.or a b) F A) = bnd (tru (ev cl a F A)) fun r A1 => if r then .ok true A1 else tru (ev cl b F A1) := by
  show tru (bnd (ev cl a F A) fun x A1 => bnd (ofO (truth A1 x) A1) fun r A2 => if r then .ok x A2 else ev cl b F A2) = _
  unfold tru
  cases ev cl a F A with
  | ok x A1 =>
    simp only [bnd]
    cases h : truth A1 x with
    | none => rfl
    | some r => cases r with
      | true => simp only [ofO, if_true]; rw [h]
      | false => rfl
  | exc y A1 => rfl
  | no => rfl
theorem tru_not {a : Ex} {F : Fr} {A : AH} : tru (ev cl (.not a) F A) = bnd (tru (ev cl a F A)) fun r A1 => .ok (!r) A1 := by
  show tru (bnd (ev cl a F A) fun x A1 => ofO ((truth A1 x).map fun b => .bl (!b)) A1) = _
  unfold tru
  cases ev cl a F A with
  | ok x A1 =>
    simp only [bnd]
    cases h : truth A1 x with
    | none => rfl
    | some r => rfl
  | exc y A1 => rfl
  | no => rfl
theorem tru_ite {k a b : Ex} {F : Fr} {A : AH} : tru (ev cl (.ite k a b) F A) = bnd (tru (ev cl k F A)) fun r A1 => if r then tru (ev cl a F A1) else tru (ev cl b F A1) := by
  show tru (bnd (ev cl k F A) fun x A1 => bnd (ofO (truth A1 x) A1) fun r A2 => if r then ev cl a F A2 else ev cl b F A2) = _
  unfold tru
  cases ev cl k F A with
  | ok x A1 =>
    simp only [bnd]
    cases h : truth A1 x with
    | none => rfl
    | some r => cases r <;> rfl
  | exc y A1 => rfl
  | no => rfl
theorem ev_ite {k a b : Ex} {F : Fr} {A : AH} : ev cl (.ite k a b) F A = bnd (tru (ev cl k F A)) fun r A1 => if r then ev cl a F A1 else ev cl b F A1 := by
  show (bnd (ev cl k F A) fun x A1 => bnd (ofO (truth A1 x) A1) fun r A2 => if r then ev cl a F A2 else ev cl b F A2) = _
  unfold tru
  cases ev cl k F A with
  | ok x A1 =>
    simp only [bnd]
  | exc y A1 => rfl
  | no => rfl
theorem tT_go {G : Md} {W : WX} {β : Type} {e : Ex} {σ : L2.St} {H : Hp} {φ : Ph} {F : Fr} {A : AH} {P : β → AH → Ph → Hp → Prop} {f : Bool → AH → Res β} (hr : HR G φ H A) (fr : FR G φ H F σ)
    (ok : okG G φ H (fun c d H' => W c d σ H') P (bnd (tru (ev cl e F A)) f)) :
    tT G cl W e σ H (fun b H1 => ∃ φ1 A1, HR G φ1 H1 A1 ∧ FR G φ1 H1 F σ ∧ okG G φ1 H1 (fun c d H' => W c d σ H') P (f b A1)) :=
  ⟨φ, F, A, hr, fr, ok.bnd.imp fun d A1 φ1 H1 e hr1 q => ⟨φ1, A1, hr1, fr.ext hr e, q⟩⟩
theorem tT_mono {G : Md} {W : WX} {e : Ex} {σ : L2.St} {H : Hp} {Q Q' : Bool → Hp → Prop} (h : tT G cl W e σ H Q) (k : ∀ v H', Q v H' → Q' v H') : tT G cl W e σ H Q' := by
  obtain ⟨φ, F, A, hr, fr, ok⟩ := h
  exact ⟨φ, F, A, hr, fr, ok.imp fun b A φ' H' _ _ q => k _ _ q⟩
theorem and_read {G : Md} {W : WX} {a b : Ex} {σ : L2.St} {H : Hp} {Q : Bool → Hp → Prop} (q : tT G cl W (.and a b) σ H Q) : tAnd (tT G cl W a) (tT G cl W b) σ H Q := by
  obtain ⟨φ, F, A, hr, fr, q⟩ := q
  simp only [tru_and] at q
  refine tT_mono (tT_go hr fr q) fun k H1 ⟨φ1, A1, hr1, fr1, q1⟩ => ?_
  cases k with
  | true => exact ⟨φ1, F, A1, hr1, fr1, q1⟩
  | false => exact q1 φ1 H1 .refl hr1
theorem or_read {G : Md} {W : WX} {a b : Ex} {σ : L2.St} {H : Hp} {Q : Bool → Hp → Prop} (q : tT G cl W (.or a b) σ H Q) : tOr (tT G cl W a) (tT G cl W b) σ H Q := by
  obtain ⟨φ, F, A, hr, fr, q⟩ := q
  simp only [tru_or] at q
  refine tT_mono (tT_go hr fr q) fun k H1 ⟨φ1, A1, hr1, fr1, q1⟩ => ?_
  cases k with
  | true => exact q1 φ1 H1 .refl hr1
  | false => exact ⟨φ1, F, A1, hr1, fr1, q1⟩
theorem tT_of_tE {X : Cx} {W : WX} {e : Ex} {σ : L2.St} {H : Hp} {Q : V → Hp → Prop} {f : D → AH → Bool → Res D} {F : Fr} {A : AH} {φ : Ph} (hr : HR (Gd X) φ H A) (fr : FR (Gd X) φ H F σ)
    (ok : okG (Gd X) φ H (fun c d H' => W c d σ H') (pV (Gd X) Q) (bnd (ev cl e F A) fun x A1 => bnd (ofO (truth A1 x) A1) fun r A2 => f x A2 r)) :
    tE (Gd X) cl W e σ H (fun v H1 => ∃ k, TruV X.K v H1 k ∧ ∃ φ1 A1 d, HR (Gd X) φ1 H1 A1 ∧ FR (Gd X) φ1 H1 F σ ∧ Rep (Gd X) φ1 H1 d v ∧ okG (Gd X) φ1 H1 (fun c d H' => W c d σ H') (pV (Gd X) Q) (f d A1 k)) :=
  tE_mono (tE_go (f := fun x A1 => bnd (ofO (truth A1 x) A1) fun r A2 => f x A2 r) hr fr ok) fun v H1 ⟨φ1, A1, d, hr1, fr1, r1, ok1⟩ => by
    obtain ⟨k, hk, q⟩ := ok1.bnd.ofO
    exact ⟨k, tru_of hr1 r1 hk, φ1, A1, d, hr1, fr1, r1, q φ1 H1 .refl hr1⟩
theorem se_and {a b : Ex} (iha : SE cl a) (ihb : SE cl b) : SE cl (.and a b) := by
  have pw : ∀ {X : Cx} {c : SC} {W : WX} {op : BoolOp} {xs : List Expr} {pos : Pos}, CtxOk X c cl W → mt (.and a b) c (.BoolOp op xs pos) = true → PW X (.BoolOp op xs pos) (tT (Gd X) cl W (.and a b)) := fun {X c W op xs pos} ok h => by
    rcases xs with _ | ⟨l, _ | ⟨r, rest⟩⟩ <;> first | (simp [mt] at h; done) | skip
    have h : (decide (op = .And) && mt a c l && (match (generalizing := false) rest with | [] => mt b c r | _ => mt b c (.BoolOp .And (r :: rest) pos))) = true := h
    simp only [Bool.and_eq_true, decide_eq_true_eq] at h
    obtain ⟨⟨rfl, h1⟩, h2⟩ := h
    refine pw_imp (pw_and (tB' := tT (Gd X) cl W b) (iha.pt ok h1) ?_) fun σ H Q q => and_read q
    cases rest with
    | nil => exact pw_and1 (ihb.pt ok h2)
    | cons => exact ihb.pw ok h2
  refine SE.of ⟨fun c xs => by simp [mts], fun c ks vs => by simp [mtd], fun c x => by simp [mto], fun c x => by simp [mtc], fun c x t => by simp [mtw]⟩ ?_ ?_ pw
  · intro X c W x ok h
    cases x with
    | BoolOp op xs pos =>
      rcases xs with _ | ⟨l, _ | ⟨r, rest⟩⟩ <;> first | (simp [mt] at h; done) | skip
      have h : (decide (op = .And) && mt a c l && (match (generalizing := false) rest with | [] => mt b c r | _ => mt b c (.BoolOp .And (r :: rest) pos))) = true := h
      simp only [Bool.and_eq_true, decide_eq_true_eq] at h
      obtain ⟨⟨rfl, h1⟩, h2⟩ := h
      refine pe_imp (pe_andT (tb := tE (Gd X) cl W b) (iha.pe ok h1) ?_) fun σ H Q ⟨φ, F, A, hr, fr, q⟩ => ?_
      · cases rest with
        | nil => exact pe_one (ihb.pe ok h2)
        | cons => exact ihb.pe ok h2
      · refine tE_mono (tT_of_tE (f := fun x A2 r => if r then ev cl b F A2 else .ok x A2) hr fr q) fun v H1 ⟨k, hk, φ1, A1, d, hr1, fr1, r1, q1⟩ => ⟨k, hk, ?_⟩
        cases k with
        | true => exact ⟨φ1, F, A1, hr1, fr1, q1⟩
        | false => exact fin_ok q1 hr1 r1
    | _ => simp [mt] at h
  · intro X c W x ok h
    cases x with
    | BoolOp op xs pos => exact (pw ok h).pt
    | _ => simp [mt] at h
theorem se_or {a b : Ex} (iha : SE cl a) (ihb : SE cl b) : SE cl (.or a b) := by
  have pw : ∀ {X : Cx} {c : SC} {W : WX} {op : BoolOp} {xs : List Expr} {pos : Pos}, CtxOk X c cl W → mt (.or a b) c (.BoolOp op xs pos) = true → PW X (.BoolOp op xs pos) (tT (Gd X) cl W (.or a b)) := fun {X c W op xs pos} ok h => by
    rcases xs with _ | ⟨l, _ | ⟨r, rest⟩⟩ <;> first | (simp [mt] at h; done) | skip
    have h : (decide (op = .Or) && mt a c l && (match (generalizing := false) rest with | [] => mt b c r | _ => mt b c (.BoolOp .Or (r :: rest) pos))) = true := h
    simp only [Bool.and_eq_true, decide_eq_true_eq] at h
    obtain ⟨⟨rfl, h1⟩, h2⟩ := h
    refine pw_imp (pw_or (tB' := tT (Gd X) cl W b) (iha.pt ok h1) ?_) fun σ H Q q => or_read q
    cases rest with
    | nil => exact pw_or1 (ihb.pt ok h2)
    | cons => exact ihb.pw ok h2
  refine SE.of ⟨fun c xs => by simp [mts], fun c ks vs => by simp [mtd], fun c x => by simp [mto], fun c x => by simp [mtc], fun c x t => by simp [mtw]⟩ ?_ ?_ pw
  · intro X c W x ok h
    cases x with
    | BoolOp op xs pos =>
      rcases xs with _ | ⟨l, _ | ⟨r, rest⟩⟩ <;> first | (simp [mt] at h; done) | skip
      have h : (decide (op = .Or) && mt a c l && (match (generalizing := false) rest with | [] => mt b c r | _ => mt b c (.BoolOp .Or (r :: rest) pos))) = true := h
      simp only [Bool.and_eq_true, decide_eq_true_eq] at h
      obtain ⟨⟨rfl, h1⟩, h2⟩ := h
      refine pe_imp (pe_orT (tb := tE (Gd X) cl W b) (iha.pe ok h1) ?_) fun σ H Q ⟨φ, F, A, hr, fr, q⟩ => ?_
      · cases rest with
        | nil => exact pe_one (ihb.pe ok h2)
        | cons => exact ihb.pe ok h2
      · refine tE_mono (tT_of_tE (f := fun x A2 r => if r then .ok x A2 else ev cl b F A2) hr fr q) fun v H1 ⟨k, hk, φ1, A1, d, hr1, fr1, r1, q1⟩ => ⟨k, hk, ?_⟩
        cases k with
        | true => exact fin_ok q1 hr1 r1
        | false => exact ⟨φ1, F, A1, hr1, fr1, q1⟩
    | _ => simp [mt] at h
  · intro X c W x ok h
    cases x with
    | BoolOp op xs pos => exact (pw ok h).pt
    | _ => simp [mt] at h
theorem se_not {a : Ex} (iha : SE cl a) : SE cl (.not a) := by
  refine SE.of ⟨fun c xs => by simp [mts], fun c ks vs => by simp [mtd], fun c x => by simp [mto], fun c x => by simp [mtc], fun c x t => by simp [mtw]⟩ ?_ ?_ (fun ok h => by simp [mt] at h)
  · intro X c W x ok h
    cases x with
    | UnaryOp p l pos =>
      have h : (decide (p = .Not) && mt a c l) = true := h
      simp only [Bool.and_eq_true, decide_eq_true_eq] at h
      obtain ⟨rfl, h1⟩ := h
      refine pe_imp (pe_notT (iha.pe ok h1)) fun σ H Q ⟨φ, F, A, hr, fr, q⟩ => ?_
      refine tE_mono (tE_go (β := D) (cl := cl) (e := a) (f := fun x A1 => ofO ((truth A1 x).map fun b => .bl (!b)) A1) hr fr q) fun v H1 ⟨φ1, A1, d, hr1, fr1, r1, q1⟩ => ?_
      obtain ⟨b, hb, q2⟩ := q1.ofO
      obtain ⟨k, hk, rfl⟩ := Option.map_eq_some_iff.mp hb
      exact ⟨k, tru_of hr1 r1 hk, q2 φ1 H1 .refl hr1 _ rfl⟩
    | _ => simp [mt] at h
  · intro X c W x ok h
    cases x with
    | UnaryOp p l pos =>
      have h : (decide (p = .Not) && mt a c l) = true := h
      simp only [Bool.and_eq_true, decide_eq_true_eq] at h
      obtain ⟨rfl, h1⟩ := h
      refine pt_imp (pt_not (iha.pt ok h1)) fun σ H Q ⟨φ, F, A, hr, fr, q⟩ => ?_
      simp only [tru_not] at q
      exact tT_mono (tT_go hr fr q) fun k H1 ⟨φ1, A1, hr1, fr1, q1⟩ => q1 φ1 H1 .refl hr1
    | _ => simp [mt] at h
theorem pt_ifExp' {X : Cx} {t l r : Expr} {pos : Pos} {tk ta tb : TT} (hc : PT X t tk) (ha : PT X l ta) (hb : PT X r tb) : PT X (.IfExp t l r pos) (fun σ H Q => tk σ H fun c H1 => if c = true then ta σ H1 Q else tb σ H1 Q) := by
  refine ⟨fun pins s σ H Q I h => ?_⟩
  refine isTrue_IfExp (thn (hc.run pins s σ H _ I h) fun d s1 ⟨H1, I1, q1⟩ => ?_)
  cases d with
  | true => exact ha.run pins s1 σ H1 Q I1 q1
  | false => exact hb.run pins s1 σ H1 Q I1 q1
theorem se_ite {k a b : Ex} (ihk : SE cl k) (iha : SE cl a) (ihb : SE cl b) : SE cl (.ite k a b) := by
  refine SE.of ⟨fun c xs => by simp [mts], fun c ks vs => by simp [mtd], fun c x => by simp [mto], fun c x => by simp [mtc], fun c x t => by simp [mtw]⟩ ?_ ?_ (fun ok h => by simp [mt] at h)
  · intro X c W x ok h
    cases x with
    | IfExp t l r pos =>
      have h : (mt k c t && mt a c l && mt b c r) = true := h
      simp only [Bool.and_eq_true] at h
      obtain ⟨⟨h0, h1⟩, h2⟩ := h
      refine pe_imp (pe_ifExp (ihk.pt ok h0) (iha.pe ok h1) (ihb.pe ok h2)) fun σ H Q ⟨φ, F, A, hr, fr, q⟩ => ?_
      rw [ev_ite] at q
      refine tT_mono (tT_go hr fr q) fun k H1 ⟨φ1, A1, hr1, fr1, q1⟩ => ?_
      cases k with
      | true => exact ⟨φ1, F, A1, hr1, fr1, q1⟩
      | false => exact ⟨φ1, F, A1, hr1, fr1, q1⟩
    | _ => simp [mt] at h
  · intro X c W x ok h
    cases x with
    | IfExp t l r pos =>
      have h : (mt k c t && mt a c l && mt b c r) = true := h
      simp only [Bool.and_eq_true] at h
      obtain ⟨⟨h0, h1⟩, h2⟩ := h
      refine pt_imp (pt_ifExp' (ihk.pt ok h0) (iha.pt ok h1) (ihb.pt ok h2)) fun σ H Q ⟨φ, F, A, hr, fr, q⟩ => ?_
      simp only [tru_ite] at q
      refine tT_mono (tT_go hr fr q) fun k H1 ⟨φ1, A1, hr1, fr1, q1⟩ => ?_
      cases k with
      | true => exact ⟨φ1, F, A1, hr1, fr1, q1⟩
      | false => exact ⟨φ1, F, A1, hr1, fr1, q1⟩
    | _ => simp [mt] at h
theorem chain_plain {o p : CmpOp} {b d : Expr} (h : plainB d = true) : lastMarks [o, p] [b, d] = false := by
  cases d <;> first | rfl | (cases h; done)
theorem chn_read {X : Cx} {W : WX} {o p : COp} {a b d : Ex} {σ : L2.St} {H : Hp} {Q : VK} (q : tE (Gd X) cl W (.chn o p a b d) σ H Q) : tChain (rC (Gd X) o) (rC (Gd X) p) (tE (Gd X) cl W a) (tE (Gd X) cl W b) (tE (Gd X) cl W d) σ H Q := by
  obtain ⟨φ, F, A, hr, fr, q⟩ := q
  refine tE_mono (tE_go2 (β := D) (cl := cl) (e := a) (e2 := b) (f := fun x y A2 => bnd (ofO (opC A2 o x y) A2) fun r A3 => if r then bnd (ev cl d F A3) fun z A4 => ofO ((opC A4 p y z).map .bl) A4 else .ok (.bl false) A3) hr fr q)
    fun x H1 t1 => tE_mono t1 fun y H2 ⟨φ2, A2, d1, d2, hr2, fr2, r1, r2, q2⟩ => ?_
  obtain ⟨k, hk, q3⟩ := q2.bnd.ofO
  have q3 := q3 φ2 H2 .refl hr2
  refine ⟨φ2, A2, d1, d2, k, hr2, r1, r2, hk, k, rfl, ?_⟩
  cases k with
  | false => exact fin_ok q3 hr2 rfl
  | true =>
    refine ⟨φ2, F, A2, hr2, fr2, q3.bnd.imp fun d3 A3 φ3 H3 e3 hr3 q4 z rz => ?_⟩
    obtain ⟨v, hv, q5⟩ := q4.ofO
    obtain ⟨k2, hk2, rfl⟩ := Option.map_eq_some_iff.mp hv
    exact ⟨φ3, A3, d2, d3, k2, hr3, r2.ext hr2 e3, rz, hk2, q5 φ3 H3 .refl hr3 _ rfl⟩
theorem chn_bl {o p : COp} {a b d : Ex} {F : Fr} {A A' : AH} {z : D} (h : ev cl (.chn o p a b d) F A = .ok z A') : ∃ k, z = .bl k := by
  unfold ev at h
  cases e1 : ev cl a F A with
  | ok x A1 =>
    rw [e1] at h
    simp only [bnd] at h
    cases e2 : ev cl b F A1 with
    | ok y A2 =>
      rw [e2] at h
      simp only [bnd] at h
      cases e3 : opC A2 o x y with
      | some k =>
        rw [e3] at h
        simp only [ofO] at h
        cases k with
        | false => cases h; exact ⟨false, rfl⟩
        | true =>
          simp only [if_true] at h
          cases e4 : ev cl d F A2 with
          | ok w A3 =>
            rw [e4] at h
            simp only [bnd] at h
            cases e5 : opC A3 p y w with
            | some k => rw [e5] at h; cases h; exact ⟨k, rfl⟩
            | none => rw [e5] at h; cases h
          | exc => rw [e4] at h; cases h
          | no => rw [e4] at h; cases h
      | none => rw [e3] at h; cases h
    | exc => rw [e2] at h; cases h
    | no => rw [e2] at h; cases h
  | exc => rw [e1] at h; cases h
  | no => rw [e1] at h; cases h
theorem se_chn (o p : COp) {a b d : Ex} (iha : SE cl a) (ihb : SE cl b) (ihd : SE cl d) : SE cl (.chn o p a b d) := by
  refine SE.of ⟨fun c xs => by simp [mts], fun c ks vs => by simp [mtd], fun c x => by simp [mto], fun c x => by simp [mtc], fun c x t => by simp [mtw]⟩ ?_ ?_ (fun ok h => by simp [mt] at h)
  · intro X c W x ok h
    cases x with
    | Compare l ps rs pos =>
      rcases ps with _ | ⟨p1, _ | ⟨p2, _ | _⟩⟩ <;> rcases rs with _ | ⟨r, _ | ⟨z, _ | _⟩⟩ <;> first | (simp [mt] at h; done) | skip
      have h : (decide (p1 = cop o) && decide (p2 = cop p) && mt a c l && mt b c r && mt d c z) = true := h
      simp only [Bool.and_eq_true, decide_eq_true_eq] at h
      obtain ⟨⟨⟨⟨rfl, rfl⟩, h1⟩, h2⟩, h3⟩ := h
      exact pe_imp (pe_chain (opC_ok ok.hu o) (opC_ok ok.hu p) (iha.pe ok h1) (ihb.pe ok h2) (ihd.pe ok h3) (chain_plain (mt_plain h3))) fun σ H Q q => chn_read q
    | _ => simp [mt] at h
  · intro X c W x ok h
    cases x with
    | Compare l ps rs pos =>
      rcases ps with _ | ⟨p1, _ | ⟨p2, _ | _⟩⟩ <;> rcases rs with _ | ⟨r, _ | ⟨z, _ | _⟩⟩ <;> first | (simp [mt] at h; done) | skip
      have h : (decide (p1 = cop o) && decide (p2 = cop p) && mt a c l && mt b c r && mt d c z) = true := h
      simp only [Bool.and_eq_true, decide_eq_true_eq] at h
      obtain ⟨⟨⟨⟨rfl, rfl⟩, h1⟩, h2⟩, h3⟩ := h
      exact pt_imp (pt_chain (opC_ok ok.hu o) (opC_ok ok.hu p) (iha.pe ok h1) (ihb.pe ok h2) (ihd.pe ok h3) (chain_plain (mt_plain h3))) fun σ H Q q => chn_read (tT_val q fun F A d A' h => chn_bl h)
    | _ => simp [mt] at h
theorem se_ix {a i : Ex} (iha : SE cl a) (ihi : SE cl i) : SE cl (.ix a i) := by
  have pe : ∀ {X : Cx} {c : SC} {W : WX} {x : Expr}, CtxOk X c cl W → mt (.ix a i) c x = true → PE X x (tE (Gd X) cl W (.ix a i)) := fun {X c W x} ok h => by
    cases x with
    | Subscript l r pos =>
      have h : (mt a c l && mt i c r) = true := h
      simp only [Bool.and_eq_true] at h
      refine pe_imp (pe_ix (ix_ok ok.hu) (iha.pe ok h.1) (ihi.pe ok h.2) (sub_plain (mt_plain h.2))) fun σ H Q ⟨φ, F, A, hr, fr, q⟩ => ?_
      refine tE_mono (tE_go2 (β := D) (cl := cl) (e := a) (e2 := i) (f := fun x y A2 => ofO (opI A2 x y) A2) hr fr q) fun x H1 t1 => tE_mono t1 fun y H2 ⟨φ2, A2, d, d2, hr2, fr2, r1, r2, q2⟩ => ?_
      obtain ⟨v, hv, q3⟩ := q2.ofO
      exact ⟨φ2, A2, d, d2, v, hr2, r1, r2, hv, fun φ' H' w e hr' rw' => q3 φ' H' e hr' w rw'⟩
    | _ => simp [mt] at h
  refine SE.of ⟨fun c xs => by simp [mts], fun c ks vs => by simp [mtd], fun c x => by simp [mto], fun c x => by simp [mtc], fun c x t => by simp [mtw]⟩ pe (fun {X c W x} ok h => pt_of (pe ok h) ?_) (fun ok h => by simp [mt] at h)
  cases x <;> first | (exact fun _ => rfl) | (simp [mt] at h; done)
theorem opS_exc {A A' : AH} {d : D} {l u : Option Int} {y : Xc} (h : opS A d l u = .exc y A') : False := by
  unfold opS at h
  repeat' split at h
  all_goals cases h
theorem se_sl {a lo hi : Ex} (iha : SE cl a) (ihl : SE cl lo) (ihh : SE cl hi) : SE cl (.sl a lo hi) := by
  have pe : ∀ {X : Cx} {c : SC} {W : WX} {x : Expr}, CtxOk X c cl W → mt (.sl a lo hi) c x = true → PE X x (tE (Gd X) cl W (.sl a lo hi)) := fun {X c W x} ok h => by
    cases x with
    | Subscript l r pos =>
      cases r with
      | Slice u v st p2 =>
        cases st with
        | some _ => simp [mt] at h
        | none =>
          have h : (mt a c l && mto lo c u && mto hi c v) = true := h
          simp only [Bool.and_eq_true] at h
          obtain ⟨⟨h1, h2⟩, h3⟩ := h
          refine pe_imp (pe_slice sl_ok (iha.pe ok h1) (ihl.po ok h2) (ihh.po ok h3)) fun σ H Q ⟨φ, F, A, hr, fr, q⟩ => ?_
          refine tE_mono (tE_go (β := D) (cl := cl) (e := a) (f := fun x A1 => bnd (evo cl lo F A1) fun l A2 => bnd (evo cl hi F A2) fun h A3 => opS A3 x l h) hr fr q) fun x H1 ⟨φ1, A1, d, hr1, fr1, r1, q1⟩ => ?_
          refine ⟨φ1, F, A1, hr1, fr1, q1.bnd.imp fun ol A2 φ2 H2 e2 hr2 q2 => ?_⟩
          refine ⟨φ2, F, A2, hr2, fr1.ext hr1 e2, q2.bnd.imp fun oh A3 φ3 H3 e3 hr3 q3 => ?_⟩
          cases e : opS A3 d ol oh with
          | ok r A4 => rw [e] at q3; exact ⟨φ3, A3, d, r, A4, hr3, (r1.ext hr1 e2).ext hr2 e3, e, q3.vc⟩
          | exc y A4 => exact (opS_exc e).elim
          | no => rw [e] at q3; exact q3.elim
      | _ => simp [mt] at h
    | _ => simp [mt] at h
  refine SE.of ⟨fun c xs => by simp [mts], fun c ks vs => by simp [mtd], fun c x => by simp [mto], fun c x => by simp [mtc], fun c x t => by simp [mtw]⟩ pe (fun {X c W x} ok h => pt_of (pe ok h) ?_) (fun ok h => by simp [mt] at h)
  cases x <;> first | (exact fun _ => rfl) | (simp [mt] at h; done)
end
end Ev

/-! ## EvSnd4 -/
/-! EvSnd4: calls, rows, displays of dicts. -/
namespace Ev
open PySem PySem.Spec PyProof.Rows L2

theorem okG.keep {G : Md} {α β : Type} {φ φ1 : Ph} {H H1 : Hp} {W : Value → Option Addr → Hp → Prop} {P : β → AH → Ph → Hp → Prop} {r : Res α} {f : α → AH → Res β} (h : okG G φ H W P (Ev.bnd r f)) (x : Ext φ H φ1 H1) :
    okG G φ1 H1 W (fun a A _ _ => okG G φ H W P (f a A)) r := by
  cases r with
  | ok a A => exact fun φ' H' e _ => h
  | exc y A => exact okG.ext (r := (.exc y A : Res β)) h x
  | no => exact h
/-! ### rows -/
section
variable {cl : Cl}
theorem se_nil : SE cl .nil where
  pe := fun _ h => by simp [mt] at h
  pt := fun _ h => by simp [mt] at h
  pw := fun _ h => by simp [mt] at h
  pa := fun {X c W xs} ok h => by
    cases xs with
    | nil => exact pa_imp pa_nil fun σ H Q ⟨φ, F, A, hr, fr, q⟩ => q φ H .refl hr [] rfl
    | cons => simp [mts] at h
  pd := fun {X c W ks vs pos} ok h => by
    cases ks with
    | cons => simp [mtd] at h
    | nil =>
      cases vs with
      | cons => simp [mtd] at h
      | nil =>
        refine ⟨[], pps_nil, rfl, rfl, fun σ H Q ⟨φ, F, A, hr, fr, q⟩ => ?_⟩
        obtain ⟨kvs, e, k⟩ := q φ H .refl hr
        cases e
        exact k [] rfl
  po := fun {X c W o} ok h => by
    cases o with
    | some => simp [mto] at h
    | none => exact ⟨fun pins s σ H Q I ⟨φ, F, A, hr, fr, q⟩ => po_none.run pins s σ H Q I (q φ H .refl hr)⟩
  pc := fun {X c W xs} ok h => by
    cases xs with
    | cons => simp [mtc] at h
    | nil => exact ⟨fun pins s σ H Q I ⟨φ, F, A, hr, fr, q⟩ => pts_nil.run pins s σ H Q I (q φ H .refl hr)⟩
  pi := fun _ h => by simp [mtw] at h
theorem pa_of {a r : Ex} (iha : SE cl a) (ihr : SE cl r) {X : Cx} {c : SC} {W : WX} {xs : List Expr} (ok : CtxOk X c cl W) (h : mts (.cons a r) c xs = true) : PA X xs (tA (Gd X) cl W (.cons a r)) := by
  cases xs with
  | nil => simp [mts] at h
  | cons x xs =>
    have h : (mt a c x && mts r c xs) = true := h
    simp only [Bool.and_eq_true] at h
    refine pa_imp (pa_cons (iha.pe ok h.1) (ihr.pa ok h.2) (star_plain (mt_plain h.1))) fun σ H Q ⟨φ, F, A, hr, fr, q⟩ => ?_
    refine tE_mono (tE_go (β := List D) (cl := cl) (e := a) (f := fun x A1 => bnd (evs cl r F A1) fun xs A2 => .ok (x :: xs) A2) hr fr q) fun x H1 ⟨φ1, A1, d, hr1, fr1, r1, q1⟩ => ?_
    exact ⟨φ1, F, A1, hr1, fr1, q1.bnd.imp fun ds A2 φ2 H2 e2 hr2 q2 vs rv => q2 φ2 H2 .refl hr2 _ (.cons (r1.ext hr1 e2) rv)⟩
theorem po_of {a : Ex} (iha : SE cl a) {X : Cx} {c : SC} {W : WX} {r : Ex} {o : Option Expr} (ok : CtxOk X c cl W) (h : mto (.cons a r) c o = true) : PO X o (tO (Gd X) cl W (.cons a r)) := by
  cases o with
  | none => simp [mto] at h
  | some x =>
    have h : mt a c x = true := h
    refine ⟨fun pins s σ H Q I ⟨φ, F, A, hr, fr, q⟩ => (po_some (iha.pe ok h)).run pins s σ H Q I ?_⟩
    refine tE_mono (tE_go (β := Option Int) (cl := cl) (e := a) (f := fun x A1 => match x with | .int i => .ok (some i) A1 | _ => .no) hr fr q) fun x H1 ⟨φ1, A1, d, hr1, fr1, r1, q1⟩ => ?_
    cases d with
    | int i => cases r1; exact ⟨i, rfl, q1 φ1 H1 .refl hr1⟩
    | _ => exact q1.elim
theorem pc_of {a : Ex} (iha : SE cl a) {X : Cx} {c : SC} {W : WX} {r : Ex} {xs : List Expr} (ok : CtxOk X c cl W) (h : mtc (.cons a r) c xs = true) : PTs X xs (tCd (Gd X) cl W (.cons a r)) := by
  rcases xs with _ | ⟨x, _ | _⟩ <;> first | (simp [mtc] at h; done) | skip
  have h : mt a c x = true := h
  exact ⟨fun pins s σ H Q I q => (pts_one (iha.pt ok h)).run pins s σ H Q I q⟩
theorem pairUp_key {k v : D} {r : List D} {kvs : List (D × D)} (h : pairUp (k :: v :: r) = some kvs) : keyOk k = true ∧ ∃ m, pairUp r = some m ∧ kvs = (k, v) :: m := by
  unfold pairUp at h
  split at h
  · rename_i hk
    obtain ⟨m, e, rfl⟩ := Option.map_eq_some_iff.mp h
    exact ⟨hk, m, e, rfl⟩
  · cases h
theorem evs_two {a b r : Ex} {F : Fr} {A : AH} : evs cl (.cons a (.cons b r)) F A = bnd (ev cl a F A) fun x A1 => bnd (ev cl b F A1) fun y A2 => bnd (evs cl r F A2) fun ys A3 => .ok (x :: y :: ys) A3 := by
  show (bnd (ev cl a F A) fun x A1 => bnd (bnd (ev cl b F A1) fun y A2 => bnd (evs cl r F A2) fun ys A3 => .ok (y :: ys) A3) fun xs A2 => .ok (x :: xs) A2) = _
  cases ev cl a F A with
  | ok x A1 =>
    simp only [bnd]
    cases ev cl b F A1 with
    | ok y A2 =>
      simp only []
      cases evs cl r F A2 <;> rfl
    | exc => rfl
    | no => rfl
  | exc => rfl
  | no => rfl
theorem pd_of {a b r : Ex} (iha : SE cl a) (ihb : SE cl b) (ihr : SE cl r) {X : Cx} {c : SC} {W : WX} {ks : List (Option Expr)} {vs : List Expr} {pos : Pos} (ok : CtxOk X c cl W) (h : mtd (.cons a (.cons b r)) c ks vs = true) :
    ∃ trs, PPs X pos ks vs trs ∧ ks.all (·.isSome) = true ∧ ks.length = vs.length ∧
      ∀ (σ : L2.St) (H : Hp) (Q : List (V × V) → Hp → Prop), tG (Gd X) W (evs cl (.cons a (.cons b r))) σ H (fun ds A φ H' => ∃ kvs, pairUp ds = some kvs ∧ ∀ ps, KReps (Gd X) φ H' kvs ps → Q (ps.map fun kv => (kV kv.1, kv.2)) H') → tPairs trs σ H Q := by
  rcases ks with _ | ⟨_ | k, ks⟩ <;> rcases vs with _ | ⟨v, vs⟩ <;> first | (simp [mtd] at h; done) | skip
  have h : (mt a c k && mt b c v && mtd r c ks vs) = true := h
  simp only [Bool.and_eq_true] at h
  obtain ⟨⟨h1, h2⟩, h3⟩ := h
  obtain ⟨trs, pp, p1, p2, p3⟩ := ihr.pd (pos := pos) ok h3
  refine ⟨_, pps_cons (iha.pe ok h1) (ihb.pe ok h2) pp, by simpa using p1, by simp [p2], fun σ H Q ⟨φ, F, A, hr, fr, q⟩ => ?_⟩
  have q : okG (Gd X) φ H (fun c d H' => W c d σ H') _ (evs cl (.cons a (.cons b r)) F A) := q
  rw [evs_two] at q
  refine tE_mono (tE_go2 (β := List D) (cl := cl) (e := a) (e2 := b) (f := fun x y A2 => bnd (evs cl r F A2) fun ys A3 => .ok (x :: y :: ys) A3) hr fr q) fun x H1 t1 => tE_mono t1 fun y H2 ⟨φ2, A2, d, d2, hr2, fr2, r1, r2, q2⟩ => ?_
  refine p3 σ H2 (fun ps H3 => Q ((x, y) :: ps) H3) ⟨φ2, F, A2, hr2, fr2, q2.bnd.imp fun ds A3 φ3 H3 e3 hr3 q3 => ?_⟩
  obtain ⟨kvs, e, k⟩ := q3 φ3 H3 .refl hr3
  obtain ⟨hk, m, em, rfl⟩ := pairUp_key e
  obtain ⟨j, rfl, kr⟩ := KR.key hk r1
  exact ⟨m, em, fun ps rp => k ((j, y) :: ps) ⟨j, y, ps, rfl, kr, r2.ext hr2 e3, rp⟩⟩
theorem se_cons {a r : Ex} (iha : SE cl a) (ihr : SE cl r) (ihd : ∀ b s, r = .cons b s → SE cl b ∧ SE cl s) : SE cl (.cons a r) where
  pe := fun _ h => by simp [mt] at h
  pt := fun _ h => by simp [mt] at h
  pw := fun _ h => by simp [mt] at h
  pa := pa_of iha ihr
  pd := fun {X c W ks vs pos} ok h => by
    cases r with
    | cons b s => exact pd_of iha (ihd b s rfl).1 (ihd b s rfl).2 ok h
    | _ => simp [mtd] at h
  po := po_of iha
  pc := pc_of iha
  pi := fun _ h => by simp [mtw] at h
theorem se_dct {es : Ex} (ih : SE cl es) : SE cl (.dct es) := by
  have pe : ∀ {X : Cx} {c : SC} {W : WX} {x : Expr}, CtxOk X c cl W → mt (.dct es) c x = true → PE X x (tE (Gd X) cl W (.dct es)) := fun {X c W x} ok h => by
    cases x with
    | Dict ks vs p =>
      have h : (mtd es c ks vs && decide (ks.length ≤ 15)) = true := h
      simp only [Bool.and_eq_true, decide_eq_true_eq] at h
      obtain ⟨trs, pp, p1, p2, p3⟩ := ih.pd (pos := p) ok h.1
      by_cases h0 : ks = []
      · subst h0
        have hv : vs = [] := List.eq_nil_of_length_eq_zero p2.symm
        subst hv
        refine pe_imp pe_dnewK fun σ H Q ⟨φ, F, A, hr, fr, q⟩ p hp => ?_
        have he : es = .nil := by
          cases es with
          | nil => rfl
          | cons a r => cases r <;> simp [mtd] at h
          | _ => simp [mtd] at h
        subst he
        have q : okG (Gd X) φ H (fun c d H' => W c d σ H') (pV (Gd X) Q) (.ok (.ref A.length) (A ++ [.dct []])) := q
        exact q.vc.new hr hp ⟨[], rfl, rfl⟩
      · refine pe_imp (pe_disp pp p1 p2 h0 h.2) fun σ H Q ⟨φ, F, A, hr, fr, q⟩ p hp => ?_
        have x0 : Ext φ H φ (upd H p (.dK [])) := Ext.beside hp
        refine p3 σ _ _ ⟨φ, F, A, hr.beside hp, fr.ext hr x0, (okG.keep (α := List D) (r := evs cl es F A) q x0).imp fun ds A1 φ1 H1 x1 hr1 q1 => ?_⟩
        obtain ⟨lk, np⟩ := x1.laid (hr.notMemN hp)
        cases e : pairUp ds with
        | none => rw [e] at q1; exact q1.elim
        | some kvs =>
          rw [e] at q1
          by_cases hl : kvs.length ≤ 15
          · simp only [if_pos hl] at q1
            refine ⟨kvs, rfl, fun ps rp => ⟨lk, ps, rfl, by rw [rp.length]; exact hl, ?_⟩⟩
            refine q1 (φ1 ++ [p]) _ (x1.lay hp) (hr1.lay lk (fun z => z) np ⟨mergeK [] ps, rfl, KReps.merge rp rfl⟩) (.ref p) ⟨p, ?_, rfl⟩
            rw [← hr1.len]; simp
          · simp only [if_neg hl] at q1; exact q1.elim
    | _ => simp [mt] at h
  refine SE.of ⟨fun c xs => by simp [mts], fun c ks vs => by simp [mtd], fun c x => by simp [mto], fun c x => by simp [mtc], fun c x t => by simp [mtw]⟩ pe (fun {X c W x} ok h => pt_of (pe ok h) ?_) (fun ok h => by simp [mt] at h)
  cases x <;> first | (exact fun _ => rfl) | (simp [mt] at h; done)

/-! ### calls -/
theorem glB_gl {X : Cx} {c : SC} {W : WX} {n : Str} (ok : CtxOk X c cl W) (h : glB c.sc n = true) : Gl X n ∧ ((n == ("__debug__" : Str)) = false) ∧ n ≠ "__name__" := by
  simp only [Bool.and_eq_true, decide_eq_true_eq, glB] at h
  refine ⟨?_, h.1.2, h.2⟩
  show X.env.scope.names.lookup _ = _
  rw [ok.sc]; exact h.1.1
theorem se_call (f : String) {es : Ex} (ih : SE cl es) : SE cl (.call f es) := by
  have pe : ∀ {X : Cx} {c : SC} {W : WX} {x : Expr}, CtxOk X c cl W → mt (.call f es) c x = true → PE X x (tE (Gd X) cl W (.call f es)) := fun {X c W x} ok h => by
    cases x with
    | Call fn xs kws pos =>
      cases fn with
      | Name n np =>
        cases kws with
        | cons => simp [mt] at h
        | nil =>
          have h : (decide (n = Str.ofString f) && decide (f ≠ "super") && glB c.sc n && c.fns.contains f && mts es c xs) = true := h
          simp only [Bool.and_eq_true, decide_eq_true_eq] at h
          obtain ⟨⟨⟨⟨rfl, _⟩, hg⟩, hf⟩, hx⟩ := h
          obtain ⟨g1, g2, g3⟩ := glB_gl ok hg
          obtain ⟨fa, fd, ps, k, hm, hk, hb, F, hr⟩ := (ok.calls f (by simpa using hf)).ex
          have rd : ∀ σ H Q, tE (Gd X) cl W (.call f es) σ H Q → tCallSD (spEv (Gd X) cl f) [] (WE W) (tA (Gd X) cl W es) σ H Q := fun σ H Q ⟨φ, F, A, hr, fr, q⟩ => by
            obtain ⟨φ', F', A', hr', fr', o'⟩ := tA_go (β := D) (cl := cl) (e := es) (f := fun ds A1 => cl f ds A1) hr fr q
            refine ⟨φ', F', A', hr', fr', o'.imp fun ds A1 φ1 H1 _ _ q vs rv => ?_⟩
            obtain ⟨φ2, A2, ds2, hr2, fr2, r2, o2⟩ := q vs rv
            exact ⟨φ2, A2, ds2, hr2, by rw [List.append_nil]; exact r2, o2⟩
          cases xs with
          | cons x xs =>
            have hp := mts_plain hx
            simp only [List.all_cons, Bool.and_eq_true] at hp
            exact pe_imp (pe_callSD F hr g1 hm hk hb .nil (fun σ => passAt ok.tk σ) (ih.pa ok hx) g2 (star_plain hp.1) (back_none hp.2)) rd
          | nil =>
            refine ⟨fun pins s σ H Q I h => ?_⟩
            have h := rd σ H Q h
            have he : es = .nil := by
              cases es <;> first | rfl | (simp [mts] at hx; done)
            subst he
            obtain ⟨φ, F', A, hr', fr', q⟩ := h
            have q := q φ H .refl hr' [] rfl
            refine wpAny_Call_Name_kw (ld_glob I g1 hm ?_ g2)
            exact PySem.W.callWith_K0 I.kIn hk (run_fnSD (us := []) F hr hb .nil (passAt ok.tk σ) I .nil q)
      | _ => simp [mt] at h
    | _ => simp [mt] at h
  refine SE.of ⟨fun c xs => by simp [mts], fun c ks vs => by simp [mtd], fun c x => by simp [mto], fun c x => by simp [mtc], fun c x t => by simp [mtw]⟩ pe (fun {X c W x} ok h => pt_of (pe ok h) ?_) (fun ok h => by simp [mt] at h)
  cases x <;> first | (exact fun _ => rfl) | (simp [mt] at h; done)

theorem bi_rule {X : Cx} {c : SC} {W : WX} (ok : CtxOk X c cl W) {f : String} (h : (biNames.contains f || tyBi.contains f) = true) : X.mg (Str.ofString f) = none ∧
    ((∃ id, bootBuiltins (Str.ofString f) = some (.builtin id) ∧ CallR X (.builtin id) (rBi (Gd X) fun A ds => biF A f ds)) ∨ ∃ T, bootBuiltins (Str.ofString f) = some (.type T) ∧ CallR X (.type T) (rBi (Gd X) fun A ds => biF A f ds)) := by
  have hm : f ∈ biNames ++ tyBi := by
    rw [List.mem_append]
    simpa using h
  refine ⟨ok.bn f (by rw [List.mem_append]; exact .inl hm), ?_⟩
  have h : f = "len" ∨ f = "abs" ∨ f = "isinstance" ∨ f = "sum" ∨ f = "sorted" ∨ f = "tuple" ∨ f = "list" ∨ f = "dict" ∨ f = "int" := by simpa [biNames, tyBi] using hm
  rcases h with rfl | rfl | rfl | rfl | rfl | rfl | rfl | rfl | rfl
  · exact .inl ⟨_, by decide +kernel, len_ok⟩
  · exact .inl ⟨_, by decide +kernel, abs_ok⟩
  · exact .inl ⟨_, by decide +kernel, isi_ok ok.fb⟩
  · exact .inl ⟨_, by decide +kernel, sum_ok ok.calm⟩
  · exact .inl ⟨_, by decide +kernel, sorted_ok ok.calm⟩
  · exact .inr ⟨_, by decide +kernel, tuple_ok⟩
  · exact .inr ⟨_, by decide +kernel, list_ok⟩
  · exact .inr ⟨_, by decide +kernel, dict_ok⟩
  · exact .inr ⟨_, by decide +kernel, int_ok⟩
theorem biF_exc {A A' : AH} {f : String} {ds : List D} {y : Xc} (h : biF A f ds = .exc y A') : False := by
  unfold biF biLen biTuple biList biDict biInt biAbs biIsi biSum biSorted ofO at h
  repeat' split at h
  all_goals cases h
theorem se_bi (f : String) {es : Ex} (ih : SE cl es) : SE cl (.bi f es) := by
  have pe : ∀ {X : Cx} {c : SC} {W : WX} {x : Expr}, CtxOk X c cl W → mt (.bi f es) c x = true → PE X x (tE (Gd X) cl W (.bi f es)) := fun {X c W x} ok h => by
    cases x with
    | Call fn xs kws pos =>
      cases fn with
      | Name n np =>
        cases kws with
        | cons => simp [mt] at h
        | nil =>
          have h : (decide (n = Str.ofString f) && decide (f ≠ "super") && glB c.sc n && (biNames.contains f || tyBi.contains f) && !xs.isEmpty && mts es c xs) = true := h
          simp only [Bool.and_eq_true, decide_eq_true_eq] at h
          obtain ⟨⟨⟨⟨⟨rfl, _⟩, hg⟩, hf⟩, hne⟩, hx⟩ := h
          obtain ⟨g1, g2, g3⟩ := glB_gl ok hg
          have rd : ∀ σ H Q, tE (Gd X) cl W (.bi f es) σ H Q → tCB (rBi (Gd X) fun A ds => biF A f ds) (tA (Gd X) cl W es) σ H Q := fun σ H Q ⟨φ, F, A, hr, fr, q⟩ => by
            obtain ⟨φ', F', A', hr', fr', o'⟩ := tA_go (β := D) (cl := cl) (e := es) (f := fun ds A1 => biF A1 f ds) hr fr q
            refine ⟨φ', F', A', hr', fr', o'.imp fun ds A1 φ1 H1 _ _ q vs rv => ?_⟩
            obtain ⟨φ2, A2, ds2, hr2, fr2, r2, o2⟩ := q vs rv
            cases e : biF A2 f ds2 with
            | ok r A3 => rw [e] at o2; exact ⟨φ2, A2, ds2, r, A3, hr2, r2, e, o2.vc⟩
            | exc y A3 => exact (biF_exc e).elim
            | no => rw [e] at o2; exact o2.elim
          cases xs with
          | nil => cases hne
          | cons x xs =>
            have hp := mts_plain hx
            simp only [List.all_cons, Bool.and_eq_true] at hp
            obtain ⟨hm, ⟨id, hv, hc⟩ | ⟨T, hv, hc⟩⟩ := bi_rule ok hf
            · exact pe_imp (pe_callB hc g1 hm hv (ih.pa ok hx) g3 g2 (star_plain hp.1) (back_none hp.2)) rd
            · exact pe_imp (pe_callTy hc g1 hm hv (ih.pa ok hx) g3 g2 (star_plain hp.1) (back_none hp.2)) rd
      | _ => simp [mt] at h
    | _ => simp [mt] at h
  refine SE.of ⟨fun c xs => by simp [mts], fun c ks vs => by simp [mtd], fun c x => by simp [mto], fun c x => by simp [mtc], fun c x t => by simp [mtw]⟩ pe (fun {X c W x} ok h => pt_of (pe ok h) ?_) (fun ok h => by simp [mt] at h)
  cases x <;> first | (exact fun _ => rfl) | (simp [mt] at h; done)
end
end Ev

/-! ## EvSnd5 -/
/-! EvSnd5: methods of lists and dicts; what is walked. -/
namespace Ev
open PySem PySem.Spec PyProof.Rows L2
def tyM : Bool → String
  | false => "list"
  | true => "dict"
theorem mt_rule {X : Cx} (hu : X.A.units + 64 < cLine) {k : Bool} {m : String} {f : MF} (h : mtG k m = some f) :
    ∃ id, PlainAttrs (tyM k) ∧ Slot (tyM k) (Str.ofString m) id ∧ typeOf (.builtin id) = pure (.type "method_descriptor") ∧ MtM X id (rMt (Gd X) f) := by
  unfold mtG at h
  split at h <;> split at h <;> first | (cases h; done) | skip
  · cases h; exact ⟨_, PySem.F.plainAttrs_list, PySem.F.slot_list_append, PySem.F.type_list_append, append_ok⟩
  · cases h; exact ⟨_, PySem.F.plainAttrs_list, PySem.F.slot_list_extend, PySem.F.type_list_extend, extend_ok⟩
  · cases h; exact ⟨_, PySem.F.plainAttrs_list, PySem.F.slot_list_pop, PySem.F.type_list_pop, lpop_ok⟩
  · cases h; exact ⟨_, PySem.F.plainAttrs_dict, PySem.F.slot_dict_get, PySem.F.type_dict_get, get_ok hu⟩
  · cases h; exact ⟨_, PySem.F.plainAttrs_dict, PySem.F.slot_dict_pop, PySem.F.type_dict_pop, dpop_ok⟩
  · cases h; exact ⟨_, PySem.F.plainAttrs_dict, PySem.F.slot_dict_update, PySem.F.type_dict_update, update_ok⟩
theorem mtG_exc {k : Bool} {m : String} {f : MF} {A A' : AH} {n : Nat} {ds : List D} {y : Xc} (h : mtG k m = some f) (e : f A n ds = .exc y A') : False := by
  unfold mtG at h
  split at h <;> split at h <;> first | (cases h; done) | skip
  all_goals
    cases h
    revert e
    simp only [mtAppend, mtExtend, mtLPop, mtDPop, mtPop, mtGet, mtUpdate]
    repeat' split
    all_goals (intro e; cases e)
section
variable {cl : Cl}
theorem tyV_mk {G : Md} {φ : Ph} {H : Hp} {A : AH} {d : D} {v : V} {k : Bool} (hr : HR G φ H A) (r : Rep G φ H d v) (h : mkD A d = some k) : tyV G.K (tyM k) v H ∧ ∃ n, d = .ref n := by
  unfold mkD at h
  split at h
  · rename_i n
    split at h
    · rename_i xs hx
      cases h
      obtain ⟨a, ea, rfl⟩ := r
      obtain ⟨vs, e, _⟩ := hr.lst hx ea
      exact ⟨.inl ⟨rfl, vs, .inl (.inl e)⟩, n, rfl⟩
    · rename_i kvs hx
      cases h
      obtain ⟨a, ea, rfl⟩ := r
      obtain ⟨ks, e, _⟩ := hr.dct hx ea
      exact ⟨.inr (.inr (.inl ⟨rfl, .inl ⟨ks, e⟩⟩)), n, rfl⟩
    · cases h
  · cases h
theorem mkM_of {A : AH} {m : String} {d : D} {k : Bool} (h : mkM A m d = some k) : mkD A d = some k ∧ ∃ f, mtG k m = some f := by
  unfold mkM at h
  split at h
  · rename_i k' e
    split at h
    · rename_i h'
      cases h
      exact ⟨e, Option.isSome_iff_exists.mp h'⟩
    · cases h
  · cases h
theorem backKw {cpos : Pos} {env : Env} : (backToKw cpos (keywordEach [] env)).all (fun x => x.1.isSome) = true := rfl
theorem back_all {xs : List Expr} {env : Env} {pos : Pos} (h : xs.all plainB = true) : (backTo pos (starEach xs env)).all (fun x => !x.1) = true := by
  rw [star_all h]
  simp [backTo]
theorem se_mth (m : String) {o es : Ex} (iho : SE cl o) (ih : SE cl es) : SE cl (.mth m o es) := by
  have pe : ∀ {X : Cx} {c : SC} {W : WX} {x : Expr}, CtxOk X c cl W → mt (.mth m o es) c x = true → PE X x (tE (Gd X) cl W (.mth m o es)) := fun {X c W x} ok h => by
    cases x with
    | Call fn xs kws pos =>
      cases fn with
      | Attribute l n apos =>
        cases kws with
        | cons => simp [mt] at h
        | nil =>
          have h : (decide (n = Str.ofString m) && (apos.endLine == pos.line) && mtNames.contains m && decide (xs.length < 29) && mt o c l && mts es c xs) = true := h
          simp only [Bool.and_eq_true, decide_eq_true_eq] at h
          obtain ⟨⟨⟨⟨⟨rfl, hl⟩, _⟩, h29⟩, h1⟩, hx⟩ := h
          have hp := mts_plain hx
          refine ⟨fun pins s σ H Q I ⟨φ, F, A, hr, fr, q⟩ => ?_⟩
          have t := tE_go (β := D) (cl := cl) (e := o) (f := fun x A1 => bnd (ofO (mkM A1 m x) A1) fun k A2 => bnd (evs cl es F A2) fun ds A3 => mtF A3 k m x ds) hr fr q
          refine wpAny_Call_method_late (attr_plain h1) (by simp only [back_all hp, backKw]; simp; omega) hl rfl (thn ((iho.pe ok h1).run pins s σ H _ I t) fun v s1 ⟨x, H1, I1, r1, φ1, A1, d, hr1, fr1, rd, q1⟩ => ?_)
          obtain ⟨k, hk, q2⟩ := q1.bnd.ofO
          have q2 := q2 φ1 H1 .refl hr1
          obtain ⟨hk, f, hG⟩ := mkM_of hk
          obtain ⟨ty, nn, rfl⟩ := tyV_mk hr1 rd hk
          obtain ⟨id, pa, slot, hty, hm⟩ := mt_rule ok.hu hG
          obtain ⟨y1, y2⟩ := tyV_is I1 r1 ty
          refine ⟨tyM k, id, pa, slot, hty, y1, y2, ?_⟩
          have ta : tA (Gd X) cl W es σ H1 (fun vs H2 => rMt (Gd X) f x vs H2 Q) := by
            refine ⟨φ1, F, A1, hr1, fr1, q2.bnd.imp fun ds A2 φ2 H2 e2 hr2 q3 vs rv => ?_⟩
            have rd2 := Rep.ext hr1 e2 rd
            have q3 : okG (Gd X) φ2 H2 _ (pV (Gd X) Q) (match mtG k m with | some f => f A2 nn ds | none => .no) := q3
            rw [hG] at q3
            cases e : f A2 nn ds with
            | ok r A3 => simp only [e] at q3; exact ⟨φ2, A2, nn, ds, r, A3, hr2, rd2, rv, e, q3.vc⟩
            | exc y A3 => exact (mtG_exc hG e).elim
            | no => simp only [e] at q3; exact q3.elim
          have hA := (ih.pa ok hx).run pos pins s1 σ H1 _ I1 ta
          refine Calls.callWith_builtin (back_none hp) ?_
          have fin := thn hA fun us s2 ⟨vs, H2, I2, r2, q2⟩ => hm pins s2 σ H2 x vs v us Q I2 r1 r2 q2
          cases xs with
          | nil =>
            have he : es = .nil := by
              cases es <;> first | rfl | (simp [mts] at hx; done)
            subst he
            obtain ⟨φ3, F3, A3, hr3, fr3, q3⟩ := ta
            exact PySem.evalArgs_none (hm pins s1 σ H1 x [] v [] Q I1 r1 .nil (q3 φ3 H1 .refl hr3 [] rfl))
          | cons x xs =>
            simp only [List.all_cons, Bool.and_eq_true] at hp
            rw [star_plain hp.1] at fin ⊢
            exact Calls.evalArgs_plain fin
      | _ => simp [mt] at h
    | _ => simp [mt] at h
  refine SE.of ⟨fun c xs => by simp [mts], fun c ks vs => by simp [mtd], fun c x => by simp [mto], fun c x => by simp [mtc], fun c x t => by simp [mtw]⟩ pe (fun {X c W x} ok h => pt_of (pe ok h) ?_) (fun ok h => by simp [mt] at h)
  cases x <;> first | (exact fun _ => rfl) | (simp [mt] at h; done)
end
end Ev

/-! ## EvSnd6 -/
/-! EvSnd6: what is walked. -/
namespace Ev
open PySem PySem.Spec PyProof.Rows L2
/-- a list or a tuple that is walked -/
def SrcOk (G : Md) (φ0 : Ph) (H0 : Hp) (xs : List D) (g : Guard) (b : Bool) (a : Addr) : Prop :=
  ∀ φ H A, Ext φ0 H0 φ H → HR G φ H A → gOk A g = true → ∃ vs, SqB b G.K H a vs ∧ Reps G φ H xs vs
theorem src_of {G : Md} {φ : Ph} {H : Hp} {A : AH} {d : D} {v : V} {w : Wk} (hr : HR G φ H A) (r : Rep G φ H d v) (e : wkOf A d = some w) (hn : w.lock = none) :
    ∃ b a, v = .ref a ∧ SrcOk G φ H w.items w.g b a ∧ gOk A w.g = true := by
  unfold wkOf at e
  split at e
  · rename_i xs
    cases e
    obtain ⟨a, vs, rfl, sq, rs⟩ := r
    exact ⟨true, a, rfl, fun φ1 H1 A1 x hr1 _ => ⟨vs, SqT.ext hr x sq, rs.ext hr x⟩, rfl⟩
  · rename_i xs
    cases e
    obtain ⟨a, vs, rfl, sq, rs⟩ := r
    exact ⟨false, a, rfl, fun φ1 H1 A1 x hr1 _ => ⟨vs, (FzL.ext hr x sq).sq, rs.ext hr x⟩, rfl⟩
  · rename_i n
    split at e
    · rename_i xs hx
      cases e
      obtain ⟨a, ea, rfl⟩ := r
      refine ⟨false, a, rfl, fun φ1 H1 A1 x hr1 g => ?_, by simp [gOk, hx]⟩
      have hg : A1[n]? = some (.lst xs) := by simpa [gOk] using g
      obtain ⟨vs, e, rs⟩ := hr1.lst hg (x.get ea)
      exact ⟨vs, .inl (.inl e), rs⟩
    · cases e; cases hn
    · cases e
  · cases e
theorem enum_get : ∀ {xs : List D} {k i : Nat} {d : D}, (enumD k xs)[i]? = some d → ∃ y, d = .tup [.int ((k + i : Nat) : Int), y] ∧ xs[i]? = some y
  | [], _, _, _, e => by simp [enumD] at e
  | x :: xs, k, 0, d, e => by
    simp [enumD] at e
    exact ⟨x, e.symm, rfl⟩
  | x :: xs, k, i + 1, d, e => by
    have e : (enumD (k + 1) xs)[i]? = some d := by simpa [enumD] using e
    obtain ⟨y, h1, h2⟩ := enum_get e
    exact ⟨y, by rw [h1]; congr 3; congr 1; omega, by simpa using h2⟩
theorem enum_len : ∀ (xs : List D) (k : Nat), (enumD k xs).length = xs.length
  | [], _ => rfl
  | x :: xs, k => by simp [enumD, enum_len xs]
theorem zip_get : ∀ {xs ys : List D} {i : Nat} {d : D}, (zipD xs ys)[i]? = some d → ∃ x y, d = .tup [x, y] ∧ xs[i]? = some x ∧ ys[i]? = some y
  | [], _, _, _, e => by simp [zipD] at e
  | x :: xs, [], _, _, e => by simp [zipD] at e
  | x :: xs, y :: ys, 0, d, e => by
    simp [zipD] at e
    exact ⟨x, y, e.symm, rfl, rfl⟩
  | x :: xs, y :: ys, i + 1, d, e => by
    have e : (zipD xs ys)[i]? = some d := by simpa [zipD] using e
    obtain ⟨u, v, h1, h2, h3⟩ := zip_get e
    exact ⟨u, v, h1, by simpa using h2, by simpa using h3⟩
theorem zip_len : ∀ (xs ys : List D), (zipD xs ys).length = min xs.length ys.length
  | [], ys => by simp [zipD]
  | x :: xs, [] => by simp [zipD]
  | x :: xs, y :: ys => by simp [zipD, zip_len xs ys]
section
variable {G : Md} {φ0 : Ph} {H0 : Hp} {xs ys : List D} {g k : Guard} {a c : Addr} {b b2 : Bool} {l : Option Nat}
theorem wk_list (s : SrcOk G φ0 H0 xs g false a) : WkIt G φ0 H0 ⟨xs, g, l⟩ (Itl G.K a) where
  step := fun φ H A i d x hr hg e => by
    obtain ⟨vs, sq, rs⟩ := s φ H A x hr hg
    obtain ⟨v, ev, rv⟩ := rs.get e
    exact ⟨⟨vs, v, sq, ev⟩, fun y H' ⟨e1, e2⟩ => by
      subst e1
      have := e2 vs sq
      rw [ev] at this; cases this
      exact ⟨.refl, hr, rv⟩⟩
  stop := fun φ H A x hr hg => by
    obtain ⟨vs, sq, rs⟩ := s φ H A x hr hg
    exact ⟨vs, sq, Nat.le_of_eq rs.length⟩
theorem wk_tup (s : SrcOk G φ0 H0 xs g true a) : WkIt G φ0 H0 ⟨xs, g, l⟩ (Itt G.K a) where
  step := fun φ H A i d x hr hg e => by
    obtain ⟨vs, sq, rs⟩ := s φ H A x hr hg
    obtain ⟨v, ev, rv⟩ := rs.get e
    exact ⟨⟨vs, v, sq, ev⟩, fun y H' ⟨e1, e2⟩ => by
      subst e1
      have := e2 vs sq
      rw [ev] at this; cases this
      exact ⟨.refl, hr, rv⟩⟩
  stop := fun φ H A x hr hg => by
    obtain ⟨vs, sq, rs⟩ := s φ H A x hr hg
    exact ⟨vs, sq, Nat.le_of_eq rs.length⟩
theorem wk_enum (s : SrcOk G φ0 H0 xs g b a) : WkIt G φ0 H0 ⟨enumD 0 xs, g, l⟩ (IteB b G.K a) where
  step := fun φ H A i d x hr hg e => by
    obtain ⟨vs, sq, rs⟩ := s φ H A x hr hg
    obtain ⟨y, rfl, ey⟩ := enum_get e
    obtain ⟨v, ev, rv⟩ := rs.get ey
    refine ⟨⟨vs, v, sq, ev⟩, fun z H' ⟨T, u, e1, hT, e2, e3⟩ => ?_⟩
    subst e1 e2
    have := e3 vs sq
    rw [ev] at this; cases this
    have x1 : Ext φ H φ (upd H T (.tup [.int ((i : Nat) : Int), v])) := Ext.beside hT
    exact ⟨x1, hr.beside hT, T, _, rfl, .inl (.inl upd_same), Reps.cons (by rw [Nat.zero_add]; rfl) (Reps.cons (rv.ext hr x1) .nil)⟩
  stop := fun φ H A x hr hg => by
    obtain ⟨vs, sq, rs⟩ := s φ H A x hr hg
    exact ⟨vs, sq, by rw [rs.length]; exact (enum_len xs 0).symm⟩
theorem gOk_app {A : AH} : gOk A (g ++ k) = (gOk A g && gOk A k) := by simp [gOk, List.all_append]
theorem wk_zip (s : SrcOk G φ0 H0 xs g b a) (t : SrcOk G φ0 H0 ys k b2 c) : WkIt G φ0 H0 ⟨zipD xs ys, g ++ k, l⟩ (ItzB b b2 G.K a c) where
  step := fun φ H A i d x hr hg e => by
    have hg : gOk A (g ++ k) = true := hg
    rw [gOk_app, Bool.and_eq_true] at hg
    obtain ⟨vs, sq, rs⟩ := s φ H A x hr hg.1
    obtain ⟨ws, sq2, rs2⟩ := t φ H A x hr hg.2
    obtain ⟨y, z, rfl, ey, ez⟩ := zip_get e
    obtain ⟨v, ev, rv⟩ := rs.get ey
    obtain ⟨w, ew, rw⟩ := rs2.get ez
    refine ⟨⟨vs, ws, v, w, sq, sq2, ev, ew⟩, fun z H' ⟨T, u1, u2, e1, hT, e2, e3, e4⟩ => ?_⟩
    subst e1 e2
    have := e3 vs sq
    rw [ev] at this; cases this
    have := e4 ws sq2
    rw [ew] at this; cases this
    have x1 : Ext φ H φ (upd H T (.tup [v, w])) := Ext.beside hT
    exact ⟨x1, hr.beside hT, T, _, rfl, .inl (.inl upd_same), Reps.cons (rv.ext hr x1) (Reps.cons (rw.ext hr x1) .nil)⟩
  stop := fun φ H A x hr hg => by
    have hg : gOk A (g ++ k) = true := hg
    rw [gOk_app, Bool.and_eq_true] at hg
    obtain ⟨vs, sq, rs⟩ := s φ H A x hr hg.1
    obtain ⟨ws, sq2, rs2⟩ := t φ H A x hr hg.2
    exact ⟨vs, ws, sq, sq2, by rw [rs.length, rs2.length]; exact (zip_len xs ys).symm⟩
theorem wk_rng {lo hi : Int} : WkIt G φ0 H0 ⟨rngD lo hi, [], l⟩ (Itr lo (hi - lo).toNat) where
  step := fun φ H A i d x hr hg e => by
    obtain ⟨h1, h2⟩ := List.getElem?_eq_some_iff.mp e
    have h1 : i < (hi - lo).toNat := by simpa [rngD] using h1
    refine ⟨h1, fun y H' ⟨e1, e2⟩ => ?_⟩
    subst e1 e2
    refine ⟨.refl, hr, ?_⟩
    have : d = .int (lo + i) := by rw [← h2]; simp [rngD]
    subst this
    exact rfl
  stop := fun φ H A x hr hg => by
    show (hi - lo).toNat ≤ _
    simp [rngD]
end
section
variable {X : Cx} {pins : List (Addr × Obj)} {σ : L2.St} {H : Hp} {s : Shared} {R : It → Hp → Prop} {tg : Expr} {E : Value → Shared → Prop}
theorem it_list {a : Addr} {xs : List V} (I : L2.Inv X pins σ H s) (h : SqL X.K H a xs) (q : R (Itl X.K a) H) : wpAny (model X.prog X.w) X.A (pyIter (.ref a)) (PIE X pins σ tg R) E s := by
  obtain ⟨its, rv, p, hz⟩ := I.list h
  exact wpAny_pyIter_list p.isList (pi_one (tk := s.toks) I _ (turn_list a _) ⟨_, Heap.get?_push_size _ rfl, rfl, rfl⟩ q)
theorem it_tup {a : Addr} {xs : List V} (I : L2.Inv X pins σ H s) (h : SqT X.K H a xs) (q : R (Itt X.K a) H) : wpAny (model X.prog X.w) X.A (pyIter (.ref a)) (PIE X pins σ tg R) E s := by
  obtain ⟨its, rv, p, hz⟩ := I.tuple h
  exact wpAny_pyIter_tuple (show s.heap.IsTuple a its.toArray from p) (pi_one (tk := s.toks) I _ (turn_tuple a _) ⟨_, Heap.get?_push_size _ rfl, rfl, rfl⟩ q)
theorem it_keys {d : Addr} {o : Obj} {kvs : List (Key × V)} (I : L2.Inv X pins σ H s) (h : H d = some (.frz o (.dK kvs))) (q : R (Itk d o kvs) H) : wpAny (model X.prog X.w) X.A (pyIter (.ref d)) (PIE X pins σ tg R) E s := by
  obtain ⟨hs, hgd, hx, es, ep, vs, hdt, hsz, kv, hm⟩ := I.frzK h
  refine iter_keys hs hgd hx hdt (pi_one (tk := s.toks) I _ (turn_keys _ hdt) ⟨_, Heap.get?_push_size _ rfl, rfl, ?_⟩ q)
  rw [hsz] <;> rfl
end
/-- where a walk starts over a list or a tuple -/
theorem src_begins {X : Cx} {pins : List (Addr × Obj)} {σ : L2.St} {H : Hp} {s : Shared} {b : Bool} {a : Addr} {xs : List V} (I : L2.Inv X pins σ H s) (h : SqB b X.K H a xs) :
    a < s.heap.objs.size ∧ ∃ (o : Obj) (P : Heap → Prop), Begins (.ref a) o P ∧ P s.heap ∧ ∀ (h' : Heap) (it : Addr), h'.get? it = some o → ItB b h' it a 0 := by
  cases b with
  | true =>
    obtain ⟨its, rv, p, hz⟩ := I.tuple h
    obtain ⟨o1, ho1, _⟩ := id p
    exact ⟨Heap.lt_size ho1, _, _, begins_tuple a its.toArray, p, fun h' it e => ⟨_, e, rfl, rfl⟩⟩
  | false =>
    obtain ⟨its, rv, p, hz⟩ := I.list h
    exact ⟨p.lt, _, _, begins_list a its.toArray, p.isList, fun h' it e => ⟨_, e, rfl, rfl⟩⟩
section
variable {cl : Cl}
theorem lock_of {G : Md} {φ : Ph} {H : Hp} {A : AH} {d : D} {v : V} {w : Wk} {n : Nat} (hr : HR G φ H A) (r : Rep G φ H d v) (e : wkOf A d = some w) (hn : w.lock = some n) :
    ∃ a kvs ks, v = .ref a ∧ φ[n]? = some a ∧ A[n]? = some (.dct kvs) ∧ H a = some (.dK ks) ∧ KReps G φ H kvs ks ∧ w = ⟨kvs.map (·.1), [(n, .lk kvs)], some n⟩ := by
  unfold wkOf at e
  split at e
  · cases e; cases hn
  · cases e; cases hn
  · rename_i m
    split at e
    · cases e; cases hn
    · rename_i kvs hx
      cases e
      cases hn
      obtain ⟨a, ea, rfl⟩ := r
      obtain ⟨ks, e, rk⟩ := hr.dct hx ea
      exact ⟨a, kvs, ks, rfl, ea, hx, e, rk, rfl⟩
    · cases e
  · cases e
theorem wk_keys {G : Md} {φ0 : Ph} {H0 : Hp} {kvs : List (D × D)} {ks : List (Key × V)} {n : Nat} {a : Addr} {o : Obj} {A0 : AH} (hr0 : HR G φ0 H0 A0) (ea : φ0[n]? = some a) (h : H0 a = some (.frz o (.dK ks))) (rk : KReps G φ0 H0 kvs ks) :
    WkIt G φ0 H0 ⟨kvs.map (·.1), [(n, .lk kvs)], some n⟩ (Itk a o ks) where
  step := fun φ H A i d x hr hg e => by
    have hk : H a = some (.frz o (.dK ks)) := x.frz _ _ _ h
    have rk' := rk.ext hr0 x
    obtain ⟨v, ev, rv⟩ := rk'.keys.get e
    have hi : i < ks.length := by
      have := (List.getElem?_eq_some_iff.mp ev).1
      simpa using this
    refine ⟨⟨hk, hi⟩, fun y H' ⟨e1, k, v', e2, e3⟩ => ?_⟩
    subst e1 e3
    rw [List.getElem?_map, e2] at ev
    cases ev
    exact ⟨.refl, hr, rv⟩
  stop := fun φ H A x hr hg => by
    refine ⟨x.frz _ _ _ h, ?_⟩
    rw [List.length_map, rk.length]
    exact Nat.le_refl _
theorem se_wk {e : Ex} (ih : SE cl e) : SE cl (.wk e) where
  pe := fun _ h => by simp [mt] at h
  pt := fun _ h => by simp [mt] at h
  pw := fun _ h => by simp [mt] at h
  pa := fun _ h => by simp [mts] at h
  pd := fun _ h => by simp [mtd] at h
  po := fun _ h => by simp [mto] at h
  pc := fun _ h => by simp [mtc] at h
  pi := fun {X c W x tg} ok h => by
    have h : mt e c x = true := h
    refine ⟨fun pins s σ H R I ⟨φ, F, A, hr, fr, q⟩ => ?_⟩
    have t := tE_go (β := Wk) (cl := cl) (e := e) (f := fun x A1 => ofO (wkOf A1 x) A1) hr fr q
    refine thn ((ih.pe ok h).run pins s σ H _ I t) fun v s1 ⟨x, H1, I1, r1, φ1, A1, d, hr1, fr1, rd, q1⟩ => ?_
    obtain ⟨w, hw, q2⟩ := q1.ofO
    have q2 := q2 φ1 H1 .refl hr1
    cases hl : w.lock with
    | none =>
      obtain ⟨b, a, rfl, so, _⟩ := src_of hr1 rd hw hl
      cases r1
      have q3 := fun J => q2 H1 J (fun _ => rfl) (fun n e => by rw [hl] at e; cases e) (by rw [hl]; exact hr1)
      obtain ⟨vs, sq, _⟩ := so φ1 H1 A1 .refl hr1 (src_of hr1 rd hw hl).choose_spec.choose_spec.2.2
      obtain ⟨its, g, l⟩ := w
      cases hl
      cases b with
      | true => exact it_tup I1 sq (q3 _ (wk_tup so))
      | false => exact it_list I1 sq (q3 _ (wk_list so))
    | some n =>
      obtain ⟨a, kvs, ks, rfl, ea, hA, hH, rk, rfl⟩ := lock_of hr1 rd hw hl
      cases r1
      obtain ⟨o, I2⟩ := I1.lock hH trivial
      have nf : NF H1 a := .dK hH
      have x1 : Ext φ1 H1 φ1 (upd H1 a (.frz o (.dK ks))) := Ext.set (List.mem_of_getElem? ea) nf
      have hr2 : HR (Gd X) φ1 (upd H1 a (.frz o (.dK ks))) (A1.set n (.lk kvs)) := hr1.set ea nf ⟨o, ks, rfl, rk⟩
      have hlk : lockA A1 (some n) = A1.set n (.lk kvs) := by
        show (match A1[n]? with | some (.dct kvs) => A1.set n (.lk kvs) | _ => A1) = _
        rw [hA]
      refine it_keys I2 upd_same (q2 _ _ (fun z => by cases z) (fun m em => ?_) (by show HR _ _ _ (lockA A1 (some n)); rw [hlk]; exact hr2) (wk_keys hr2 ea upd_same (rk.ext hr1 x1)))
      cases em
      exact ⟨a, o, ks, ea, hH, rfl, I1.nofrz hH trivial⟩
theorem mg_of {X : Cx} {c : SC} {W : WX} (ok : CtxOk X c cl W) {x : String} (h : x ∈ ["enumerate", "zip", "range"]) : X.mg (Str.ofString x) = none := ok.bn x (by rw [List.mem_append]; exact .inr h)
theorem wk_none {A : AH} {d : D} {xs : List D} {g : Guard} {w : Wk} (h : wkEnum A d = some w) : ∃ u, wkOf A d = some u ∧ u.lock = none ∧ w = ⟨enumD 0 u.items, u.g, none⟩ := by
  unfold wkEnum at h
  split at h
  · rename_i xs g e
    cases h
    exact ⟨_, e, rfl, rfl⟩
  · cases h
theorem wk_none2 {A : AH} {d e : D} {w : Wk} (h : wkZip A d e = some w) : ∃ u v, wkOf A d = some u ∧ wkOf A e = some v ∧ u.lock = none ∧ v.lock = none ∧ w = ⟨zipD u.items v.items, u.g ++ v.g, none⟩ := by
  unfold wkZip at h
  split at h
  · rename_i xs g ys k e1 e2
    cases h
    exact ⟨_, _, e1, e2, rfl, rfl, rfl⟩
  · cases h
theorem se_enm {e : Ex} (ih : SE cl e) : SE cl (.enm e) where
  pe := fun _ h => by simp [mt] at h
  pt := fun _ h => by simp [mt] at h
  pw := fun _ h => by simp [mt] at h
  pa := fun _ h => by simp [mts] at h
  pd := fun _ h => by simp [mtd] at h
  po := fun _ h => by simp [mto] at h
  pc := fun _ h => by simp [mtc] at h
  pi := fun {X c W x tg} ok h => by
    cases tg <;> first | (simp [mtw, isTup] at h; done) | skip
    rename_i elts kk tpos
    cases x <;> first | (simp [mtw, isTup] at h; done) | skip
    rename_i fn xs kws pos
    cases fn <;> first | (simp [mtw, isTup] at h; done) | skip
    rename_i n np
    rcases xs with _ | ⟨l, _ | _⟩ <;> cases kws <;> first | (simp [mtw, isTup] at h; done) | skip
    have h : (true && (decide (n = "enumerate") && glB c.sc n && mt e c l)) = true := h
    simp only [Bool.true_and, Bool.and_eq_true, decide_eq_true_eq] at h
    obtain ⟨⟨rfl, hg⟩, h1⟩ := h
    obtain ⟨g1, g2, g3⟩ := glB_gl ok hg
    refine ⟨fun pins s σ H R I ⟨φ, F, A, hr, fr, q⟩ => ?_⟩
    have t := tE_go (β := Wk) (cl := cl) (e := e) (f := fun x A1 => ofO (wkEnum A1 x) A1) hr fr q
    have ha : PA X [l] (tCons (tE (Gd X) cl W e) tNil) := pa_cons (ih.pe ok h1) pa_nil (star_plain (mt_plain h1))
    refine wpAny_Call_Name_kw (ld_blt I g1 (mg_of ok (x := "enumerate") (by decide)) PyProof.Rows.boot_enumerate (PyProof.Rows.callWith_type1 (thn (ha.run pos pins s σ H (fun vs H1 => ∃ x, vs = [x] ∧ ∃ φ1 A1 d, HR (Gd X) φ1 H1 A1 ∧ FR (Gd X) φ1 H1 F σ ∧ Rep (Gd X) φ1 H1 d x ∧ okG (Gd X) φ1 H1 (fun c d H' => W c d σ H') _ (ofO (wkEnum A1 d) A1)) I (tE_mono t fun x H1 z => ⟨x, rfl, z⟩)) fun us s1 ⟨vs, H1, I1, r1, x, ex, φ1, A1, d, hr1, fr1, rd, q1⟩ => ?_) (star_plain (mt_plain h1)) rfl))
    subst ex
    obtain ⟨u, rfl, ru⟩ := Vals.one r1
    obtain ⟨w, hw, q2⟩ := q1.ofO
    have q2 := q2 φ1 H1 .refl hr1
    obtain ⟨w0, hw0, hl, rfl⟩ := wk_none (xs := []) (g := []) hw
    obtain ⟨b, a, rfl, so, sg⟩ := src_of hr1 rd hw0 hl
    cases ru
    obtain ⟨vs, sq, _⟩ := so φ1 H1 A1 .refl hr1 sg
    obtain ⟨lt, o, P, B, hP, hI⟩ := src_begins I1 sq
    refine ev_enum1_begins B hP fun h' he ho hsz hk => wpAny_pyIter_enum he ?_
    have I2 : L2.Inv X pins σ H1 { s1 with heap := h' } := I1.kept (t' := s1.toks) hk
    have n3 : s1.heap.objs.size + 1 ≠ a := Nat.ne_of_gt (Nat.lt_succ_of_lt lt)
    have n2 : a ≠ s1.heap.objs.size := Nat.ne_of_lt lt
    refine ⟨s1.heap.objs.size + 1, [s1.heap.objs.size + 1, s1.heap.objs.size], _, _, H1, rfl, I2, turn_enumB (b := b) (a := a) (e := s1.heap.objs.size + 1) (it := s1.heap.objs.size) (Nat.succ_ne_self _) n2 n3, ⟨⟨.none, he⟩, hI _ _ ho⟩, fun c hc => ?_, q2 H1 _ (fun _ => rfl) (fun n e => by cases e) hr1 (wk_enum so)⟩
    have e' : c = s1.heap.objs.size + 1 ∨ c = s1.heap.objs.size := by simpa using hc
    have hle : s1.heap.objs.size ≤ c := by
      rcases e' with z | z
      · rw [z]; exact Nat.le_add_right _ _
      · rw [z]; exact Nat.le_refl _
    exact I1.fpOk hle (I1.hok.fresh hle)
theorem se_zip {e e2 : Ex} (ih : SE cl e) (ih2 : SE cl e2) : SE cl (.zip e e2) where
  pe := fun _ h => by simp [mt] at h
  pt := fun _ h => by simp [mt] at h
  pw := fun _ h => by simp [mt] at h
  pa := fun _ h => by simp [mts] at h
  pd := fun _ h => by simp [mtd] at h
  po := fun _ h => by simp [mto] at h
  pc := fun _ h => by simp [mtc] at h
  pi := fun {X c W x tg} ok h => by
    cases tg <;> first | (simp [mtw, isTup] at h; done) | skip
    rename_i elts kk tpos
    cases x <;> first | (simp [mtw, isTup] at h; done) | skip
    rename_i fn xs kws pos
    cases fn <;> first | (simp [mtw, isTup] at h; done) | skip
    rename_i n np
    rcases xs with _ | ⟨l, _ | ⟨r, _ | _⟩⟩ <;> cases kws <;> first | (simp [mtw, isTup] at h; done) | skip
    have h : (true && (decide (n = "zip") && glB c.sc n && mt e c l && mt e2 c r)) = true := h
    simp only [Bool.true_and, Bool.and_eq_true, decide_eq_true_eq] at h
    obtain ⟨⟨⟨rfl, hg⟩, h1⟩, h2⟩ := h
    obtain ⟨g1, g2, g3⟩ := glB_gl ok hg
    refine ⟨fun pins s σ H R I ⟨φ, F, A, hr, fr, q⟩ => ?_⟩
    have t := tE_go2 (β := Wk) (cl := cl) (e := e) (e2 := e2) (f := fun x y A2 => ofO (wkZip A2 x y) A2) hr fr q
    have ha : PA X [l, r] (tCons (tE (Gd X) cl W e) (tCons (tE (Gd X) cl W e2) tNil)) := pa_cons (ih.pe ok h1) (pa_cons (ih2.pe ok h2) pa_nil (star_plain (mt_plain h2))) (star_plain (mt_plain h1))
    refine wpAny_Call_Name_kw (ld_blt I g1 (mg_of ok (x := "zip") (by decide)) PyProof.Rows.boot_zip (PyProof.Rows.callWith_type1 (thn (ha.run pos pins s σ H (fun vs H1 => ∃ x y, vs = [x, y] ∧ ∃ φ1 A1 d d2, HR (Gd X) φ1 H1 A1 ∧ FR (Gd X) φ1 H1 F σ ∧ Rep (Gd X) φ1 H1 d x ∧ Rep (Gd X) φ1 H1 d2 y ∧ okG (Gd X) φ1 H1 (fun c d H' => W c d σ H') _ (ofO (wkZip A1 d d2) A1)) I (tE_mono t fun x H1 z => tE_mono z fun y H2 z2 => ⟨x, y, rfl, z2⟩)) fun us s1 ⟨vs, H1, I1, r1, x, y, ex, φ1, A1, d, d2, hr1, fr1, rd, rd2, q1⟩ => ?_) (star_plain (mt_plain h1)) (back_none (xs := [r]) (by simp [mt_plain h2]))))
    subst ex
    obtain ⟨u, u2, rfl, ru, ru2⟩ := Vals.two r1
    obtain ⟨w, hw, q2⟩ := q1.ofO
    have q2 := q2 φ1 H1 .refl hr1
    obtain ⟨w0, w1, hw0, hw1, hl, hl1, rfl⟩ := wk_none2 hw
    obtain ⟨b, a, rfl, so, sg⟩ := src_of hr1 rd hw0 hl
    obtain ⟨b2, a2, rfl, so2, sg2⟩ := src_of hr1 rd2 hw1 hl1
    cases ru
    cases ru2
    obtain ⟨vs, sq, _⟩ := so φ1 H1 A1 .refl hr1 sg
    obtain ⟨vs2, sq2, _⟩ := so2 φ1 H1 A1 .refl hr1 sg2
    obtain ⟨lt, o, P, B, hP, hI⟩ := src_begins I1 sq
    obtain ⟨lt2, o2, P2, B2, hP2, hI2⟩ := src_begins I1 sq2
    refine zip_begins2 B B2 hP hP2 fun h' hz hTI hTO ho1 ho2 hsz hk => wpAny_pyIter_zip hz ?_
    have I2 : L2.Inv X pins σ H1 { s1 with heap := h' } := I1.kept (t' := s1.toks) hk
    have ap : Apart2 (s1.heap.objs.size + 4) (s1.heap.objs.size + 2) (s1.heap.objs.size + 3) s1.heap.objs.size (s1.heap.objs.size + 1) a a2 :=
      ⟨zip_sep2 (N := s1.heap.objs.size) (fp1 := [a]) (fp2 := [a2]) (fun b hb => by rw [List.mem_singleton.mp hb]; exact lt) (fun b hb => by rw [List.mem_singleton.mp hb]; exact lt2), Nat.ne_of_lt lt, Nat.ne_of_lt (Nat.lt_succ_of_lt lt2)⟩
    refine ⟨s1.heap.objs.size + 4, [s1.heap.objs.size + 4, s1.heap.objs.size + 2, s1.heap.objs.size + 3, s1.heap.objs.size, s1.heap.objs.size + 1], _, _, H1, rfl, I2, turn_zipB (b1 := b) (b2 := b2) ap, ⟨hz, hTI, ⟨_, _, hTO⟩, hI _ _ ho1, hI2 _ _ ho2⟩, fun c hcm => ?_, q2 H1 _ (fun _ => rfl) (fun n e => by cases e) hr1 (wk_zip so so2)⟩
    have e' : c = s1.heap.objs.size + 4 ∨ c = s1.heap.objs.size + 2 ∨ c = s1.heap.objs.size + 3 ∨ c = s1.heap.objs.size ∨ c = s1.heap.objs.size + 1 := by simpa using hcm
    have hle : s1.heap.objs.size ≤ c := by
      rcases e' with z | z | z | z | z
      · rw [z]; exact Nat.le_add_right _ _
      · rw [z]; exact Nat.le_add_right _ _
      · rw [z]; exact Nat.le_add_right _ _
      · rw [z]; exact Nat.le_refl _
      · rw [z]; exact Nat.le_add_right _ _
    exact I1.fpOk hle (I1.hok.fresh hle)
theorem okG.imp' {G : Md} {β : Type} {φ : Ph} {H : Hp} {W : Value → Option Addr → Hp → Prop} {P P' : β → AH → Ph → Hp → Prop} {r : Res β} (h : okG G φ H W P r) (k : ∀ b A φ' H', r = .ok b A → Ext φ H φ' H' → HR G φ' H' A → P b A φ' H' → P' b A φ' H') : okG G φ H W P' r := by
  cases r with
  | ok b A => exact fun φ' H' e hr => k _ _ _ _ rfl e hr (h φ' H' e hr)
  | exc y A => exact h
  | no => exact h
theorem evs_len {c : SC} {F : Fr} : ∀ {es : Ex} {xs : List Expr} {A A' : AH} {ds : List D}, mts es c xs = true → evs cl es F A = .ok ds A' → ds.length = xs.length
  | .nil, xs, A, A', ds, h, e => by
    cases xs with
    | nil => cases e; rfl
    | cons => simp [mts] at h
  | .cons a r, xs, A, A', ds, h, e => by
    cases xs with
    | nil => simp [mts] at h
    | cons x xs =>
      have h : mt a c x = true ∧ mts r c xs = true := by simpa [mts] using h
      have e : (bnd (ev cl a F A) fun x A1 => bnd (evs cl r F A1) fun xs A2 => .ok (x :: xs) A2) = .ok ds A' := e
      cases e1 : ev cl a F A with
      | ok y A1 =>
        rw [e1] at e
        simp only [bnd] at e
        cases e2 : evs cl r F A1 with
        | ok ys A2 =>
          rw [e2] at e
          cases e
          simp [evs_len h.2 e2]
        | exc => rw [e2] at e; cases e
        | no => rw [e2] at e; cases e
      | exc => rw [e1] at e; cases e
      | no => rw [e1] at e; cases e
  | .var _, _, _, _, _, h, _ | .int _, _, _, _, _, h, _ | .str _, _, _, _, _, h, _ | .bl _, _, _, _, _, h, _ | .non, _, _, _, _, h, _ | .gl _, _, _, _, _, h, _ | .cst _ _, _, _, _, _, h, _ | .tup _, _, _, _, _, h, _ | .lst _, _, _, _, _, h, _ | .dct _, _, _, _, _, h, _ | .op _ _ _, _, _, _, _, h, _ | .neg _, _, _, _, _, h, _ | .cmp _ _ _, _, _, _, _, h, _
  | .chn _ _ _ _ _, _, _, _, _, h, _ | .and _ _, _, _, _, _, h, _ | .or _ _, _, _, _, _, h, _ | .not _, _, _, _, _, h, _ | .ite _ _ _, _, _, _, _, h, _ | .ix _ _, _, _, _, _, h, _ | .sl _ _ _, _, _, _, _, h, _ | .call _ _, _, _, _, _, h, _ | .bi _ _, _, _, _, _, h, _ | .mth _ _ _, _, _, _, _, h, _ | .lc _ _ _ _ _, _, _, _, _, h, _
  | .dc _ _ _ _ _ _, _, _, _, _, h, _ | .wk _, _, _, _, _, h, _ | .enm _, _, _, _, _, h, _ | .zip _ _, _, _, _, _, h, _ | .rng _, _, _, _, _, h, _ => by simp [mts] at h
theorem small_of {i : Int} (h : small i = true) : -(2 ^ 62) ≤ i ∧ i < 2 ^ 62 := by
  unfold small at h
  simp only [Bool.and_eq_true, decide_eq_true_eq] at h
  omega
theorem se_rng {es : Ex} (ih : SE cl es) : SE cl (.rng es) where
  pe := fun _ h => by simp [mt] at h
  pt := fun _ h => by simp [mt] at h
  pw := fun _ h => by simp [mt] at h
  pa := fun _ h => by simp [mts] at h
  pd := fun _ h => by simp [mtd] at h
  po := fun _ h => by simp [mto] at h
  pc := fun _ h => by simp [mtc] at h
  pi := fun {X c W x tg} ok h => by
    cases x <;> first | (simp [mtw] at h; done) | skip
    rename_i fn xs kws pos
    cases fn <;> first | (simp [mtw] at h; done) | skip
    rename_i n np
    cases kws <;> first | (simp [mtw] at h; done) | skip
    have h : (decide (n = "range") && glB c.sc n && (xs.length == 1 || xs.length == 2) && mts es c xs) = true := h
    simp only [Bool.and_eq_true, decide_eq_true_eq] at h
    obtain ⟨⟨⟨rfl, hg⟩, hx⟩, h1⟩ := h
    obtain ⟨g1, g2, g3⟩ := glB_gl ok hg
    have hp := mts_plain h1
    refine ⟨fun pins s σ H R I ⟨φ, F, A, hr, fr, q⟩ => ?_⟩
    have t := tA_go (β := Wk) (cl := cl) (e := es) (f := fun ds A1 => ofO (wkRng ds) A1) hr fr q
    rcases xs with _ | ⟨x, _ | ⟨y, _ | _⟩⟩
    · simp at hx
    · refine (pi_range1 g1 (mg_of ok (x := "range") (by decide)) (ih.pa ok h1) (by simp only [List.all_cons, Bool.and_eq_true] at hp; exact star_plain hp.1)).run pins s σ H R I ?_
      refine ⟨φ, F, A, hr, fr, (okG.bnd (α := List D) (r := evs cl es F A) q).imp' fun ds A1 φ1 H1 e1 _ hr1 q vs rv => ?_⟩
      have hl := evs_len h1 e1
      obtain ⟨w, hw, q⟩ := q.ofO
      rcases ds with _ | ⟨d, _ | ⟨d2, ds⟩⟩
      · cases hl
      · obtain ⟨v, rfl, rz⟩ := rv.one
        unfold wkRng at hw
        split at hw <;> first | (cases hw; done) | skip
        · rename_i j e
          cases e
          have rz : v = .int j := rz
          subst rz
          split at hw
          · rename_i hs
            cases hw
            obtain ⟨s1, s2⟩ := small_of hs
            have z := q φ1 H1 .refl hr1 H1 _ (fun _ => rfl) (fun n e => by cases e) hr1 (wk_rng (lo := 0) (hi := j))
            rw [Int.sub_zero] at z
            exact ⟨j, rfl, s1, s2, z⟩
          · cases hw
        · rename_i e; cases e
      · cases hl
    · refine (pi_range2 g1 (mg_of ok (x := "range") (by decide)) (ih.pa ok h1) (by simp only [List.all_cons, Bool.and_eq_true] at hp; rw [star_plain hp.1, star_plain hp.2.1]; rfl) (by simp only [List.all_cons, Bool.and_eq_true] at hp; exact star_plain hp.2.1)).run pins s σ H R I ?_
      refine ⟨φ, F, A, hr, fr, (okG.bnd (α := List D) (r := evs cl es F A) q).imp' fun ds A1 φ1 H1 e1 _ hr1 q vs rv => ?_⟩
      have hl := evs_len h1 e1
      obtain ⟨w, hw, q⟩ := q.ofO
      rcases ds with _ | ⟨d, _ | ⟨d2, _ | ⟨d3, ds⟩⟩⟩
      · cases hl
      · cases hl
      · obtain ⟨v, v2, rfl, rz, rz2⟩ := rv.two
        unfold wkRng at hw
        split at hw <;> first | (cases hw; done) | skip
        · rename_i j e; cases e
        · rename_i i j e
          cases e
          have rz : v = .int i := rz
          have rz2 : v2 = .int j := rz2
          subst rz rz2
          split at hw
          · rename_i hs
            cases hw
            simp only [Bool.and_eq_true] at hs
            obtain ⟨s1, s2⟩ := small_of hs.1
            obtain ⟨s3, s4⟩ := small_of hs.2
            exact ⟨i, j, rfl, ⟨s1, s2, s3, s4⟩, q φ1 H1 .refl hr1 H1 _ (fun _ => rfl) (fun n e => by cases e) hr1 wk_rng⟩
          · cases hw
      · cases hl
    · simp at hx
end
end Ev

/-! ## EvSnd7 -/
/-! EvSnd7: targets, comprehensions. -/
namespace Ev
open PySem PySem.Spec PyProof.Rows L2

/-! ### targets -/
def Agree (l : List Nat) (σ σ' : L2.St) : Prop := σ'.length = σ.length ∧ ∀ i, i ∉ l → σ'[i]? = σ[i]?
theorem Agree.refl {l : List Nat} {σ : L2.St} : Agree l σ σ := ⟨rfl, fun _ _ => rfl⟩
theorem Agree.trans {l m : List Nat} {σ σ1 σ2 : L2.St} (a : Agree l σ σ1) (b : Agree m σ1 σ2) : Agree (l ++ m) σ σ2 :=
  ⟨b.1.trans a.1, fun i h => by
    rw [List.mem_append, not_or] at h
    rw [b.2 i h.2, a.2 i h.1]⟩
def gE (G : Md) (t : Tg) : TG := fun v σ H Q => ∃ φ F A d F', HR G φ H A ∧ FR G φ H F σ ∧ Rep G φ H d v ∧ asgT t d F = some F' ∧ ∀ σ', FR G φ H F' σ' → Agree (tgSlots t) σ σ' → Q σ' H
def gEs (G : Md) (t : Tg) : TGs := fun vs σ H Q => ∃ φ F A ds F', HR G φ H A ∧ FR G φ H F σ ∧ Reps G φ H ds vs ∧ asgTs t ds F = some F' ∧ ∀ σ', FR G φ H F' σ' → Agree (tgSlots t) σ σ' → Q σ' H
theorem pg_imp {X : Cx} {x : Expr} {t t' : TG} (h : PG X x t) (k : ∀ v σ H Q, t' v σ H Q → t v σ H Q) : PG X x t' := ⟨fun pins s σ H v u Q I r q => h.run pins s σ H v u Q I r (k v σ H Q q)⟩
theorem pgs_imp {X : Cx} {x : List Expr} {t t' : TGs} (h : PGs X x t) (k : ∀ v σ H Q, t' v σ H Q → t v σ H Q) : PGs X x t' := ⟨fun pins s σ H v u Q I r q => h.run pins s σ H v u Q I r (k v σ H Q q)⟩
theorem asg_plain {x : Expr} {xs : List Expr} {env : Env} (h : plainB x = true) : assignEach (x :: xs) env = (false, assign x env) :: assignEach xs env := by
  cases x <;> first | rfl | (cases h; done)
theorem mtt_plain : ∀ {t : Tg} {c : SC} {x : Expr}, mtt t c x = true → plainB x = true := fun {t c x} h => by
  cases t <;> cases x <;> first | rfl | (simp [mtt] at h; done)
theorem mtts_plain : ∀ {t : Tg} {c : SC} {xs : List Expr}, mtts t c xs = true → xs.all plainB = true
  | .nil, c, xs, h => by
    cases xs with
    | nil => rfl
    | cons => simp [mtts] at h
  | .cons a r, c, xs, h => by
    cases xs with
    | nil => rfl
    | cons x xs =>
      have h : mtt a c x = true ∧ mtts r c xs = true := by simpa [mtts] using h
      rw [List.all_cons, mtt_plain h.1, mtts_plain h.2]; rfl
  | .nm _, _, _, h => by simp [mtts] at h
  | .tu _, _, _, h => by simp [mtts] at h
theorem asg_len : ∀ {xs : List Expr} {env : Env}, xs.all plainB = true → (assignEach xs env).length = xs.length ∧ (assignEach xs env).findIdx? (·.1) = none
  | [], _, _ => ⟨rfl, rfl⟩
  | x :: xs, env, h => by
    simp only [List.all_cons, Bool.and_eq_true] at h
    obtain ⟨h1, h2⟩ := asg_len (env := env) h.2
    rw [asg_plain h.1]
    refine ⟨by simp [h1], ?_⟩
    rw [List.findIdx?_cons, h2]
    rfl
theorem asgTs_len : ∀ {t : Tg} {c : SC} {xs : List Expr} {ds : List D} {F F' : Fr}, mtts t c xs = true → asgTs t ds F = some F' → ds.length = xs.length
  | .nil, c, xs, ds, F, F', h, e => by
    cases xs with
    | cons => simp [mtts] at h
    | nil => cases ds with
      | nil => rfl
      | cons => simp [asgTs] at e
  | .cons a r, c, xs, ds, F, F', h, e => by
    cases xs with
    | nil => simp [mtts] at h
    | cons x xs =>
      have h : mtt a c x = true ∧ mtts r c xs = true := by simpa [mtts] using h
      cases ds with
      | nil => simp [asgTs] at e
      | cons d ds =>
        unfold asgTs at e
        split at e
        · simp [asgTs_len h.2 e]
        · cases e
  | .nm _, _, _, _, _, _, h, _ => by simp [mtts] at h
  | .tu _, _, _, _, _, _, h, _ => by simp [mtts] at h
section
variable {cl : Cl} {X : Cx} {c : SC} {W : WX}
mutual
theorem pg_of (ok : CtxOk X c cl W) : ∀ {t : Tg} {x : Expr}, mtt t c x = true → PG X x (gE (Gd X) t)
  | .nm i, x, h => by
    cases x with
    | Name n p =>
      have h : (decide (c.N[i]? = some n) && c.sto.contains n) = true := h
      simp only [Bool.and_eq_true, decide_eq_true_eq] at h
      obtain ⟨h1, h2⟩ := ok.sto n (by simpa using h.2)
      refine pg_imp (pg_name (i := i) (by rw [ok.N]; exact ok.nd) (by rw [ok.N]; exact h.1) h1 h2) fun v σ H Q ⟨φ, F, A, d, F', hr, fr, rd, e, q⟩ => ?_
      cases e
      refine q _ (fr.set i rd) ⟨by simp, fun j hj => ?_⟩
      rw [List.getElem?_set_ne (fun e => hj (by rw [← e]; simp [tgSlots]))]
    | _ => simp [mtt] at h
  | .tu ts, x, h => by
    cases x with
    | Tuple es k p =>
      have h : mtts ts c es = true := h
      obtain ⟨h1, h2⟩ := asg_len (env := X.env) (mtts_plain h)
      refine pg_imp (pg_tup (n := es.length) ok.calm (pgs_of ok h) h1 h2) fun v σ H Q ⟨φ, F, A, d, F', hr, fr, rd, e, q⟩ => ?_
      cases d with
      | tup xs =>
        obtain ⟨a, vs, rfl, sq, rs⟩ := rd
        have e : asgTs ts xs F = some F' := e
        exact ⟨a, vs, rfl, sq, by rw [rs.length]; exact asgTs_len h e, φ, F, A, xs, F', hr, fr, rs, e, q⟩
      | _ => cases e
    | _ => simp [mtt] at h
  | .nil, x, h => by simp [mtt] at h
  | .cons _ _, x, h => by simp [mtt] at h
theorem pgs_of (ok : CtxOk X c cl W) : ∀ {t : Tg} {xs : List Expr}, mtts t c xs = true → PGs X xs (gEs (Gd X) t)
  | .nil, xs, h => by
    cases xs with
    | cons => simp [mtts] at h
    | nil =>
      refine pgs_imp pgs_nil fun v σ H Q ⟨φ, F, A, ds, F', hr, fr, rd, e, q⟩ => ?_
      cases ds with
      | cons => simp [asgTs] at e
      | nil =>
        cases e
        exact ⟨rd, q σ fr .refl⟩
  | .cons a r, xs, h => by
    cases xs with
    | nil => simp [mtts] at h
    | cons x xs =>
      have h : mtt a c x = true ∧ mtts r c xs = true := by simpa [mtts] using h
      refine pgs_imp (pgs_cons (pg_of ok h.1) (pgs_of ok h.2) (by rw [asg_plain (mtt_plain h.1)]; rfl)) fun v σ H Q ⟨φ, F, A, ds, F', hr, fr, rd, e, q⟩ => ?_
      cases ds with
      | nil => simp [asgTs] at e
      | cons d ds =>
        obtain ⟨w, ws, rfl, r1, r2⟩ := rd
        unfold asgTs at e
        split at e
        · rename_i F1 e1
          exact ⟨w, ws, rfl, φ, F, A, d, F1, hr, fr, r1, e1, fun σ1 fr1 ag1 => ⟨φ, F1, A, ds, F', hr, fr1, r2, e, fun σ2 fr2 ag2 => q σ2 fr2 (ag1.trans ag2)⟩⟩
        · cases e
  | .nm _, _, h => by simp [mtts] at h
  | .tu _, _, h => by simp [mtts] at h
end
end

/-! ### the frame with slots forgotten -/
theorem wipe_get {σ : L2.St} : ∀ {l : List Nat} {i : Nat}, (L2.wipe σ l)[i]? = if i ∈ l ∧ i < σ.length then some none else σ[i]?
  | [], i => by simp [L2.wipe]
  | v :: l, i => by
    unfold L2.wipe
    by_cases h : v = i
    · subst h
      by_cases hl : v < σ.length
      · rw [List.getElem?_set_self (by rw [L2.wipe_length]; exact hl), if_pos ⟨List.mem_cons_self, hl⟩]
      · rw [List.getElem?_eq_none (by rw [List.length_set, L2.wipe_length]; omega), if_neg (fun z => hl z.2), List.getElem?_eq_none (by omega)]
    · rw [List.getElem?_set_ne h, wipe_get]
      have : (i ∈ v :: l) ↔ i ∈ l := by
        rw [List.mem_cons]
        exact ⟨fun z => z.resolve_left (fun e => h e.symm), .inr⟩
      simp only [this]
theorem wipe_agree {σ σ' : L2.St} {l m : List Nat} (a : Agree m (L2.wipe σ l) σ') (h : ∀ i ∈ m, i ∈ l) : L2.wipe σ' l = L2.wipe σ l := by
  have hl : σ'.length = σ.length := by rw [a.1, L2.wipe_length]
  refine List.ext_getElem? fun i => ?_
  rw [wipe_get, wipe_get, hl]
  by_cases hi : i ∈ l ∧ i < σ.length
  · rw [if_pos hi, if_pos hi]
  · rw [if_neg hi, if_neg hi]
    by_cases him : i ∈ l
    · have : ¬ i < σ.length := fun z => hi ⟨him, z⟩
      rw [List.getElem?_eq_none (by omega), List.getElem?_eq_none (by omega)]
    · rw [a.2 i (fun z => him (h i z)), wipe_get, if_neg hi]
end Ev

/-! ## EvSnd8 -/
/-! EvSnd8: comprehensions. -/
namespace Ev
open PySem PySem.Spec PyProof.Rows L2
section
variable {G : Md} {φ φ1 : Ph} {H H1 : Hp} {A : AH}
theorem Ext.own {p : Addr} {ho : HO} (x : Ext φ1 H1 φ H) (hp : H1 p = none) : Ext φ1 H1 φ (upd H p ho) :=
  ⟨x.pre, fun a o e n => by rw [upd_ne (ne_of_none e hp)]; exact x.keep a o e n, x.new, fun a o u e => by rw [upd_ne (ne_of_none e hp)]; exact x.frz a o u e⟩
theorem Ext.addp {p : Addr} (x : Ext φ1 H1 φ H) (hp : H1 p = none) : Ext φ1 H1 (φ ++ [p]) H := by
  obtain ⟨m, e⟩ := x.pre
  refine ⟨⟨m ++ [p], by rw [e, List.append_assoc]⟩, x.keep, fun a h n => ?_, x.frz⟩
  rcases List.mem_append.mp h with h | h
  · exact x.new a h n
  · rw [List.mem_singleton.mp h]; exact hp
/-- what stands and is none of the evaluator's stays so -/
theorem Ext.held {p : Addr} {o : HO} (x : Ext φ1 H1 φ H) (hp : H1 p = some o) (np : p ∉ φ1) : H p = some o ∧ p ∉ φ :=
  ⟨x.keep p o hp np, fun h => by have := x.new p h np; rw [hp] at this; cases this⟩
theorem HR.setM (h : HR G φ H A) {n : Nat} {a : Addr} {o : AO} {ho hq : HO} (hn : φ[n]? = some a) (hq' : H a = some hq) (ns : ¬ Still hq) (r : ORep G φ H o ho) : HR G φ (upd H a ho) (A.set n o) := by
  have x : Mono φ H φ (upd H a ho) := Mono.own hq' ns
  refine ⟨by simp [h.len], h.inj, fun m b ob e1 e2 => ?_⟩
  by_cases hm : m = n
  · subst hm
    rw [hn] at e1; cases e1
    have hl : m < A.length := by rw [← h.len]; exact (List.getElem?_eq_some_iff.mp hn).1
    rw [List.getElem?_set_self hl] at e2
    cases e2
    exact ⟨ho, upd_same, r.mono x⟩
  · rw [List.getElem?_set_ne (Ne.symm hm)] at e2
    obtain ⟨ho', e3, r'⟩ := h.at_ m b ob e1 e2
    refine ⟨ho', ?_, r'.mono x⟩
    rw [upd_ne (show b ≠ a from fun q => hm (h.inj m n a (by rw [← q]; exact e1) hn))]; exact e3
theorem Ext.unlock {a : Addr} {o : Obj} {u v : HO} (x : Ext φ1 (upd H1 a v) φ H) (ha : a ∈ φ1) (nf : NF H1 a) : Ext φ1 H1 φ (upd H a u) := by
  refine ⟨x.pre, fun b ob e n => ?_, fun b h n => ?_, fun b ob w e => ?_⟩
  · have hne : b ≠ a := fun z => n (by rw [z]; exact ha)
    rw [upd_ne hne]
    exact x.keep b ob (by rw [upd_ne hne]; exact e) n
  · have := x.new b h n
    have hne : b ≠ a := fun z => n (by rw [z]; exact ha)
    rw [upd_ne hne] at this
    exact this
  · have hne : b ≠ a := fun z => nf ob w (by rw [← z]; exact e)
    rw [upd_ne hne]
    exact x.frz b ob w (by rw [upd_ne hne]; exact e)
theorem upd_self {p : Addr} {o : HO} (h : H p = some o) : upd H p o = H := by
  funext a
  by_cases e : a = p
  · subst e; rw [upd_same, h]
  · rw [upd_ne e]
end
theorem bnd_assoc {α β γ : Type} {r : Res α} {f : α → AH → Res β} {g : β → AH → Res γ} : bnd (bnd r f) g = bnd r fun a A => bnd (f a A) g := by
  cases r <;> rfl
abbrev WT : Value → Option Addr → Hp → Prop := fun _ _ _ => True
theorem okG.nox {G : Md} {α β : Type} {φ φ1 : Ph} {H H1 : Hp} {W W' : Value → Option Addr → Hp → Prop} {P : β → AH → Ph → Hp → Prop} {r : Res α} {f : α → AH → Res β} (h : okG G φ H W P (Ev.bnd (Ev.nox r) f)) :
    okG G φ1 H1 W' (fun a A _ _ => okG G φ H W P (f a A)) r := by
  cases r with
  | ok a A => exact fun φ' H' e _ => h
  | exc y A => exact h.elim
  | no => exact h.elim
theorem okG.unl {G : Md} {α : Type} {φ φ1 : Ph} {H H1 : Hp} {W : Value → Option Addr → Hp → Prop} {P : α → AH → Ph → Hp → Prop} {r : Res α} {l : Option Nat} (h : okG G φ H W P (unlR l r)) :
    okG G φ1 H1 WT (fun a A _ _ => okG G φ H W P (.ok a (unlockA A l))) r := by
  cases r with
  | ok a A => cases l <;> exact fun φ' H' e _ => h
  | exc y A => exact fun _ _ _ _ _ _ _ => trivial
  | no => cases l <;> exact h
abbrev WF : WX := fun _ _ _ _ => False
def Unl (X : Cx) (Q : VK) : VK := fun v H' => Q v H' ∨ ∃ a o u, H' a = some (.frz o u) ∧ (∀ o' u', X.H_0 a ≠ some (.frz o' u')) ∧ Q v (upd H' a u)
theorem pe_unl {X : Cx} {x : Expr} {t : TE} (h : PE X x t) : PE X x (fun σ H Q => t σ H (Unl X Q)) := by
  refine ⟨fun pins s σ H Q I q => ?_⟩
  refine thn (h.run pins s σ H _ I q) fun v s1 ⟨x, H1, I1, r1, z⟩ => ?_
  rcases z with z | ⟨a, o, u, e, n, z⟩
  · exact ⟨x, H1, I1, r1, z⟩
  · exact ⟨x, _, I1.unlock e n, r1, z⟩
/-- the end of a walk: the lock is opened -/
theorem unl_end {G : Md} {φ1 φ : Ph} {H0 H1 H2 H : Hp} {A A0 : AH} {w : Wk} {W : Value → Option Addr → Hp → Prop} {α : Type} {b : α} {P : α → AH → Ph → Hp → Prop} (hr1 : HR G φ1 H1 A0)
    (c1 : w.lock = none → H2 = H1) (c2 : ∀ n, w.lock = some n → ∃ a o ks, φ1[n]? = some a ∧ H1 a = some (.dK ks) ∧ H2 = upd H1 a (.frz o (.dK ks)) ∧ ∀ o' u', H0 a ≠ some (.frz o' u'))
    (x : Ext φ1 H2 φ H) (hr : HR G φ H A) (q : okG G φ1 H1 W P (.ok b (unlockA A w.lock))) :
    (w.lock = none ∧ P b A φ H) ∨ ∃ a o u n kvs, w.lock = some n ∧ H a = some (.frz o u) ∧ (∀ o' u', H0 a ≠ some (.frz o' u')) ∧ a ∈ φ ∧ ¬ Still (.frz o u) ∧ HR G φ (upd H a u) (A.set n (.dct kvs)) ∧ Mono φ H φ (upd H a u) ∧ P b (A.set n (.dct kvs)) φ (upd H a u) := by
  cases e : w.lock with
  | none =>
    rw [e] at q
    rw [c1 e] at x
    exact .inl ⟨rfl, q φ H x hr⟩
  | some n =>
    obtain ⟨a, o, ks, ea, hH, rfl, nf⟩ := c2 n e
    have hf : H a = some (.frz o (.dK ks)) := x.frz _ _ _ upd_same
    obtain ⟨kvs, hA⟩ : ∃ kvs, A[n]? = some (.lk kvs) := by
      have hn : n < A.length := by rw [← hr.len]; exact (List.getElem?_eq_some_iff.mp (x.get ea)).1
      obtain ⟨ho, e3, r⟩ := hr.at_ n a _ (x.get ea) (List.getElem?_eq_getElem hn)
      rw [hf] at e3
      cases e3
      cases ho : A[n] with
      | lst ds => rw [ho] at r; obtain ⟨vs, z, _⟩ := r; cases z
      | dct ds => rw [ho] at r; obtain ⟨vs, z, _⟩ := r; cases z
      | lk kvs => exact ⟨kvs, by rw [List.getElem?_eq_getElem hn, ho]⟩
      | ins c fs => rw [ho] at r; exact r.elim
    obtain ⟨ho, e3, o', ks', rfl, rk⟩ := hr.at_ n a _ (x.get ea) hA
    rw [hf] at e3
    cases e3
    have ma : a ∈ φ := List.mem_of_getElem? (x.get ea)
    have h2 : HR G φ (upd H a (.dK ks)) (A.set n (.dct kvs)) := hr.setM (x.get ea) hf (fun z => z) ⟨ks, rfl, rk⟩
    have hu : unlockA A w.lock = A.set n (.dct kvs) := by
      rw [e]
      show (match A[n]? with | some (.lk kvs) => A.set n (.dct kvs) | _ => A) = _
      rw [hA]
    rw [hu] at q
    exact .inr ⟨a, o, _, n, kvs, rfl, hf, nf, ma, fun z => z, h2, Mono.own hf (fun z => z), q φ _ (x.unlock (o := o) (List.mem_of_getElem? ea) (.dK hH)) h2⟩
theorem gOk_mem {A : AH} {g : Guard} (h : gOk A g = true) {n : Nat} {o : AO} (m : (n, o) ∈ g) : A[n]? = some o := by
  have := List.all_eq_true.mp h _ m
  simpa using this
/-- a walk with a lock guards it -/
def WkLk (w : Wk) : Prop := ∀ n, w.lock = some n → ∃ kvs, (n, AO.lk kvs) ∈ w.g
section
variable {cl : Cl}
abbrev finL : List D → AH → Res D := fun ds A2 => .ok (.ref A2.length) (A2 ++ [.lst ds])
abbrev finK : List (D × D) → AH → Res D := fun ds A2 => .ok (.ref A2.length) (A2 ++ [.dct ds])
/-- the loop of a list comprehension -/
theorem lc_read {X : Cx} {W : WX} {t : Tg} {it cd e : Ex} {own : List Nat} {σ : L2.St} {H : Hp} {Q : VK} (ht : ∀ i ∈ tgSlots t, i ∈ own) (hlk : ∀ F A w A', evw cl it F A = .ok w A' → WkLk w)
    (h : tE (Gd X) cl W (.lc t it cd e own) σ H Q) : tLc (iW X cl W it) (gE (Gd X) t) (tCd (Gd X) cl WF cd) (tE (Gd X) cl WF e) own σ H (Unl X Q) := by
  obtain ⟨φ, F, A, hr, fr, q⟩ := h
  refine ⟨φ, F, A, hr, fr, (okG.bnd (α := Wk) (r := evw cl it F A) q).imp' fun w A1 φ1 H1 ew e1 hr1 q1 H2 J c1 c2 hr2 wk La hD => ?_⟩
  have wlk := hlk _ _ _ _ ew
  have x2 : Ext φ1 H1 φ1 H2 := by
    cases el : w.lock with
    | none => rw [c1 el]; exact .refl
    | some n =>
      obtain ⟨a, o, ks, ea, hH, rfl, _⟩ := c2 n el
      exact Ext.set (List.mem_of_getElem? ea) (.dK hH)
  generalize hbody : (fun F' A' => Ev.nox (bnd (evc cl cd F' A') fun b A2 => if b = true then bnd (ev cl e F' A2) fun y A3 => .ok (some y) A3 else .ok none A2)) = body at q1
  generalize hP2 : (fun (d : D) A' (_ : Ph) (_ : Hp) => okG (Gd X) φ1 H1 (fun c d H' => W c d σ H') (pV (Gd X) Q) (.ok d (unlockA A' w.lock))) = P2
  have q2 : okG (Gd X) φ1 H2 WT P2 (bnd (lcL (asgT t) w.g body (wipeF F own) w.items [] (lockA A1 w.lock)) finL) := by
    rw [← hP2]
    exact okG.unl q1
  have np0 : La ∉ φ1 := hr2.notMemN hD
  have fr2 : FR (Gd X) φ1 H2 (wipeF F own) (L2.wipe σ own) := ((fr.ext hr e1).ext hr1 x2).wipe own
  refine ⟨fun i m H => m = w.items.length - i ∧ i ≤ w.items.length ∧ ∃ φ A acc vs, Ext φ1 H2 φ H ∧ HR (Gd X) φ H A ∧ La ∉ φ ∧ H La = some (.lst vs) ∧ Reps (Gd X) φ H acc vs ∧ FR (Gd X) φ H (wipeF F own) (L2.wipe σ own) ∧
    okG (Gd X) φ1 H2 WT P2 (bnd (lcL (asgT t) w.g body (wipeF F own) (w.items.drop i) acc A) finL),
    ⟨_, rfl, Nat.zero_le _, φ1, _, [], [], Ext.beside hD, hr2.beside hD, np0, upd_same, rfl, fr2.ext hr2 (Ext.beside hD), q2⟩, ?_⟩
  rintro i m H3 ⟨rfl, hi, φ3, A3, acc, vs, x3, hr3, np3, hD3, rs3, fr3, q3⟩
  have hlk : gOk A3 w.g = true := by
    cases hg : gOk A3 w.g with
    | true => rfl
    | false =>
      exfalso
      cases hd : w.items.drop i with
      | nil => rw [hd] at q3; unfold lcL at q3; rw [if_neg (by rw [hg]; exact Bool.false_ne_true)] at q3; exact q3
      | cons d r => rw [hd] at q3; unfold lcL at q3; rw [if_neg (by rw [hg]; exact Bool.false_ne_true)] at q3; exact q3
  by_cases hlt : i < w.items.length
  · have hd : w.items.drop i = w.items[i] :: w.items.drop (i + 1) := List.drop_eq_getElem_cons hlt
    obtain ⟨go, yld⟩ := wk.step φ3 H3 A3 i _ x3 hr3 hlk (List.getElem?_eq_getElem hlt)
    refine .inr ⟨go, fun H4 => ∃ φ4 A4 acc4 vs4, Ext φ1 H2 φ4 H4 ∧ HR (Gd X) φ4 H4 A4 ∧ La ∉ φ4 ∧ H4 La = some (.lst vs4) ∧ Reps (Gd X) φ4 H4 acc4 vs4 ∧ FR (Gd X) φ4 H4 (wipeF F own) (L2.wipe σ own) ∧
      okG (Gd X) φ1 H2 WT P2 (bnd (lcL (asgT t) w.g body (wipeF F own) (w.items.drop (i + 1)) acc4 A4) finL),
      fun H' z => ⟨_, by omega, rfl, hlt, z⟩, fun x H4 hy => ?_⟩
    obtain ⟨x4, hr4, rx⟩ := yld x H4 hy
    rw [hd] at q3
    unfold lcL at q3
    rw [if_pos hlk] at q3
    split at q3
    · rename_i F' ha
      rw [← hbody] at q3
      simp only [bnd_assoc] at q3
      rw [hbody] at q3
      refine ⟨φ3, _, A3, _, F', hr4, fr3.ext hr3 x4, rx, ha, fun σ' frσ ag => ⟨wipe_agree ag ht, ?_⟩⟩
      have q4 := okG.nox (φ1 := φ3) (H1 := H4) (W' := fun c d H' => WF c d σ' H') q3
      refine ⟨φ3, F', A3, hr4, frσ, q4.bnd.imp fun b A5 φ5 H5 e5 hr5 q5 => ?_⟩
      have x5 : Ext φ1 H2 φ5 H5 := (x3.trans x4).trans e5
      have x35 : Ext φ3 H3 φ5 H5 := x4.trans e5
      obtain ⟨hD5, np5⟩ := x35.held hD3 np3
      cases b with
      | false =>
        have q5 := q5 φ5 H5 .refl hr5
        exact ⟨φ5, A5, acc, vs, x5, hr5, np5, hD5, rs3.ext hr3 x35, fr3.ext hr3 x35, q5⟩
      | true =>
        refine ⟨φ5, F', A5, hr5, frσ.ext hr4 e5, (okG.bnd q5).imp fun y A6 φ6 H6 e6 hr6 q6 v rv => ?_⟩
        have q6 := q6 φ6 H6 .refl hr6
        have x6 : Ext φ1 H2 φ6 H6 := x5.trans e6
        have x36 : Ext φ3 H3 φ6 H6 := x35.trans e6
        obtain ⟨hD6, np6⟩ := x36.held hD3 np3
        have rs6 := rs3.ext hr3 x36
        by_cases hz : acc.length < sizeLine
        · simp only [if_pos hz] at q6
          have mo : Mono φ6 H6 φ6 (upd H6 La (.lst (vs ++ [v]))) := Mono.own hD6 (fun z => z)
          exact ⟨vs, hD6, by rw [rs6.length]; exact hz, φ6, A6, acc ++ [y], vs ++ [v], x6.own hD, hr6.own hD6 (fun z => z) np6, np6, upd_same, Reps.mono mo _ _ (rs6.append (.cons rv .nil)), (fr3.ext hr3 x36).mono mo, q6⟩
        · simp only [if_neg hz] at q6; exact q6.elim
    · exact q3.elim
  · have hi' : i = w.items.length := by omega
    subst hi'
    refine .inl ⟨wk.stop φ3 H3 A3 x3 hr3 hlk, ?_⟩
    rw [List.drop_length] at q3
    unfold lcL at q3
    rw [if_pos hlk] at q3
    have hrF : HR (Gd X) (φ3 ++ [La]) H3 (A3 ++ [.lst acc]) := by
      have := hr3.lay (o := .lst acc) (ho := .lst vs) hD3 (fun z => z) np3 ⟨vs, rfl, rs3⟩
      rw [upd_self hD3] at this
      exact this
    have xF : Ext φ1 H2 (φ3 ++ [La]) H3 := x3.addp hD
    have q4 := q3 (φ3 ++ [La]) H3 xF hrF
    rw [← hP2] at q4
    have hDn : (φ3 ++ [La])[A3.length]? = some La := by rw [← hr3.len]; simp
    rcases unl_end (w := w) hr1 c1 c2 xF hrF q4 with ⟨_, z⟩ | ⟨a, o, u, n, kvs, en, hf, nf, ma, ns, h2, mo, z⟩
    · exact .inl (z (.ref La) ⟨La, hDn, rfl⟩)
    · exact .inr ⟨a, o, u, hf, nf, z (.ref La) ⟨La, hDn, rfl⟩⟩
/-- the loop of a dict comprehension -/
theorem dc_read {X : Cx} {W : WX} {t : Tg} {it cd ek e : Ex} {own : List Nat} {σ : L2.St} {H : Hp} {Q : VK} (ht : ∀ i ∈ tgSlots t, i ∈ own) (hlk : ∀ F A w A', evw cl it F A = .ok w A' → WkLk w)
    (h : tE (Gd X) cl W (.dc t it cd ek e own) σ H Q) : tDc (iW X cl W it) (gE (Gd X) t) (tCd (Gd X) cl WF cd) (tE (Gd X) cl WF ek) (tE (Gd X) cl WF e) own σ H (Unl X Q) := by
  obtain ⟨φ, F, A, hr, fr, q⟩ := h
  refine ⟨φ, F, A, hr, fr, (okG.bnd (α := Wk) (r := evw cl it F A) q).imp' fun w A1 φ1 H1 ew e1 hr1 q1 H2 J c1 c2 hr2 wk La hD => ?_⟩
  have wlk := hlk _ _ _ _ ew
  have x2 : Ext φ1 H1 φ1 H2 := by
    cases el : w.lock with
    | none => rw [c1 el]; exact .refl
    | some n =>
      obtain ⟨a, o, ks, ea, hH, rfl, _⟩ := c2 n el
      exact Ext.set (List.mem_of_getElem? ea) (.dK hH)
  generalize hbody : (fun F' A' => Ev.nox (bnd (evc cl cd F' A') fun b A2 => if b = true then bnd (ev cl ek F' A2) fun x A3 => bnd (ev cl e F' A3) fun y A4 => .ok (some (x, y)) A4 else .ok none A2)) = body at q1
  generalize hP2 : (fun (d : D) A' (_ : Ph) (_ : Hp) => okG (Gd X) φ1 H1 (fun c d H' => W c d σ H') (pV (Gd X) Q) (.ok d (unlockA A' w.lock))) = P2
  have q2 : okG (Gd X) φ1 H2 WT P2 (bnd (dcL (asgT t) w.g body (wipeF F own) w.items [] (lockA A1 w.lock)) finK) := by
    rw [← hP2]
    exact okG.unl q1
  have np0 : La ∉ φ1 := hr2.notMemN hD
  have fr2 : FR (Gd X) φ1 H2 (wipeF F own) (L2.wipe σ own) := ((fr.ext hr e1).ext hr1 x2).wipe own
  refine ⟨fun i m H => m = w.items.length - i ∧ i ≤ w.items.length ∧ ∃ φ A acc vs, Ext φ1 H2 φ H ∧ HR (Gd X) φ H A ∧ La ∉ φ ∧ H La = some (.dK vs) ∧ KReps (Gd X) φ H acc vs ∧ FR (Gd X) φ H (wipeF F own) (L2.wipe σ own) ∧
    okG (Gd X) φ1 H2 WT P2 (bnd (dcL (asgT t) w.g body (wipeF F own) (w.items.drop i) acc A) finK),
    ⟨_, rfl, Nat.zero_le _, φ1, _, [], [], Ext.beside hD, hr2.beside hD, np0, upd_same, rfl, fr2.ext hr2 (Ext.beside hD), q2⟩, ?_⟩
  rintro i m H3 ⟨rfl, hi, φ3, A3, acc, vs, x3, hr3, np3, hD3, rs3, fr3, q3⟩
  have hlk : gOk A3 w.g = true := by
    cases hg : gOk A3 w.g with
    | true => rfl
    | false =>
      exfalso
      cases hd : w.items.drop i with
      | nil => rw [hd] at q3; unfold dcL at q3; rw [if_neg (by rw [hg]; exact Bool.false_ne_true)] at q3; exact q3
      | cons d r => rw [hd] at q3; unfold dcL at q3; rw [if_neg (by rw [hg]; exact Bool.false_ne_true)] at q3; exact q3
  by_cases hlt : i < w.items.length
  · have hd : w.items.drop i = w.items[i] :: w.items.drop (i + 1) := List.drop_eq_getElem_cons hlt
    obtain ⟨go, yld⟩ := wk.step φ3 H3 A3 i _ x3 hr3 hlk (List.getElem?_eq_getElem hlt)
    refine .inr ⟨go, fun H4 => ∃ φ4 A4 acc4 vs4, Ext φ1 H2 φ4 H4 ∧ HR (Gd X) φ4 H4 A4 ∧ La ∉ φ4 ∧ H4 La = some (.dK vs4) ∧ KReps (Gd X) φ4 H4 acc4 vs4 ∧ FR (Gd X) φ4 H4 (wipeF F own) (L2.wipe σ own) ∧
      okG (Gd X) φ1 H2 WT P2 (bnd (dcL (asgT t) w.g body (wipeF F own) (w.items.drop (i + 1)) acc4 A4) finK),
      fun H' z => ⟨_, by omega, rfl, hlt, z⟩, fun x H4 hy => ?_⟩
    obtain ⟨x4, hr4, rx⟩ := yld x H4 hy
    rw [hd] at q3
    unfold dcL at q3
    rw [if_pos hlk] at q3
    split at q3
    · rename_i F' ha
      rw [← hbody] at q3
      simp only [bnd_assoc] at q3
      rw [hbody] at q3
      refine ⟨φ3, _, A3, _, F', hr4, fr3.ext hr3 x4, rx, ha, fun σ' frσ ag => ⟨wipe_agree ag ht, ?_⟩⟩
      have q4 := okG.nox (φ1 := φ3) (H1 := H4) (W' := fun c d H' => WF c d σ' H') q3
      refine ⟨φ3, F', A3, hr4, frσ, q4.bnd.imp fun b A5 φ5 H5 e5 hr5 q5 => ?_⟩
      have x5 : Ext φ1 H2 φ5 H5 := (x3.trans x4).trans e5
      have x35 : Ext φ3 H3 φ5 H5 := x4.trans e5
      obtain ⟨hD5, np5⟩ := x35.held hD3 np3
      cases b with
      | false =>
        have q5 := q5 φ5 H5 .refl hr5
        exact ⟨φ5, A5, acc, vs, x5, hr5, np5, hD5, rs3.ext hr3 x35, fr3.ext hr3 x35, q5⟩
      | true =>
        refine ⟨φ5, F', A5, hr5, frσ.ext hr4 e5, (okG.bnd q5).imp fun y A6 φ6 H6 e6 hr6 q6 v rv => ?_⟩
        refine ⟨φ6, F', A6, hr6, (frσ.ext hr4 e5).ext hr5 e6, (okG.bnd q6).imp fun y2 A7 φ7 H7 e7 hr7 q7 v2 rv2 => ?_⟩
        have q7 := q7 φ7 H7 .refl hr7
        have x7 : Ext φ1 H2 φ7 H7 := (x5.trans e6).trans e7
        have x37 : Ext φ3 H3 φ7 H7 := (x35.trans e6).trans e7
        obtain ⟨hD7, np7⟩ := x37.held hD3 np3
        have rs7 := rs3.ext hr3 x37
        by_cases hz : (decide (acc.length < sizeLine) && keyOk y) = true
        · simp only [if_pos hz] at q7
          simp only [Bool.and_eq_true, decide_eq_true_eq] at hz
          obtain ⟨j, rfl, kr⟩ := KR.key hz.2 rv
          have mo : Mono φ7 H7 φ7 (upd H7 La (.dK (putK vs j v2))) := Mono.own hD7 (fun z => z)
          exact ⟨vs, j, rfl, hD7, by rw [rs7.length]; exact hz.1, φ7, A7, dput acc y y2, putK vs j v2, x7.own hD, hr7.own hD7 (fun z => z) np7, np7, upd_same, KReps.mono mo _ _ (rs7.put kr rv2), (fr3.ext hr3 x37).mono mo, q7⟩
        · simp only [if_neg hz] at q7; exact q7.elim
    · exact q3.elim
  · have hi' : i = w.items.length := by omega
    subst hi'
    refine .inl ⟨wk.stop φ3 H3 A3 x3 hr3 hlk, ?_⟩
    rw [List.drop_length] at q3
    unfold dcL at q3
    rw [if_pos hlk] at q3
    have hrF : HR (Gd X) (φ3 ++ [La]) H3 (A3 ++ [.dct acc]) := by
      have := hr3.lay (o := .dct acc) (ho := .dK vs) hD3 (fun z => z) np3 ⟨vs, rfl, rs3⟩
      rw [upd_self hD3] at this
      exact this
    have xF : Ext φ1 H2 (φ3 ++ [La]) H3 := x3.addp hD
    have q4 := q3 (φ3 ++ [La]) H3 xF hrF
    rw [← hP2] at q4
    have hDn : (φ3 ++ [La])[A3.length]? = some La := by rw [← hr3.len]; simp
    rcases unl_end (w := w) hr1 c1 c2 xF hrF q4 with ⟨_, z⟩ | ⟨a, o, u, n, kvs, en, hf, nf, ma, ns, h2, mo, z⟩
    · exact .inl (z (.ref La) ⟨La, hDn, rfl⟩)
    · exact .inr ⟨a, o, u, hf, nf, z (.ref La) ⟨La, hDn, rfl⟩⟩

/-! ### comprehensions -/
theorem CtxOk.blk {X : Cx} {c : SC} {W : WX} {scope : Scope} {own : List (Str × Nat)} (ok : CtxOk X c cl W) (hb : BlkOk X.N X.env.scope scope own) (s : Shared) (H : Hp) (C : Addr) (clo : List (Str × Addr)) (fp : List Addr) :
    CtxOk (X.blk s H scope (compEnvC scope clo C X.env) fp) (c.blk scope) cl WF where
  N := ok.N
  nd := ok.nd
  sc := by
    show relS scope X.env.scope = relS scope c.sc
    rw [ok.sc]
  calm := ok.calm
  kd := hb.kind
  hu := ok.hu
  tk := fun u s' ⟨_, _, _, _, _, _, _, _, _, _, _, _, _, _, _, _, w⟩ => w
  ps := PassesOwn.never
  fb := ok.fb
  bn := ok.bn
  sto := fun x hx => by
    obtain ⟨y, hy, rfl⟩ := List.mem_map.mp (show x ∈ (scope.names.filter fun y => y.2 == .local || y.2 == .cell).map (·.1) from hx)
    obtain ⟨h1, h2⟩ := List.mem_filter.mp hy
    have h3 := hb.uniq y h1
    simp only [Bool.or_eq_true, beq_iff_eq] at h2
    rcases h2 with h2 | h2
    · rw [h2] at h3
      have := lookup_relS_keep (sc := X.env.scope) (by decide) h3
      exact ⟨.inl this, .inr this⟩
    · rw [h2] at h3
      have := lookup_relS_keep (sc := X.env.scope) (by decide) h3
      refine ⟨.inr this, .inl ?_⟩
      show (scope.names.lookup y.1 == some NameKind.cell) = true
      rw [h3]; rfl
  calls := ok.calls
  csts := ok.csts
theorem evw_lk {it : Ex} {F : Fr} {A A' : AH} {w : Wk} (h : evw cl it F A = .ok w A') : WkLk w := by
  have go : ∀ {A : AH} {d : D} {w : Wk}, wkOf A d = some w → WkLk w := fun {A d w} h n hn => by
    unfold wkOf at h
    split at h
    · cases h; cases hn
    · cases h; cases hn
    · split at h
      · cases h; cases hn
      · cases h; cases hn; exact ⟨_, List.mem_singleton.mpr rfl⟩
      · cases h
    · cases h
  have nn : ∀ {w : Wk}, w.lock = none → WkLk w := fun h n hn => by rw [h] at hn; cases hn
  cases it <;> first | (cases h; done) | skip
  · rename_i e
    have h : (bnd (ev cl e F A) fun x A1 => ofO (wkOf A1 x) A1) = .ok w A' := h
    cases e1 : ev cl e F A with
    | ok x A1 =>
      rw [e1] at h
      have h : ofO (wkOf A1 x) A1 = .ok w A' := h
      cases e2 : wkOf A1 x with
      | some w' => rw [e2] at h; cases h; exact go e2
      | none => rw [e2] at h; cases h
    | exc => rw [e1] at h; cases h
    | no => rw [e1] at h; cases h
  · rename_i e
    have h : (bnd (ev cl e F A) fun x A1 => ofO (wkEnum A1 x) A1) = .ok w A' := h
    cases e1 : ev cl e F A with
    | ok x A1 =>
      rw [e1] at h
      have h : ofO (wkEnum A1 x) A1 = .ok w A' := h
      cases e2 : wkEnum A1 x with
      | some w' => rw [e2] at h; cases h; obtain ⟨u, _, _, rfl⟩ := wk_none (xs := []) (g := []) e2; exact nn rfl
      | none => rw [e2] at h; cases h
    | exc => rw [e1] at h; cases h
    | no => rw [e1] at h; cases h
  · rename_i e e'
    have h : (bnd (ev cl e F A) fun x A1 => bnd (ev cl e' F A1) fun y A2 => ofO (wkZip A2 x y) A2) = .ok w A' := h
    cases e1 : ev cl e F A with
    | ok x A1 =>
      rw [e1] at h
      have h : (bnd (ev cl e' F A1) fun y A2 => ofO (wkZip A2 x y) A2) = .ok w A' := h
      cases e3 : ev cl e' F A1 with
      | ok y A2 =>
        rw [e3] at h
        have h : ofO (wkZip A2 x y) A2 = .ok w A' := h
        cases e2 : wkZip A2 x y with
        | some w' => rw [e2] at h; cases h; obtain ⟨u, v, _, _, _, _, rfl⟩ := wk_none2 e2; exact nn rfl
        | none => rw [e2] at h; cases h
      | exc => rw [e3] at h; cases h
      | no => rw [e3] at h; cases h
    | exc => rw [e1] at h; cases h
    | no => rw [e1] at h; cases h
  · rename_i es
    have h : (bnd (evs cl es F A) fun ds A1 => ofO (wkRng ds) A1) = .ok w A' := h
    cases e1 : evs cl es F A with
    | ok ds A1 =>
      rw [e1] at h
      have h : ofO (wkRng ds) A1 = .ok w A' := h
      cases e2 : wkRng ds with
      | some w' =>
        rw [e2] at h; cases h
        unfold wkRng at e2
        split at e2 <;> first | (cases e2; done) | skip
        all_goals
          split at e2
          · cases e2; exact nn rfl
          · cases e2
      | none => rw [e2] at h; cases h
    | exc => rw [e1] at h; cases h
    | no => rw [e1] at h; cases h
theorem mtw_plain {it : Ex} {c : SC} {x tg : Expr} (h : mtw it c x tg = true) : plainB x = true := by
  cases it <;> first | (simp [mtw] at h; done) | skip
  · exact mt_plain (show mt _ c x = true from h)
  all_goals
    cases x <;> first | rfl | (simp [mtw] at h; done)
theorem se_lc {t : Tg} {it cd e : Ex} {own : List Nat} (ihi : SE cl it) (ihc : SE cl cd) (ihe : SE cl e) : SE cl (.lc t it cd e own) := by
  have pe : ∀ {X : Cx} {c : SC} {W : WX} {x : Expr}, CtxOk X c cl W → mt (.lc t it cd e own) c x = true → PE X x (tE (Gd X) cl W (.lc t it cd e own)) := fun {X c W x} ok h => by
    cases x with
    | ListComp l gs scope pos =>
      rcases gs with _ | ⟨⟨tg, iter, ifs, k⟩, _ | _⟩ <;> first | (simp [mt] at h; done) | skip
      have h : (decide (k = 0) && blkC c.N c.sc scope (ownB c.N own) && decide ((ownB c.N own).map (·.2) = own) && (tgSlots t).all own.contains && mtw it c iter tg && mtt t (c.blk scope) tg && mtc cd (c.blk scope) ifs && mt e (c.blk scope) l) = true := h
      simp only [Bool.and_eq_true, decide_eq_true_eq] at h
      obtain ⟨⟨⟨⟨⟨⟨⟨rfl, hb⟩, ho⟩, ht⟩, h1⟩, h2⟩, h3⟩, h4⟩ := h
      have hb : BlkOk X.N X.env.scope scope (ownB c.N own) := blkOk_by (by rw [ok.N, ok.sc]; exact hb)
      have ht : ∀ i ∈ tgSlots t, i ∈ own := fun i hi => by simpa using List.all_eq_true.mp ht i hi
      refine pe_imp (pe_unl (pe_lc (g := gE (Gd X) t) (tt := tCd (Gd X) cl WF cd) (te := tE (Gd X) cl WF e) ok.calm (by rw [ok.N]; exact ok.nd) (ihi.pi ok h1) hb (fun s H C clo fp => pg_of (ok.blk hb s H C clo fp) h2) (fun s H C clo fp => ihc.pc (ok.blk hb s H C clo fp) h3) (fun s H C clo fp => ihe.pe (ok.blk hb s H C clo fp) h4) ?_)) fun σ H Q q => ?_
      · exact fun x => folded_plain (mtw_plain h1)
      · rw [ho]
        exact lc_read ht (fun F A w A' h => evw_lk h) q
    | _ => simp [mt] at h
  refine SE.of ⟨fun c xs => by simp [mts], fun c ks vs => by simp [mtd], fun c x => by simp [mto], fun c x => by simp [mtc], fun c x t => by simp [mtw]⟩ pe (fun {X c W x} ok h => pt_of (pe ok h) ?_) (fun ok h => by simp [mt] at h)
  cases x <;> first | (exact fun _ => rfl) | (simp [mt] at h; done)
theorem se_dc {t : Tg} {it cd ek e : Ex} {own : List Nat} (ihi : SE cl it) (ihc : SE cl cd) (ihk : SE cl ek) (ihe : SE cl e) : SE cl (.dc t it cd ek e own) := by
  have pe : ∀ {X : Cx} {c : SC} {W : WX} {x : Expr}, CtxOk X c cl W → mt (.dc t it cd ek e own) c x = true → PE X x (tE (Gd X) cl W (.dc t it cd ek e own)) := fun {X c W x} ok h => by
    cases x with
    | DictComp kx l gs scope pos =>
      rcases gs with _ | ⟨⟨tg, iter, ifs, k⟩, _ | _⟩ <;> first | (simp [mt] at h; done) | skip
      have h : (decide (k = 0) && blkC c.N c.sc scope (ownB c.N own) && decide ((ownB c.N own).map (·.2) = own) && (tgSlots t).all own.contains && mtw it c iter tg && mtt t (c.blk scope) tg && mtc cd (c.blk scope) ifs && mt ek (c.blk scope) kx && mt e (c.blk scope) l) = true := h
      simp only [Bool.and_eq_true, decide_eq_true_eq] at h
      obtain ⟨⟨⟨⟨⟨⟨⟨⟨rfl, hb⟩, ho⟩, ht⟩, h1⟩, h2⟩, h3⟩, hk⟩, h4⟩ := h
      have hb : BlkOk X.N X.env.scope scope (ownB c.N own) := blkOk_by (by rw [ok.N, ok.sc]; exact hb)
      have ht : ∀ i ∈ tgSlots t, i ∈ own := fun i hi => by simpa using List.all_eq_true.mp ht i hi
      refine pe_imp (pe_unl (pe_dc (g := gE (Gd X) t) (tt := tCd (Gd X) cl WF cd) (tk := tE (Gd X) cl WF ek) (tv := tE (Gd X) cl WF e) ok.calm (by rw [ok.N]; exact ok.nd) (ihi.pi ok h1) hb (fun s H C clo fp => pg_of (ok.blk hb s H C clo fp) h2) (fun s H C clo fp => ihc.pc (ok.blk hb s H C clo fp) h3) (fun s H C clo fp => ihk.pe (ok.blk hb s H C clo fp) hk) (fun s H C clo fp => ihe.pe (ok.blk hb s H C clo fp) h4) ?_)) fun σ H Q q => ?_
      · exact fun x => folded_plain (mtw_plain h1)
      · rw [ho]
        exact dc_read ht (fun F A w A' h => evw_lk h) q
    | _ => simp [mt] at h
  refine SE.of ⟨fun c xs => by simp [mts], fun c ks vs => by simp [mtd], fun c x => by simp [mto], fun c x => by simp [mtc], fun c x t => by simp [mtw]⟩ pe (fun {X c W x} ok h => pt_of (pe ok h) ?_) (fun ok h => by simp [mt] at h)
  cases x <;> first | (exact fun _ => rfl) | (simp [mt] at h; done)

theorem se_both : ∀ e : Ex, SE cl e ∧ ∀ b s, e = .cons b s → SE cl b ∧ SE cl s
  | .var i => ⟨se_var i, fun _ _ h => by cases h⟩
  | .int i => ⟨se_int i, fun _ _ h => by cases h⟩
  | .str s => ⟨se_str s, fun _ _ h => by cases h⟩
  | .bl b => ⟨se_bl b, fun _ _ h => by cases h⟩
  | .non => ⟨se_non, fun _ _ h => by cases h⟩
  | .gl x => ⟨se_gl x, fun _ _ h => by cases h⟩
  | .cst x d => ⟨se_cst x d, fun _ _ h => by cases h⟩
  | .tup es => ⟨se_tup (se_both es).1, fun _ _ h => by cases h⟩
  | .lst es => ⟨se_lst (se_both es).1, fun _ _ h => by cases h⟩
  | .dct es => ⟨se_dct (se_both es).1, fun _ _ h => by cases h⟩
  | .nil => ⟨se_nil, fun _ _ h => by cases h⟩
  | .cons a r => ⟨se_cons (se_both a).1 (se_both r).1 (se_both r).2, fun b s h => by cases h; exact ⟨(se_both a).1, (se_both r).1⟩⟩
  | .op o a b => ⟨se_op o (se_both a).1 (se_both b).1, fun _ _ h => by cases h⟩
  | .neg a => ⟨se_neg (se_both a).1, fun _ _ h => by cases h⟩
  | .cmp o a b => ⟨se_cmp o (se_both a).1 (se_both b).1, fun _ _ h => by cases h⟩
  | .chn o p a b c => ⟨se_chn o p (se_both a).1 (se_both b).1 (se_both c).1, fun _ _ h => by cases h⟩
  | .and a b => ⟨se_and (se_both a).1 (se_both b).1, fun _ _ h => by cases h⟩
  | .or a b => ⟨se_or (se_both a).1 (se_both b).1, fun _ _ h => by cases h⟩
  | .not a => ⟨se_not (se_both a).1, fun _ _ h => by cases h⟩
  | .ite c a b => ⟨se_ite (se_both c).1 (se_both a).1 (se_both b).1, fun _ _ h => by cases h⟩
  | .ix a i => ⟨se_ix (se_both a).1 (se_both i).1, fun _ _ h => by cases h⟩
  | .sl a lo hi => ⟨se_sl (se_both a).1 (se_both lo).1 (se_both hi).1, fun _ _ h => by cases h⟩
  | .call f es => ⟨se_call f (se_both es).1, fun _ _ h => by cases h⟩
  | .bi f es => ⟨se_bi f (se_both es).1, fun _ _ h => by cases h⟩
  | .mth m o es => ⟨se_mth m (se_both o).1 (se_both es).1, fun _ _ h => by cases h⟩
  | .lc t it c e own => ⟨se_lc (se_both it).1 (se_both c).1 (se_both e).1, fun _ _ h => by cases h⟩
  | .dc t it c k v own => ⟨se_dc (se_both it).1 (se_both c).1 (se_both k).1 (se_both v).1, fun _ _ h => by cases h⟩
  | .wk e => ⟨se_wk (se_both e).1, fun _ _ h => by cases h⟩
  | .enm e => ⟨se_enm (se_both e).1, fun _ _ h => by cases h⟩
  | .zip a b => ⟨se_zip (se_both a).1 (se_both b).1, fun _ _ h => by cases h⟩
  | .rng es => ⟨se_rng (se_both es).1, fun _ _ h => by cases h⟩
theorem se_all (e : Ex) : SE cl e := (se_both e).1
end
end Ev

/-! ## EvSt -/
/-! EvSt: statements. -/
namespace Ev
open PySem PySem.Spec PyProof.Rows L2

def isComp : Expr → Bool
  | .ListComp _ _ _ _ => true
  | .SetComp _ _ _ _ => true
  | .DictComp _ _ _ _ _ => true
  | _ => false
def compScope : Expr → Option Scope
  | .ListComp _ _ s _ => some s
  | .SetComp _ _ s _ => some s
  | .DictComp _ _ _ s _ => some s
  | _ => none
/-- the value of a comprehension goes straight into the local name -/
def swB (sc : Scope) (n : Str) (py : Pos) (x : Expr) : Bool := match compScope x with
  | none => false
  | some s => decide (sc.names.lookup n = some .local) && (py.line == x.pos.line) && !(s.names.any fun (m, k) => m == n && (k == .local || k == .cell))
/-- two or three local names are stored from the right -/
def parB (sc : Scope) (tg x : Expr) : Bool := match tg, x with
  | .Tuple [.Name n p, .Name m q] _ _, .Tuple vs _ _ => (vs.length == 2) && decide (sc.names.lookup n = some .local) && decide (sc.names.lookup m = some .local) && (q.line == p.line) && decide (n ≠ m) && !(vs.all (foldedForSure 8)) && !(vs.all (constantsAlone 8))
  | .Tuple [.Name n p, .Name m q, .Name l r] _ _, .Tuple vs _ _ => (vs.length == 3) && decide (sc.names.lookup n = some .local) && decide (sc.names.lookup m = some .local) && decide (sc.names.lookup l = some .local) && (q.line == p.line) && (r.line == p.line) && decide (n ≠ m) && decide (n ≠ l) && decide (m ≠ l) && !(vs.all (foldedForSure 8)) && !(vs.all (constantsAlone 8))
  | _, _ => false
def isTupSm : Tg → Bool
  | .tu _ => true
  | _ => false
mutual
def mst : Sm → SC → Stmt → Bool
  | .skip, _, st => match st with
    | .Pass _ => true
    | _ => false
  | .ex e, c, st => match st with
    | .Expr x _ => mt e c x && !isComp x
    | _ => false
  | .set i e, c, st => match st with
    | .Assign [.Name n _] x _ => decide (c.N[i]? = some n) && c.sto.contains n && mt e c x
    | _ => false
  | .asg t e, c, st => match st with
    | .Assign [tg] x _ => isTupSm t && mtt t c tg && mt e c x && (!isTup x || parB c.sc tg x)
    | _ => false
  | .sub o i e, c, st => match st with
    | .Assign [.Subscript ox ix _] x _ => mt o c ox && mt i c ix && mt e c x
    | _ => false
  | .ret e, c, st => match st with
    | .Return (some x) _ => mt e c x
    | .Return none _ => (match e with
      | .non => true
      | _ => false)
    | _ => false
  | .ite k a b, c, st => match st with
    | .If t xs ys _ => mt k c t && mss a c xs && mss b c ys
    | _ => false
  | .for t it b, c, st => match st with
    | .For tg iter body [] _ => mtw it c iter tg && mtt t c tg && mss b c body
    | _ => false
  | .whl k b, c, st => match st with
    | .While t body [] _ => mt k c t && mss b c body
    | _ => false
  | .brk, _, st => match st with
    | .Break _ => true
    | _ => false
  | .cont, _, st => match st with
    | .Continue _ => true
    | _ => false
  | .seq _ _, _, _ => false
def mss : Sm → SC → List Stmt → Bool
  | .skip, _, xs => match xs with
    | [] => true
    | _ => false
  | .seq a b, c, xs => match xs with
    | x :: xs => mst a c x && mss b c xs
    | [] => false
  | _, _, _ => false
end

/-! ### readings -/
structure PE4 where
  nx : Fr → AH → Ph → Hp → Prop
  bk : Fr → AH → Ph → Hp → Prop
  ct : Fr → AH → Ph → Hp → Prop
  rt : D → AH → Ph → Hp → Prop
  exc : Xc → Fr → AH → Ph → Hp → Prop
def okSP (G : Md) (φ : Ph) (H : Hp) (P : PE4) : SR → Prop
  | .nx F A => ∀ φ' H', Ext φ H φ' H' → HR G φ' H' A → P.nx F A φ' H'
  | .bk F A => ∀ φ' H', Ext φ H φ' H' → HR G φ' H' A → P.bk F A φ' H'
  | .ct F A => ∀ φ' H', Ext φ H φ' H' → HR G φ' H' A → P.ct F A φ' H'
  | .rt d A => ∀ φ' H', Ext φ H φ' H' → HR G φ' H' A → P.rt d A φ' H'
  | .exc x F A => ∀ φ' H', Ext φ H φ' H' → HR G φ' H' A → P.exc x F A φ' H'
  | .no => False
def pEnds (G : Md) (W : WX) (D : Ends) : PE4 where
  nx := fun F _ φ H => ∀ σ, FR G φ H F σ → D.nx σ H
  bk := fun F _ φ H => ∀ σ, FR G φ H F σ → D.bk σ H
  ct := fun F _ φ H => ∀ σ, FR G φ H F σ → D.ct σ H
  rt := fun d _ φ H => ∀ v, Rep G φ H d v → D.rt v H
  exc := fun x F _ φ H => ∀ σ cls dd, FR G φ H F σ → XRep G φ H x cls dd → W cls dd σ H
def tS (G : Md) (cl : Cl) (N : Nat) (W : WX) (b : Sm) : TS := fun D σ H => ∃ φ F A, HR G φ H A ∧ FR G φ H F σ ∧ okSP G φ H (pEnds G W D) (sx cl N b F A)
section
variable {G : Md} {φ φ1 : Ph} {H H1 : Hp} {P P' : PE4}
theorem okSP.ext {r : SR} (h : okSP G φ H P r) (x : Ext φ H φ1 H1) : okSP G φ1 H1 P r := by
  cases r <;> first | exact h | exact fun φ' H' e hr => h φ' H' (x.trans e) hr
/-- a value first, then the statement's end -/
theorem okSP.bns {α : Type} {W : WX} {D : Ends} {F : Fr} {σ : L2.St} {A : AH} {r : Res α} {f : α → AH → SR} (h : okSP G φ H (pEnds G W D) (bns F r f)) (hr : HR G φ H A) (fr : FR G φ H F σ) :
    okG G φ H (fun c d H' => W c d σ H') (fun a A φ' H' => okSP G φ' H' (pEnds G W D) (f a A)) r := by
  cases r with
  | ok a A => exact fun φ' H' e _ => okSP.ext (r := f a A) h e
  | exc y A => exact fun φ' H' cls dd e hr' x => h φ' H' e hr' σ cls dd (fr.ext hr e) x
  | no => exact h
end
theorem ps_imp {X : Cx} {st : Stmt} {t t' : TS} (h : PS X st t) (k : ∀ D σ H, t' D σ H → t D σ H) : PS X st t' := ⟨fun pins s σ H D I q => h.run pins s σ H D I (k D σ H q)⟩
theorem pss_imp {X : Cx} {st : List Stmt} {t t' : TS} (h : PSs X st t) (k : ∀ D σ H, t' D σ H → t D σ H) : PSs X st t' := ⟨fun pins s σ H D I q => h.run pins s σ H D I (k D σ H q)⟩
/-! ### the end of a walk that locked a dict -/
def unlQ (X : Cx) (P : Hp → Prop) (H : Hp) : Prop := P H ∨ ∃ a o u, H a = some (.frz o u) ∧ (∀ o' u', X.H_0 a ≠ some (.frz o' u')) ∧ P (upd H a u)
def UnlS (X : Cx) (D : Ends) : Ends where
  nx := fun σ H => unlQ X (D.nx σ) H
  bk := fun σ H => unlQ X (D.bk σ) H
  ct := fun σ H => unlQ X (D.ct σ) H
  rt := fun v H => unlQ X (D.rt v) H
theorem ps_unl {X : Cx} {st : Stmt} {t : TS} (h : PS X st t) : PS X st (fun D σ H => t (UnlS X D) σ H) := by
  refine ⟨fun pins s σ H D I q => thn (h.run pins s σ H _ I q) fun f s1 z => ?_⟩
  cases f with
  | next =>
    obtain ⟨σ1, H1, I1, z | ⟨a, o, u, e, n, z⟩⟩ := z
    · exact ⟨σ1, H1, I1, z⟩
    · exact ⟨σ1, _, I1.unlock e n, z⟩
  | brk =>
    obtain ⟨σ1, H1, I1, z | ⟨a, o, u, e, n, z⟩⟩ := z
    · exact ⟨σ1, H1, I1, z⟩
    · exact ⟨σ1, _, I1.unlock e n, z⟩
  | cont =>
    obtain ⟨σ1, H1, I1, z | ⟨a, o, u, e, n, z⟩⟩ := z
    · exact ⟨σ1, H1, I1, z⟩
    · exact ⟨σ1, _, I1.unlock e n, z⟩
  | ret v =>
    obtain ⟨w, σ1, H1, I1, r, z | ⟨a, o, u, e, n, z⟩⟩ := z
    · exact ⟨w, σ1, H1, I1, r, z⟩
    · exact ⟨w, σ1, _, I1.unlock e n, r, z⟩
theorem unl_endS {G : Md} {φ1 φ : Ph} {H1 H2 H : Hp} {X : Cx} {A A0 : AH} {l : Option Nat} {P : AH → Ph → Hp → Prop} {K : Hp → Prop} (hr1 : HR G φ1 H1 A0)
    (c1 : l = none → H2 = H1) (c2 : ∀ n, l = some n → ∃ a o ks, φ1[n]? = some a ∧ H1 a = some (.dK ks) ∧ H2 = upd H1 a (.frz o (.dK ks)) ∧ ∀ o' u', X.H_0 a ≠ some (.frz o' u'))
    (x : Ext φ1 H2 φ H) (hr : HR G φ H A) (q : ∀ φ' H', Ext φ1 H1 φ' H' → HR G φ' H' (unlockA A l) → P (unlockA A l) φ' H') (k : ∀ A' H', Mono φ H φ H' → P A' φ H' → K H') : unlQ X K H := by
  rcases unl_end (w := ⟨[], [], l⟩) (α := Unit) (b := ()) (W := fun _ _ _ => True) (P := fun _ A φ H => P A φ H) (H0 := X.H_0) hr1 c1 c2 x hr q with ⟨_, z⟩ | ⟨a, o, u, n, kvs, en, hf, nf, ma, ns, h2, mo, z⟩
  · exact .inl (k _ _ ⟨⟨[], by simp⟩, fun _ _ e _ => e⟩ z)
  · exact .inr ⟨a, o, u, hf, nf, k _ _ mo z⟩
def pUnl (G : Md) (φ1 : Ph) (H1 : Hp) (P : PE4) (l : Option Nat) : PE4 where
  nx := fun F A _ _ => okSP G φ1 H1 P (.nx F (unlockA A l))
  bk := fun F A _ _ => okSP G φ1 H1 P (.bk F (unlockA A l))
  ct := fun F A _ _ => okSP G φ1 H1 P (.ct F (unlockA A l))
  rt := fun d A _ _ => okSP G φ1 H1 P (.rt d (unlockA A l))
  exc := fun x F A _ _ => l = none ∧ okSP G φ1 H1 P (.exc x F A)
theorem okSP.unl {G : Md} {φ1 φ2 : Ph} {H1 H2 : Hp} {P : PE4} {l : Option Nat} {r : SR} (h : okSP G φ1 H1 P (unlS l r)) : okSP G φ2 H2 (pUnl G φ1 H1 P l) r := by
  cases l with
  | none => cases r <;> first | exact h | exact fun φ' H' e hr => h | exact fun φ' H' e hr => ⟨rfl, h⟩
  | some n => cases r <;> first | exact h | exact fun φ' H' e hr => h | exact h.elim
/-! ### for -/
theorem for_read {X : Cx} {cl : Cl} {N : Nat} {W : WX} {t : Tg} {it : Ex} {b : Sm} {D : Ends} {σ : L2.St} {H : Hp}
    (h : tS (Gd X) cl N W (.for t it b) D σ H) : tFor (iW X cl W it) (gE (Gd X) t) (tS (Gd X) cl N W b) (UnlS X D) σ H := by
  obtain ⟨φ, F, A, hr, fr, q⟩ := h
  refine ⟨φ, F, A, hr, fr, (okSP.bns (r := evw cl it F A) q hr fr).imp fun w A1 φ1 H1 e1 hr1 q1 H2 J c1 c2 hr2 wk => ?_⟩
  have x2 : Ext φ1 H1 φ1 H2 := by
    cases el : w.lock with
    | none => rw [c1 el]; exact .refl
    | some n =>
      obtain ⟨a, o, ks, ea, hH, rfl, _⟩ := c2 n el
      exact Ext.set (List.mem_of_getElem? ea) (.dK hH)
  generalize hbody : (fun F' A' => sx cl N b F' A') = body at q1
  generalize hP2 : pUnl (Gd X) φ1 H1 (pEnds (Gd X) W D) w.lock = P2
  have q2 : okSP (Gd X) φ1 H2 P2 (forL (asgT t) w.g body w.items F (lockA A1 w.lock)) := by
    rw [← hP2]
    exact okSP.unl q1
  have fr2 : FR (Gd X) φ1 H2 F σ := (fr.ext hr e1).ext hr1 x2
  refine ⟨fun i m σ H => m = w.items.length - i ∧ i ≤ w.items.length ∧ ∃ φ F A, Ext φ1 H2 φ H ∧ HR (Gd X) φ H A ∧ FR (Gd X) φ H F σ ∧ okSP (Gd X) φ1 H2 P2 (forL (asgT t) w.g body (w.items.drop i) F A),
    ⟨_, rfl, Nat.zero_le _, φ1, F, _, .refl, hr2, fr2, q2⟩, ?_⟩
  rintro i m σ3 H3 ⟨rfl, hi, φ3, F3, A3, x3, hr3, fr3, q3⟩
  have hlk : gOk A3 w.g = true := by
    cases hg : gOk A3 w.g with
    | true => rfl
    | false =>
      exfalso
      cases hd : w.items.drop i with
      | nil => rw [hd] at q3; unfold forL at q3; rw [if_neg (by rw [hg]; exact Bool.false_ne_true)] at q3; exact q3
      | cons d r => rw [hd] at q3; unfold forL at q3; rw [if_neg (by rw [hg]; exact Bool.false_ne_true)] at q3; exact q3
  by_cases hlt : i < w.items.length
  · have hd : w.items.drop i = w.items[i] :: w.items.drop (i + 1) := List.drop_eq_getElem_cons hlt
    obtain ⟨go, yld⟩ := wk.step φ3 H3 A3 i _ x3 hr3 hlk (List.getElem?_eq_getElem hlt)
    refine .inr ⟨go, fun σ4 H4 => ∃ φ F A, Ext φ1 H2 φ H4 ∧ HR (Gd X) φ H4 A ∧ FR (Gd X) φ H4 F σ4 ∧ okSP (Gd X) φ1 H2 P2 (forL (asgT t) w.g body (w.items.drop (i + 1)) F A),
      fun σ' H' z => ⟨_, by omega, rfl, hlt, z⟩, fun x H4 hy => ?_⟩
    obtain ⟨x4, hr4, rx⟩ := yld x H4 hy
    rw [hd] at q3
    unfold forL at q3
    rw [if_pos hlk] at q3
    split at q3
    · rename_i F' ha
      refine ⟨φ3, F3, A3, _, F', hr4, fr3.ext hr3 x4, rx, ha, fun σ' frσ ag => ⟨φ3, F', A3, hr4, frσ, ?_⟩⟩
      rw [← hbody] at q3
      have q3 : okSP (Gd X) φ1 H2 P2 (match sx cl N b F' A3 with
        | .nx F2 A2 => forL (asgT t) w.g (fun F' A' => sx cl N b F' A') (w.items.drop (i + 1)) F2 A2
        | .ct F2 A2 => forL (asgT t) w.g (fun F' A' => sx cl N b F' A') (w.items.drop (i + 1)) F2 A2
        | .bk F2 A2 => .nx F2 A2
        | x => x) := q3
      cases e : sx cl N b F' A3 with
      | nx F2 A2 =>
        rw [e] at q3
        simp only [hbody] at q3
        exact fun φ' H' e' hr' σ'' fr'' => ⟨φ', F2, A2, (x3.trans x4).trans e', hr', fr'', q3⟩
      | ct F2 A2 =>
        rw [e] at q3
        simp only [hbody] at q3
        exact fun φ' H' e' hr' σ'' fr'' => ⟨φ', F2, A2, (x3.trans x4).trans e', hr', fr'', q3⟩
      | bk F2 A2 =>
        rw [e, ← hP2] at q3
        intro φ' H' e' hr' σ'' fr''
        have xx := (x3.trans x4).trans e'
        exact unl_endS (X := X) (P := (pEnds (Gd X) W D).nx F2) (K := D.nx σ'') hr1 c1 c2 xx hr' (q3 φ' H' xx hr') fun A' H'' mo z => z σ'' (fr''.mono mo)
      | rt d A2 =>
        rw [e, ← hP2] at q3
        intro φ' H' e' hr' v rv
        have xx := (x3.trans x4).trans e'
        exact unl_endS (X := X) (P := (pEnds (Gd X) W D).rt d) (K := D.rt v) hr1 c1 c2 xx hr' (q3 φ' H' xx hr') fun A' H'' mo z => z v (Rep.mono mo _ _ rv)
      | exc y F2 A2 =>
        rw [e, ← hP2] at q3
        intro φ' H' e' hr' σ'' cls dd fr'' xr
        have xx := (x3.trans x4).trans e'
        obtain ⟨hn, z⟩ := q3 φ' H' xx hr'
        rw [c1 hn] at xx
        exact z φ' H' xx hr' σ'' cls dd fr'' xr
      | no => rw [e] at q3; exact q3.elim
    · exact q3.elim
  · have hi' : i = w.items.length := by omega
    subst hi'
    refine .inl ⟨wk.stop φ3 H3 A3 x3 hr3 hlk, ?_⟩
    rw [List.drop_length] at q3
    unfold forL at q3
    rw [if_pos hlk, ← hP2] at q3
    exact unl_endS (X := X) (P := (pEnds (Gd X) W D).nx F3) (K := D.nx σ3) hr1 c1 c2 x3 hr3 (q3 φ3 H3 x3 hr3) fun A' H'' mo z => z σ3 (fr3.mono mo)
end Ev

/-! ## EvSt2 -/
/-! EvSt2: statements, each. -/
namespace Ev
open PySem PySem.Spec PyProof.Rows L2
section
variable {X : Cx} {cl : Cl} {N : Nat} {W : WX}
theorem while_read {k : Ex} {b : Sm} {D : Ends} {σ : L2.St} {H : Hp} (h : tS (Gd X) cl N W (.whl k b) D σ H) : tWhile (tT (Gd X) cl W k) (tS (Gd X) cl N W b) D σ H := by
  obtain ⟨φ, F, A, hr, fr, q⟩ := h
  have q : okSP (Gd X) φ H (pEnds (Gd X) W D) (whlL (fun F' A' => tru (ev cl k F' A')) (fun F' A' => sx cl N b F' A') N F A) := q
  refine ⟨fun m σ H => ∃ φ F A, HR (Gd X) φ H A ∧ FR (Gd X) φ H F σ ∧ okSP (Gd X) φ H (pEnds (Gd X) W D) (whlL (fun F' A' => tru (ev cl k F' A')) (fun F' A' => sx cl N b F' A') m F A), ⟨N, φ, F, A, hr, fr, q⟩, ?_⟩
  rintro m σ1 H1 ⟨φ1, F1, A1, hr1, fr1, q1⟩
  cases m with
  | zero => exact q1.elim
  | succ m =>
    have q1 : okSP (Gd X) φ1 H1 (pEnds (Gd X) W D) (match tru (ev cl k F1 A1) with
      | .ok false A' => .nx F1 A'
      | .ok true A' => (match sx cl N b F1 A' with
        | .nx F2 A2 => whlL (fun F' A' => tru (ev cl k F' A')) (fun F' A' => sx cl N b F' A') m F2 A2
        | .ct F2 A2 => whlL (fun F' A' => tru (ev cl k F' A')) (fun F' A' => sx cl N b F' A') m F2 A2
        | .bk F2 A2 => .nx F2 A2
        | x => x)
      | .exc x A' => .exc x F1 A'
      | .no => .no) := q1
    refine ⟨φ1, F1, A1, hr1, fr1, ?_⟩
    show okG (Gd X) φ1 H1 (fun c d H' => W c d σ1 H') (pB _) (tru (ev cl k F1 A1))
    cases e : tru (ev cl k F1 A1) with
    | no => rw [e] at q1; exact q1.elim
    | exc y A2 =>
      rw [e] at q1
      exact fun φ' H' cls dd e' hr' x => q1 φ' H' e' hr' σ1 cls dd (fr1.ext hr1 e') x
    | ok r A2 =>
      rw [e] at q1
      intro φ2 H2 e2 hr2
      have fr2 := fr1.ext hr1 e2
      cases r with
      | false => exact q1 φ2 H2 e2 hr2 σ1 fr2
      | true =>
        refine ⟨fun σ' H' => ∃ φ F A, HR (Gd X) φ H' A ∧ FR (Gd X) φ H' F σ' ∧ okSP (Gd X) φ H' (pEnds (Gd X) W D) (whlL (fun F' A' => tru (ev cl k F' A')) (fun F' A' => sx cl N b F' A') m F A), fun σ' H' z => ⟨m, Nat.lt_succ_self m, z⟩, φ2, F1, A2, hr2, fr2, ?_⟩
        have q1 : okSP (Gd X) φ2 H2 (pEnds (Gd X) W D) (match sx cl N b F1 A2 with
          | .nx F2 A2 => whlL (fun F' A' => tru (ev cl k F' A')) (fun F' A' => sx cl N b F' A') m F2 A2
          | .ct F2 A2 => whlL (fun F' A' => tru (ev cl k F' A')) (fun F' A' => sx cl N b F' A') m F2 A2
          | .bk F2 A2 => .nx F2 A2
          | x => x) := q1.ext e2
        cases e3 : sx cl N b F1 A2 with
        | nx F2 A3 => rw [e3] at q1; exact fun φ' H' e' hr' σ'' fr'' => ⟨φ', F2, A3, hr', fr'', okSP.ext (r := whlL _ _ m F2 A3) q1 e'⟩
        | ct F2 A3 => rw [e3] at q1; exact fun φ' H' e' hr' σ'' fr'' => ⟨φ', F2, A3, hr', fr'', okSP.ext (r := whlL _ _ m F2 A3) q1 e'⟩
        | bk F2 A3 => rw [e3] at q1; exact q1
        | rt d A3 => rw [e3] at q1; exact q1
        | exc y F2 A3 => rw [e3] at q1; exact q1
        | no => rw [e3] at q1; exact q1.elim

/-! ### small statements -/
theorem st_ex {c : SC} {e : Ex} {st : Stmt} (ok : CtxOk X c cl W) (h : mst (.ex e) c st = true) : PS X st (tS (Gd X) cl N W (.ex e)) := by
  cases st <;> first | (simp [mst] at h; done) | skip
  rename_i x pos
  have h : (mt e c x && !isComp x) = true := h
  simp only [Bool.and_eq_true] at h
  refine ps_imp (ps_expr ((se_all e).pe ok h.1) (by cases x <;> first | rfl | exact absurd h.2 Bool.false_ne_true)) fun D σ H ⟨φ, F, A, hr, fr, q⟩ => ?_
  exact ⟨φ, F, A, hr, fr, (okSP.bns (r := ev cl e F A) q hr fr).imp fun d A1 φ1 H1 e1 hr1 q1 v _ => q1 φ1 H1 .refl hr1 σ (fr.ext hr e1)⟩
theorem st_ret {c : SC} {e : Ex} {st : Stmt} (ok : CtxOk X c cl W) (h : mst (.ret e) c st = true) : PS X st (tS (Gd X) cl N W (.ret e)) := by
  cases st <;> first | (simp [mst] at h; done) | skip
  rename_i o pos
  cases o with
  | some x =>
    have h : mt e c x = true := h
    refine ps_imp (ps_ret ((se_all e).pe ok h)) fun D σ H ⟨φ, F, A, hr, fr, q⟩ => ?_
    exact ⟨φ, F, A, hr, fr, (okSP.bns (r := ev cl e F A) q hr fr).imp fun d A1 φ1 H1 e1 hr1 q1 v rv => q1 φ1 H1 .refl hr1 v rv⟩
  | none =>
    cases e <;> first | (simp [mst] at h; done) | skip
    exact ps_imp ps_retN fun D σ H ⟨φ, F, A, hr, fr, q⟩ => q φ H .refl hr .non rfl
theorem sw_eq {x : Expr} {s : Scope} {n : Str} {py : Pos} {l : Nat} {env : Env} (hc : compScope x = some s) : swapsWith x (some (.Name n py)) l env = pure (env.blockKind == .function && env.kindOf n == some .local && py.line == x.pos.line && !(s.names.any fun (m, k) => m == n && (k == .local || k == .cell))) := by
  cases x <;> first | (cases hc; done) | skip
  all_goals
    cases hc
    rfl
theorem sw_none {x : Expr} {t : Option Expr} {l : Nat} {env : Env} (hc : compScope x = none) : swapsWith x t l env = pure false := by
  cases x <;> first | rfl | (cases hc; done)
theorem sw_val {sc : Scope} {x : Expr} {n : Str} {py : Pos} {l : Nat} {env : Env} (hs : env.scope = sc) (hk : env.scope.kind = .function) : swapsWith x (some (.Name n py)) l env = pure (swB sc n py x) := by
  subst hs
  unfold swB
  cases hc : compScope x with
  | none => exact sw_none hc
  | some s =>
    rw [sw_eq hc]
    have hb : env.blockKind = .function := by unfold Env.blockKind; rw [hk]; rfl
    rw [hb]
    congr 1
    show (true && (env.scope.names.lookup n == some .local) && _ && _) = _
    by_cases h : env.scope.names.lookup n = some .local
    · rw [h]; simp
    · have : (env.scope.names.lookup n == some NameKind.local) = false := by simpa using h
      rw [this]; simp [h]
theorem st_set_plain {c : SC} {i : Nat} {e : Ex} {n : Str} {py pos : Pos} {x : Expr} (ok : CtxOk X c cl W) (hn : c.N[i]? = some n) (hs : n ∈ c.sto) (he : mt e c x = true) (hw : swB c.sc n py x = false) :
    PS X (.Assign [.Name n py] x pos) (tS (Gd X) cl N W (.set i e)) := by
  obtain ⟨h1, h2⟩ := ok.sto n hs
  refine ps_imp (ps_set (i := i) (by rw [ok.N]; exact ok.nd) (by rw [ok.N]; exact hn) h1 ((se_all e).pe ok he) (by rw [sw_val ok.sc ok.kd, hw]) h2) fun D σ H ⟨φ, F, A, hr, fr, q⟩ => ?_
  exact ⟨φ, F, A, hr, fr, (okSP.bns (r := ev cl e F A) q hr fr).imp fun d A1 φ1 H1 e1 hr1 q1 v rv => q1 φ1 H1 .refl hr1 _ ((fr.ext hr e1).set i rv)⟩
/-- the unlocked end, for a statement that stores -/
theorem ps_setDc {i : Nat} {y : Str} {py : Pos} {kx elt tg iter : Expr} {ifs : List Expr} {scope : Scope} {own : List (Str × Nat)} {pos spos : Pos} {wi : TI} {g : TG} {tt : TT} {tk tv : TE} (hc : X.calm = true) (hN : X.N.Nodup) (hy : X.N[i]? = some y) (hyl : X.env.scope.names.lookup y = some .local)
    (hsw : swapsWith (.DictComp kx elt [⟨tg, iter, ifs, 0⟩] scope pos) (some (.Name y py)) spos.line X.env = pure true) (hi : PI X tg iter wi) (ok : BlkOk X.N X.env.scope scope own)
    (hg : ∀ (s : Shared) (H : Hp) (C : Addr) (cl : List (Str × Addr)) (fp : List Addr), PG (X.blk s H scope (compEnvC scope cl C X.env) fp) tg g) (ht : ∀ (s : Shared) (H : Hp) (C : Addr) (cl : List (Str × Addr)) (fp : List Addr), PTs (X.blk s H scope (compEnvC scope cl C X.env) fp) ifs tt)
    (hk : ∀ (s : Shared) (H : Hp) (C : Addr) (cl : List (Str × Addr)) (fp : List Addr), PE (X.blk s H scope (compEnvC scope cl C X.env) fp) kx tk)
    (he : ∀ (s : Shared) (H : Hp) (C : Addr) (cl : List (Str × Addr)) (fp : List Addr), PE (X.blk s H scope (compEnvC scope cl C X.env) fp) elt tv) (hs : ∀ x, foldedSetIterable iter X.env x = pure x := by intro _; rfl) :
    PS X (.Assign [.Name y py] (.DictComp kx elt [⟨tg, iter, ifs, 0⟩] scope pos) spos) (tAsg (tDc wi g tt tk tv (own.map (·.2))) (gName i)) := by
  refine ⟨fun pins s σ H D I h => ?_⟩
  rw [exec_Assign_Name_used _ _ _ _ hsw]
  refine wpAny_bind (wpAny_standAt (wpAny_bind ?_))
  show wpAny _ X.A (do let _ ← comprehension (.DictComp kx elt [⟨tg, iter, ifs, 0⟩] scope pos) scope X.env (firstIterPos [⟨tg, iter, ifs, 0⟩] pos) newDict false (eval iter X.env) (some (assign (.Name y py) X.env))) _ _ s
  have h : tDc wi g tt tk tv (own.map (·.2)) σ H (fun x H1 => gName i x σ H1 D.nx) := h
  refine wpAny_bind (thn (dc_core (Qf := fun _ s' => SP X pins D .next s') hc hN I hi ok hg ht hk he hs h fun L C s' m H' I' q hn f => ?_) fun _ s' hq => wpAny_pure (wpAny_pure hq))
  show wpAny _ _ (assign (.Name y py) X.env (.ref L)) _ _ _
  refine wpAny_assign_Name (store_ok2 (v := V.ref L) I' hN hy (.inl hyl) rfl (fun s2 I2 ⟨a, sb, ha⟩ => ?_) (.inr hyl))
  obtain ⟨f0, f1, f2, f3, f4, f5⟩ := f
  have haC : C ≠ a := by
    rcases ha with z | z
    · rw [z]; exact f1
    · exact fun e => f4 y a z e.symm
  refine ⟨m, hn.sameBut sb haC, fun h3 sb3 => ?_⟩
  exact ⟨_, H', I2.turned (t' := s2.toks) (fun b o hb e => (sb3.2 b hb).trans e) f0 f1 f3 f4 f5, q⟩
theorem st_set_lc {c : SC} {i : Nat} {e : Ex} {n : Str} {py pos : Pos} {x : Expr} (ok : CtxOk X c cl W) (hn : c.N[i]? = some n) (he : mt e c x = true) (hw : swB c.sc n py x = true) :
    PS X (.Assign [.Name n py] x pos) (tS (Gd X) cl N W (.set i e)) := by
  have hl : X.env.scope.names.lookup n = some .local := by
    unfold swB at hw
    split at hw
    · cases hw
    · simp only [Bool.and_eq_true, decide_eq_true_eq] at hw
      rw [ok.sc]; exact hw.1.1
  have hsw : swapsWith x (some (.Name n py)) pos.line X.env = pure true := by rw [sw_val ok.sc ok.kd, hw]
  have fin : ∀ D σ H, tS (Gd X) cl N W (.set i e) D σ H → tE (Gd X) cl W e σ H (fun v H1 => D.nx (σ.set i (some v)) H1) := fun D σ H ⟨φ, F, A, hr, fr, q⟩ =>
    ⟨φ, F, A, hr, fr, (okSP.bns (r := ev cl e F A) q hr fr).imp fun d A1 φ1 H1 e1 hr1 q1 v rv => q1 φ1 H1 .refl hr1 _ ((fr.ext hr e1).set i rv)⟩
  cases x <;> first | (cases hw; done) | skip
  · rename_i l gs scope cpos
    cases e <;> first | (simp [mt] at he; done) | skip
    rename_i t it cd e own
    rcases gs with _ | ⟨⟨tg, iter, ifs, k⟩, _ | _⟩ <;> first | (simp [mt] at he; done) | skip
    have h : (decide (k = 0) && blkC c.N c.sc scope (ownB c.N own) && decide ((ownB c.N own).map (·.2) = own) && (tgSlots t).all own.contains && mtw it c iter tg && mtt t (c.blk scope) tg && mtc cd (c.blk scope) ifs && mt e (c.blk scope) l) = true := he
    simp only [Bool.and_eq_true, decide_eq_true_eq] at h
    obtain ⟨⟨⟨⟨⟨⟨⟨rfl, hb⟩, ho⟩, ht⟩, h1⟩, h2⟩, h3⟩, h4⟩ := h
    have hb : BlkOk X.N X.env.scope scope (ownB c.N own) := blkOk_by (by rw [ok.N, ok.sc]; exact hb)
    have ht : ∀ i ∈ tgSlots t, i ∈ own := fun i hi => by simpa using List.all_eq_true.mp ht i hi
    refine ps_imp (ps_unl (ps_setLc (i := i) (g := gE (Gd X) t) (tt := tCd (Gd X) cl WF cd) (te := tE (Gd X) cl WF e) ok.calm (by rw [ok.N]; exact ok.nd) (by rw [ok.N]; exact hn) hl hsw ((se_all it).pi ok h1) hb (fun s H C clo fp => pg_of (ok.blk hb s H C clo fp) h2) (fun s H C clo fp => (se_all cd).pc (ok.blk hb s H C clo fp) h3) (fun s H C clo fp => (se_all e).pe (ok.blk hb s H C clo fp) h4) (fun x => folded_plain (mtw_plain h1)))) fun D σ H q => ?_
    have z := lc_read ht (fun F A w A' h => evw_lk h) (fin D σ H q)
    rw [ho]
    exact z
  · exfalso
    revert he
    cases e <;> simp [mt]
  · rename_i kx l gs scope cpos
    cases e <;> first | (simp [mt] at he; done) | skip
    rename_i t it cd ek e own
    rcases gs with _ | ⟨⟨tg, iter, ifs, k⟩, _ | _⟩ <;> first | (simp [mt] at he; done) | skip
    have h : (decide (k = 0) && blkC c.N c.sc scope (ownB c.N own) && decide ((ownB c.N own).map (·.2) = own) && (tgSlots t).all own.contains && mtw it c iter tg && mtt t (c.blk scope) tg && mtc cd (c.blk scope) ifs && mt ek (c.blk scope) kx && mt e (c.blk scope) l) = true := he
    simp only [Bool.and_eq_true, decide_eq_true_eq] at h
    obtain ⟨⟨⟨⟨⟨⟨⟨⟨rfl, hb⟩, ho⟩, ht⟩, h1⟩, h2⟩, h3⟩, hk⟩, h4⟩ := h
    have hb : BlkOk X.N X.env.scope scope (ownB c.N own) := blkOk_by (by rw [ok.N, ok.sc]; exact hb)
    have ht : ∀ i ∈ tgSlots t, i ∈ own := fun i hi => by simpa using List.all_eq_true.mp ht i hi
    refine ps_imp (ps_unl (ps_setDc (i := i) (g := gE (Gd X) t) (tt := tCd (Gd X) cl WF cd) (tk := tE (Gd X) cl WF ek) (tv := tE (Gd X) cl WF e) ok.calm (by rw [ok.N]; exact ok.nd) (by rw [ok.N]; exact hn) hl hsw ((se_all it).pi ok h1) hb (fun s H C clo fp => pg_of (ok.blk hb s H C clo fp) h2) (fun s H C clo fp => (se_all cd).pc (ok.blk hb s H C clo fp) h3) (fun s H C clo fp => (se_all ek).pe (ok.blk hb s H C clo fp) hk) (fun s H C clo fp => (se_all e).pe (ok.blk hb s H C clo fp) h4) (fun x => folded_plain (mtw_plain h1)))) fun D σ H q => ?_
    have z := dc_read ht (fun F A w A' h => evw_lk h) (fin D σ H q)
    rw [ho]
    exact z
theorem st_set {c : SC} {i : Nat} {e : Ex} {st : Stmt} (ok : CtxOk X c cl W) (h : mst (.set i e) c st = true) : PS X st (tS (Gd X) cl N W (.set i e)) := by
  cases st <;> first | (simp [mst] at h; done) | skip
  rename_i tgs x pos
  rcases tgs with _ | ⟨tg, _ | _⟩ <;> first | (simp [mst] at h; done) | skip
  cases tg <;> first | (simp [mst] at h; done) | skip
  rename_i n py
  have h : (decide (c.N[i]? = some n) && c.sto.contains n && mt e c x) = true := h
  simp only [Bool.and_eq_true, decide_eq_true_eq] at h
  cases hw : swB c.sc n py x with
  | false => exact st_set_plain ok h.1.1 (by simpa using h.1.2) h.2 hw
  | true => exact st_set_lc ok h.1.1 h.2 hw
theorem st_sub {c : SC} {o i e : Ex} {st : Stmt} (ok : CtxOk X c cl W) (h : mst (.sub o i e) c st = true) : PS X st (tS (Gd X) cl N W (.sub o i e)) := by
  cases st <;> first | (simp [mst] at h; done) | skip
  rename_i tgs x pos
  rcases tgs with _ | ⟨tg, _ | _⟩ <;> first | (simp [mst] at h; done) | skip
  cases tg <;> first | (simp [mst] at h; done) | skip
  rename_i ox ix spos
  have h : (mt o c ox && mt i c ix && mt e c x) = true := h
  simp only [Bool.and_eq_true] at h
  obtain ⟨⟨h1, h2⟩, h3⟩ := h
  have hip := mt_plain h2
  refine ps_imp (ps_asg ((se_all e).pe ok h3) (pg_sub ((se_all o).pe ok h1) ((se_all i).pe ok h2) (set_ok ok.hu) (by intro v; cases ix <;> first | rfl | (cases hip; done))) (by
    show swapsWith x (some (.Subscript ox ix spos)) pos.line X.env = pure false
    cases x <;> rfl)) fun D σ H ⟨φ, F, A, hr, fr, q⟩ => ?_
  refine ⟨φ, F, A, hr, fr, (okSP.bns (r := ev cl e F A) q hr fr).imp fun d A1 φ1 H1 e1 hr1 q1 v rv => ?_⟩
  have fr1 := fr.ext hr e1
  refine ⟨φ1, F, A1, hr1, fr1, (okSP.bns (r := ev cl o F A1) q1 hr1 fr1).imp fun d2 A2 φ2 H2 e2 hr2 q2 v2 rv2 => ?_⟩
  have fr2 := fr1.ext hr1 e2
  refine ⟨φ2, F, A2, hr2, fr2, (okSP.bns (r := ev cl i F A2) q2 hr2 fr2).imp fun d3 A3 φ3 H3 e3 hr3 q3 v3 rv3 => ?_⟩
  have fr3 := fr2.ext hr2 e3
  cases hA : opSet A3 d2 d3 d with
  | none => rw [hA] at q3; exact q3.elim
  | some A4 =>
    rw [hA] at q3
    exact ⟨φ3, A3, d2, d3, d, A4, hr3, rv2.ext hr2 e3, rv3, (rv.ext hr1 e2).ext hr2 e3, hA, fun φ' H' e' hr' => q3 φ' H' e' hr' σ (fr3.ext hr3 e')⟩
end
end Ev

/-! ## EvSt3 -/
/-! EvSt3: pairs of names; all statements. -/
namespace Ev
open PySem PySem.Spec PyProof.Rows L2
section
variable {X : Cx} {cl : Cl} {N : Nat} {W : WX}
theorem nostar : ∀ {vs : List Expr}, vs.all plainB = true → (vs.any fun | .Starred .. => true | _ => false) = false
  | [], _ => rfl
  | x :: xs, h => by
    simp only [List.all_cons, Bool.and_eq_true] at h
    rw [List.any_cons, nostar h.2, Bool.or_false]
    cases x <;> first | rfl | (cases h.1; done)
theorem sw_par2 {env : Env} {n m : Str} {p q pt pt2 : Pos} {k k2 : Nat} {a b : Expr} (hk : env.scope.kind = .function) (hp : [a, b].all plainB = true) (h1 : env.scope.names.lookup n = some .local) (h2 : env.scope.names.lookup m = some .local) (hl : (q.line == p.line) = true) (hne : n ≠ m)
    (hf : [a, b].all (foldedForSure 8) = false) (hc : [a, b].all (constantsAlone 8) = false) : swappedStores [.Tuple [.Name n p, .Name m q] k pt] (.Tuple [a, b] k2 pt2) env = pure (some [n, m]) := by
  have hb : env.blockKind = .function := by unfold Env.blockKind; rw [hk]; rfl
  have k1 : env.kindOf n = some .local := h1
  have k2' : env.kindOf m = some .local := h2
  have hs := nostar hp
  have hl' : q.line = p.line := by simpa using hl
  unfold swappedStores
  simp only [hb, hs, hf, hc, k1, k2', List.filterMap_cons, List.filterMap_nil, Expr.pos, List.head?_cons, Option.map_some, Option.getD_some, hl', List.length_cons, List.length_nil]
  simp [List.eraseDups_cons, hne, Ne.symm hne]
  intro h
  exfalso
  simp only [List.all_cons, Bool.and_eq_true] at hp
  rcases h with h | h
  · cases a <;> first | (cases h; done) | (cases hp.1; done)
  · cases b <;> first | (cases h; done) | (cases hp.2.1; done)
theorem sw_par3 {env : Env} {n m l : Str} {p q r pt pt2 : Pos} {k k2 : Nat} {a b c : Expr} (hk : env.scope.kind = .function) (hp : [a, b, c].all plainB = true) (h1 : env.scope.names.lookup n = some .local) (h2 : env.scope.names.lookup m = some .local) (h3 : env.scope.names.lookup l = some .local)
    (hl : (q.line == p.line) = true) (hl2 : (r.line == p.line) = true) (hne : n ≠ m) (hne2 : n ≠ l) (hne3 : m ≠ l)
    (hf : [a, b, c].all (foldedForSure 8) = false) (hc : [a, b, c].all (constantsAlone 8) = false) : swappedStores [.Tuple [.Name n p, .Name m q, .Name l r] k pt] (.Tuple [a, b, c] k2 pt2) env = pure (some [n, m, l]) := by
  have hb : env.blockKind = .function := by unfold Env.blockKind; rw [hk]; rfl
  have k1 : env.kindOf n = some .local := h1
  have k2' : env.kindOf m = some .local := h2
  have k3' : env.kindOf l = some .local := h3
  have hs := nostar hp
  have hl' : q.line = p.line := by simpa using hl
  have hl2' : r.line = p.line := by simpa using hl2
  unfold swappedStores
  simp only [hb, hs, hf, hc, k1, k2', k3', List.filterMap_cons, List.filterMap_nil, Expr.pos, List.head?_cons, Option.map_some, Option.getD_some, hl', hl2', List.length_cons, List.length_nil]
  simp [List.eraseDups_cons, hne, Ne.symm hne, hne2, Ne.symm hne2, hne3, Ne.symm hne3]
  intro h
  exfalso
  simp only [List.all_cons, Bool.and_eq_true] at hp
  rcases h with h | h | h
  · cases a <;> first | (cases h; done) | (cases hp.1; done)
  · cases b <;> first | (cases h; done) | (cases hp.2.1; done)
  · cases c <;> first | (cases h; done) | (cases hp.2.2.1; done)
theorem ev_tup {es : Ex} {F : Fr} {A : AH} : ev cl (.tup es) F A = bnd (evs cl es F A) fun ds A' => if ds.length ≤ sizeLine then .ok (.tup ds) A' else .no := rfl
/-- the values first, then the stores -/
theorem par_go {t : Tg} {es : Ex} {D : Ends} {σ : L2.St} {H : Hp} {K : List V → Hp → Prop} (h : tS (Gd X) cl N W (.asg t (.tup es)) D σ H)
    (k : ∀ φ H1 F ds F' vs, FR (Gd X) φ H1 F σ → Reps (Gd X) φ H1 ds vs → asgT t (.tup ds) F = some F' → (∀ σ', FR (Gd X) φ H1 F' σ' → D.nx σ' H1) → K vs H1) : tA (Gd X) cl W es σ H K := by
  obtain ⟨φ, F, A, hr, fr, q⟩ := h
  refine ⟨φ, F, A, hr, fr, (okG.bnd (r := evs cl es F A) (okSP.bns (r := ev cl (.tup es) F A) q hr fr)).imp fun ds A1 φ1 H1 e1 hr1 q1 vs rv => ?_⟩
  split at q1
  · have q2 : okSP (Gd X) φ1 H1 (pEnds (Gd X) W D) (match asgT t (.tup ds) F with
      | some F' => .nx F' A1
      | none => .no) := q1 φ1 H1 .refl hr1
    cases ha : asgT t (.tup ds) F with
    | none => rw [ha] at q2; exact q2.elim
    | some F' =>
      rw [ha] at q2
      exact k φ1 H1 F ds F' vs (fr.ext hr e1) rv ha fun σ' frσ => q2 φ1 H1 .refl hr1 σ' frσ
  · exact q1.elim
theorem slot_ne {c : SC} {i j : Nat} {n m : Str} (hi : c.N[i]? = some n) (hj : c.N[j]? = some m) (hne : n ≠ m) : i ≠ j := fun e => by
  subst e
  rw [hi] at hj
  cases hj
  exact hne rfl
theorem st_par {c : SC} {t : Tg} {e : Ex} {tg x : Expr} {pos : Pos} (ok : CtxOk X c cl W) (ht : mtt t c tg = true) (he : mt e c x = true) (h : parB c.sc tg x = true) : PS X (.Assign [tg] x pos) (tS (Gd X) cl N W (.asg t e)) := by
  have nm : ∀ {a : Tg} {n : Str} {p : Pos}, mtt a c (.Name n p) = true → ∃ i, a = .nm i ∧ c.N[i]? = some n := fun {a n p} h => by
    cases a with
    | nm i =>
      have h : (decide (c.N[i]? = some n) && c.sto.contains n) = true := h
      simp only [Bool.and_eq_true, decide_eq_true_eq] at h
      exact ⟨i, rfl, h.1⟩
    | _ => simp [mtt] at h
  have tup : ∀ {e : Ex} {vs : List Expr} {k : Nat} {p : Pos}, mt e c (.Tuple vs k p) = true → ∃ es, e = .tup es ∧ mts es c vs = true := fun {e vs k p} h => by
    cases e with
    | tup es => exact ⟨es, rfl, h⟩
    | _ => simp [mt] at h
  unfold parB at h
  split at h
  · rename_i n p m q k pt vs k2 pt2
    simp only [Bool.and_eq_true, decide_eq_true_eq, Bool.not_eq_true'] at h
    obtain ⟨⟨⟨⟨⟨⟨hl, h1⟩, h2⟩, h3⟩, hne⟩, hf⟩, hc⟩ := h
    obtain ⟨es, rfl, hes⟩ := tup he
    have hp := mts_plain hes
    rcases vs with _ | ⟨a, _ | ⟨b, _ | _⟩⟩ <;> first | (simp at hl; done) | skip
    cases t <;> first | (simp [mtt] at ht; done) | skip
    rename_i ts
    rcases ts with _ | _ | _ | ⟨t1, t2⟩ <;> first | (simp [mtt, mtts] at ht; done) | skip
    rcases t2 with _ | _ | _ | ⟨t2, t3⟩ <;> first | (simp [mtt, mtts] at ht; done) | skip
    rcases t3 with _ | _ | _ | ⟨t3, t4⟩ <;> first | (simp [mtt, mtts] at ht; done) | skip
    have ht : (mtt t1 c (.Name n p) && (mtt t2 c (.Name m q) && true)) = true := ht
    simp only [Bool.and_eq_true] at ht
    obtain ⟨i, rfl, hi⟩ := nm ht.1
    obtain ⟨j, rfl, hj⟩ := nm ht.2.1
    have hij := slot_ne hi hj hne
    refine ps_imp (ps_par (i := i) (j := j) ok.calm (by rw [ok.N]; exact ok.nd) (by rw [ok.N]; exact hi) (by rw [ok.N]; exact hj) hij (by rw [ok.sc]; exact h1) (by rw [ok.sc]; exact h2) ((se_all es).pa ok hes)
      (sw_par2 ok.kd hp (by rw [ok.sc]; exact h1) (by rw [ok.sc]; exact h2) h3 hne hf hc)) fun D σ H q => ?_
    refine par_go q fun φ H1 F ds F' vs fr rv ha k => ?_
    rcases ds with _ | ⟨d, _ | ⟨d2, _ | _⟩⟩ <;> first | (simp [asgT, asgTs] at ha; done) | skip
    obtain ⟨v, w, rfl, r1, r2⟩ := rv.two
    simp [asgT, asgTs] at ha
    subst ha
    exact ⟨v, w, rfl, k _ ((fr.set i r1).set j r2)⟩
  · rename_i n p m q l r k pt vs k2 pt2
    simp only [Bool.and_eq_true, decide_eq_true_eq, Bool.not_eq_true'] at h
    obtain ⟨⟨⟨⟨⟨⟨⟨⟨⟨⟨hl, h1⟩, h2⟩, h2'⟩, h3⟩, h3'⟩, hne⟩, hne2⟩, hne3⟩, hf⟩, hc⟩ := h
    obtain ⟨es, rfl, hes⟩ := tup he
    have hp := mts_plain hes
    rcases vs with _ | ⟨a, _ | ⟨b, _ | ⟨b2, _ | _⟩⟩⟩ <;> first | (simp at hl; done) | skip
    cases t <;> first | (simp [mtt] at ht; done) | skip
    rename_i ts
    rcases ts with _ | _ | _ | ⟨t1, t2⟩ <;> first | (simp [mtt, mtts] at ht; done) | skip
    rcases t2 with _ | _ | _ | ⟨t2, t3⟩ <;> first | (simp [mtt, mtts] at ht; done) | skip
    rcases t3 with _ | _ | _ | ⟨t3, t4⟩ <;> first | (simp [mtt, mtts] at ht; done) | skip
    rcases t4 with _ | _ | _ | ⟨t4, t5⟩ <;> first | (simp [mtt, mtts] at ht; done) | skip
    have ht : (mtt t1 c (.Name n p) && (mtt t2 c (.Name m q) && (mtt t3 c (.Name l r) && true))) = true := ht
    simp only [Bool.and_eq_true] at ht
    obtain ⟨i, rfl, hi⟩ := nm ht.1
    obtain ⟨j, rfl, hj⟩ := nm ht.2.1
    obtain ⟨u, rfl, hu⟩ := nm ht.2.2.1
    refine ps_imp (ps_par3 (i := i) (j := j) (l := u) ok.calm (by rw [ok.N]; exact ok.nd) (by rw [ok.N]; exact hi) (by rw [ok.N]; exact hj) (by rw [ok.N]; exact hu) (slot_ne hi hj hne) (slot_ne hi hu hne2) (slot_ne hj hu hne3) (by rw [ok.sc]; exact h1) (by rw [ok.sc]; exact h2) (by rw [ok.sc]; exact h2') ((se_all es).pa ok hes)
      (sw_par3 ok.kd hp (by rw [ok.sc]; exact h1) (by rw [ok.sc]; exact h2) (by rw [ok.sc]; exact h2') h3 h3' hne hne2 hne3 hf hc)) fun D σ H q => ?_
    refine par_go q fun φ H1 F ds F' vs fr rv ha k => ?_
    rcases ds with _ | ⟨d, _ | ⟨d2, _ | ⟨d3, _ | _⟩⟩⟩ <;> first | (simp [asgT, asgTs] at ha; done) | skip
    obtain ⟨v, vs, rfl, r1, rv⟩ := rv
    obtain ⟨w, z, rfl, r2, r3⟩ := rv.two
    simp [asgT, asgTs] at ha
    subst ha
    exact ⟨v, w, z, rfl, k _ (((fr.set i r1).set j r2).set u r3)⟩
  · cases h
theorem st_asg {c : SC} {t : Tg} {e : Ex} {st : Stmt} (ok : CtxOk X c cl W) (h : mst (.asg t e) c st = true) : PS X st (tS (Gd X) cl N W (.asg t e)) := by
  cases st <;> first | (simp [mst] at h; done) | skip
  rename_i tgs x pos
  rcases tgs with _ | ⟨tg, _ | _⟩ <;> first | (simp [mst] at h; done) | skip
  have h : (isTupSm t && mtt t c tg && mt e c x && (!isTup x || parB c.sc tg x)) = true := h
  simp only [Bool.and_eq_true] at h
  obtain ⟨⟨⟨h0, h1⟩, h2⟩, h3⟩ := h
  cases hb : parB c.sc tg x with
  | true => exact st_par ok h1 h2 hb
  | false =>
    rw [hb, Bool.or_false] at h3
    cases t <;> first | (cases h0; done) | skip
    rename_i ts
    cases tg <;> first | (simp [mtt] at h1; done) | skip
    refine ps_imp (ps_asg ((se_all e).pe ok h2) (pg_of ok h1) (by cases x <;> rfl) (by cases x <;> first | rfl | (cases h3; done))) fun D σ H ⟨φ, F, A, hr, fr, q⟩ => ?_
    refine ⟨φ, F, A, hr, fr, (okSP.bns (r := ev cl e F A) q hr fr).imp fun d A1 φ1 H1 e1 hr1 q1 v rv => ?_⟩
    cases ha : asgT (.tu ts) d F with
    | none => rw [ha] at q1; exact q1.elim
    | some F' =>
      rw [ha] at q1
      exact ⟨φ1, F, A1, d, F', hr1, fr.ext hr e1, rv, ha, fun σ' frσ _ => q1 φ1 H1 .refl hr1 σ' frσ⟩

/-! ### all -/
theorem st_ite {c : SC} {k : Ex} {a b : Sm} {st : Stmt} (ok : CtxOk X c cl W) (ha : ∀ {sts : List Stmt}, mss a c sts = true → PSs X sts (tS (Gd X) cl N W a)) (hb : ∀ {sts : List Stmt}, mss b c sts = true → PSs X sts (tS (Gd X) cl N W b))
    (h : mst (.ite k a b) c st = true) : PS X st (tS (Gd X) cl N W (.ite k a b)) := by
  cases st <;> first | (simp [mst] at h; done) | skip
  rename_i t xs ys pos
  have h : (mt k c t && mss a c xs && mss b c ys) = true := h
  simp only [Bool.and_eq_true] at h
  refine ps_imp (ps_if ((se_all k).pt ok h.1.1) (ha h.1.2) (hb h.2)) fun D σ H ⟨φ, F, A, hr, fr, q⟩ => ?_
  refine ⟨φ, F, A, hr, fr, (okSP.bns (r := tru (ev cl k F A)) q hr fr).imp fun r A1 φ1 H1 e1 hr1 q1 => ?_⟩
  cases r with
  | true => exact ⟨φ1, F, A1, hr1, fr.ext hr e1, q1⟩
  | false => exact ⟨φ1, F, A1, hr1, fr.ext hr e1, q1⟩
theorem st_for {c : SC} {t : Tg} {it : Ex} {b : Sm} {st : Stmt} (ok : CtxOk X c cl W) (hb : ∀ {sts : List Stmt}, mss b c sts = true → PSs X sts (tS (Gd X) cl N W b)) (h : mst (.for t it b) c st = true) : PS X st (tS (Gd X) cl N W (.for t it b)) := by
  cases st <;> first | (simp [mst] at h; done) | skip
  rename_i tg iter body orelse pos
  cases orelse <;> first | (simp [mst] at h; done) | skip
  have h : (mtw it c iter tg && mtt t c tg && mss b c body) = true := h
  simp only [Bool.and_eq_true] at h
  exact ps_imp (ps_unl (ps_for ok.ps ok.calm ((se_all it).pi ok h.1.1) (pg_of ok h.1.2) (hb h.2) (fun x => folded_plain (mtw_plain h.1.1)))) fun D σ H q => for_read q
theorem st_whl {c : SC} {k : Ex} {b : Sm} {st : Stmt} (ok : CtxOk X c cl W) (hb : ∀ {sts : List Stmt}, mss b c sts = true → PSs X sts (tS (Gd X) cl N W b)) (h : mst (.whl k b) c st = true) : PS X st (tS (Gd X) cl N W (.whl k b)) := by
  cases st <;> first | (simp [mst] at h; done) | skip
  rename_i t body orelse pos
  cases orelse <;> first | (simp [mst] at h; done) | skip
  have h : (mt k c t && mss b c body) = true := h
  simp only [Bool.and_eq_true] at h
  exact ps_imp (ps_while ok.ps ((se_all k).pt ok h.1) (hb h.2)) fun D σ H q => while_read q
theorem ss_seq {c : SC} {a b : Sm} {sts : List Stmt} (ha : ∀ {st : Stmt}, mst a c st = true → PS X st (tS (Gd X) cl N W a)) (hb : ∀ {sts : List Stmt}, mss b c sts = true → PSs X sts (tS (Gd X) cl N W b)) (h : mss (.seq a b) c sts = true) : PSs X sts (tS (Gd X) cl N W (.seq a b)) := by
  cases sts with
  | nil => simp [mss] at h
  | cons x xs =>
    have h : (mst a c x && mss b c xs) = true := by simpa [mss] using h
    simp only [Bool.and_eq_true] at h
    refine pss_imp (pss_cons (ha h.1) (hb h.2)) fun D σ H ⟨φ, F, A, hr, fr, q⟩ => ⟨φ, F, A, hr, fr, ?_⟩
    have q : okSP (Gd X) φ H (pEnds (Gd X) W D) (match sx cl N a F A with
      | .nx F' A' => sx cl N b F' A'
      | x => x) := q
    cases e : sx cl N a F A with
    | nx F' A' => rw [e] at q; exact fun φ' H' e' hr' σ' fr' => ⟨φ', F', A', hr', fr', okSP.ext (r := sx cl N b F' A') q e'⟩
    | bk F' A' => rw [e] at q; exact q
    | ct F' A' => rw [e] at q; exact q
    | rt d A' => rw [e] at q; exact q
    | exc y F' A' => rw [e] at q; exact q
    | no => rw [e] at q; exact q.elim
theorem ss_skip {c : SC} {sts : List Stmt} (h : mss .skip c sts = true) : PSs X sts (tS (Gd X) cl N W .skip) := by
  cases sts with
  | cons => simp [mss] at h
  | nil => exact pss_imp pss_nil fun D σ H ⟨φ, F, A, hr, fr, q⟩ => q φ H .refl hr σ fr
theorem st_skip {c : SC} {st : Stmt} (h : mst .skip c st = true) : PS X st (tS (Gd X) cl N W .skip) := by
  cases st <;> first | (simp [mst] at h; done) | skip
  exact ps_imp ps_pass fun D σ H ⟨φ, F, A, hr, fr, q⟩ => q φ H .refl hr σ fr
theorem st_brk {c : SC} {st : Stmt} (h : mst .brk c st = true) : PS X st (tS (Gd X) cl N W .brk) := by
  cases st <;> first | (simp [mst] at h; done) | skip
  exact ps_imp ps_break fun D σ H ⟨φ, F, A, hr, fr, q⟩ => q φ H .refl hr σ fr
theorem st_cont {c : SC} {st : Stmt} (h : mst .cont c st = true) : PS X st (tS (Gd X) cl N W .cont) := by
  cases st <;> first | (simp [mst] at h; done) | skip
  exact ps_imp ps_continue fun D σ H ⟨φ, F, A, hr, fr, q⟩ => q φ H .refl hr σ fr
theorem ss_all {c : SC} (ok : CtxOk X c cl W) : ∀ b : Sm, (∀ {st : Stmt}, mst b c st = true → PS X st (tS (Gd X) cl N W b)) ∧ ∀ {sts : List Stmt}, mss b c sts = true → PSs X sts (tS (Gd X) cl N W b)
  | .skip => ⟨st_skip, ss_skip⟩
  | .seq a b => ⟨fun h => by simp [mst] at h, ss_seq (ss_all ok a).1 (ss_all ok b).2⟩
  | .ex e => ⟨st_ex ok, fun h => by simp [mss] at h⟩
  | .set i e => ⟨st_set ok, fun h => by simp [mss] at h⟩
  | .asg t e => ⟨st_asg ok, fun h => by simp [mss] at h⟩
  | .sub o i e => ⟨st_sub ok, fun h => by simp [mss] at h⟩
  | .ret e => ⟨st_ret ok, fun h => by simp [mss] at h⟩
  | .ite k a b => ⟨st_ite ok (ss_all ok a).2 (ss_all ok b).2, fun h => by simp [mss] at h⟩
  | .for t it b => ⟨st_for ok (ss_all ok b).2, fun h => by simp [mss] at h⟩
  | .whl k b => ⟨st_whl ok (ss_all ok b).2, fun h => by simp [mss] at h⟩
  | .brk => ⟨st_brk, fun h => by simp [mss] at h⟩
  | .cont => ⟨st_cont, fun h => by simp [mss] at h⟩
end
end Ev

/-! ## EvFn -/
/-! EvFn: defs, calls, the law. -/
namespace Ev
open PySem PySem.Spec PyProof.Rows L2
/-- a def of the text: its name, its slots, how many of them are parameters -/
structure FT where
  f : String
  np : Nat
  N : List Str
  d : He.DefD
def FT.ps (t : FT) : List Str := t.N.take t.np
def FT.sc (t : FT) (fns : List String) (csts : List (String × D)) : SC := ⟨t.N, t.d.scope, stoOf t.d.scope, fns, csts⟩
/-- the def's text is the evaluator's -/
def rowB (pg : Pg) (fns : List String) (csts : List (String × D)) (t : FT) : Bool := match pg t.f with
  | some fd => (fd.np == t.np) && (fd.ns == t.N.length) && decide (t.np ≤ t.N.length) && mss fd.body (t.sc fns csts) t.d.body && (t.d.scope.names.all fun y => decide (t.d.scope.names.lookup y.1 = some y.2))
  | none => false
structure RowOk (K : PySem.W.Frag) (mg : Str → Option Value) (pg : Pg) (fns : List String) (csts : List (String × D)) (t : FT) : Prop where
  ex : ∃ (fa : Addr) (fd : FuncData) (x qual : Str), mg (Str.ofString t.f) = some (.ref fa) ∧ FunD K x qual t.d.params t.d.body t.d.scope [] [] fa fd ∧ Binds K fd t.ps []
  S : FnScope t.N t.ps t.d.scope
  b : rowB pg fns csts t = true
section
variable {P : Program} {w : World} {K : PySem.W.Frag} {mg : Str → Option Value} {base : Heap} {pg : Pg} {NN : Nat} {fns : List String} {csts : List (String × D)}
theorem fr_start {G : Md} {φ : Ph} {H : Hp} {fd : Fd} {N : List Str} {ds : List D} {vs : List V} (r : Reps G φ H ds vs) (h1 : fd.ns = N.length) (h2 : ds.length = fd.np) : FR G φ H (startF fd ds) (L2.start N vs) := by
  have hl := r.length
  unfold startF L2.start
  refine ⟨by simp; omega, fun i d e => ?_⟩
  by_cases hi : i < ds.length
  · rw [List.getElem?_append_left (by simpa using hi), List.getElem?_map] at e
    obtain ⟨d', e1, e2⟩ := Option.map_eq_some_iff.mp e
    cases e2
    obtain ⟨v, e3, rv⟩ := r.get e1
    refine ⟨v, ?_, rv⟩
    rw [List.getElem?_append_left (by simp; omega), List.getElem?_map, e3]
    rfl
  · rw [List.getElem?_append_right (by simp; omega), List.getElem?_replicate] at e
    split at e <;> cases e
theorem fn_law {t : FT} {n : Nat} {fa : Addr} {fd : FuncData} {x qual : Str} (fb : FreeB mg) (bn : ∀ x ∈ biNames ++ tyBi ++ ["enumerate", "zip", "range"], mg (Str.ofString x) = none)
    (hc : ∀ p ∈ csts, ∃ v u, mg (Str.ofString p.1) = some u ∧ RelV v u ∧ ∀ φ H, Rep ⟨K, mg⟩ φ H p.2 v)
    (ih : ∀ A, Room n A → ∀ f ∈ fns, FnIs P w K mg base A (callF pg NN n) f) (F : FunD K x qual t.d.params t.d.body t.d.scope [] [] fa fd) (S : FnScope t.N t.ps t.d.scope) (hB : rowB pg fns csts t = true) : FnOk P w K mg base (CX P w) (n + 1) fa fd t.ps (spEv ⟨K, mg⟩ (callF pg NN (n + 1)) t.f) := by
  unfold rowB at hB
  cases hp : pg t.f with
  | none => rw [hp] at hB; cases hB
  | some fd' =>
    rw [hp] at hB
    simp only [Bool.and_eq_true, beq_iff_eq, decide_eq_true_eq] at hB
    obtain ⟨⟨⟨⟨b1, b2⟩, b2'⟩, b3⟩, b4⟩ := hB
    have hcall : ∀ ds A, callF pg NN (n + 1) t.f ds A = if ds.length = fd'.np then (match sx (callF pg NN n) NN fd'.body (startF fd' ds) A with
      | .nx _ A' => .ok D.non A'
      | .rt d A' => .ok d A'
      | .exc x _ A' => .exc x A'
      | _ => .no) else .no := fun ds A => by
      show (match pg t.f with
        | none => Res.no
        | some fd => if ds.length = fd.np then (match sx (callF pg NN n) NN fd.body (startF fd ds) A with
          | .nx _ A' => .ok D.non A'
          | .rt d A' => .ok d A'
          | .exc x _ A' => .exc x A'
          | _ => .no) else .no) = _
      rw [hp]
    have hps : t.ps.length = t.np := by
      unfold FT.ps
      rw [List.length_take]
      omega
    refine F.ok S (fun vs H Q E h => ?_) (fun cdv A outer s H vs Q E hr h => ⟨tS ⟨K, mg⟩ (callF pg NN n) NN (fun cls d _ H => E cls d H) fd'.body, ?_, ?_⟩)
    · obtain ⟨φ, A, ds, hr, rs, o⟩ := h
      rw [hcall] at o
      split at o
      · rename_i hl
        rw [rs.length, hl, hps, b1]
      · exact o.elim
    · let X := cxOf (CX P w) P w K mg base t.N qual t.d.scope fa cdv A outer s H E
      have ok : CtxOk X (t.sc fns csts) (callF pg NN n) (fun cls d _ H => E cls d H) := {
        N := rfl
        nd := S.nd
        sc := rfl
        calm := rfl
        kd := S.kind
        hu := hr.units
        tk := takes_of (X := X) (E₁ := fun e' s'' => CX P w outer H s E e' s'') rfl rfl rfl rfl
        ps := passes_of (X := X) (E₁ := fun e' s'' => CX P w outer H s E e' s'') (K := fun e s'' => CX P w outer H s E e s'') rfl
        fb := fb
        bn := bn
        sto := fun x hx => by
          obtain ⟨y, hy, rfl⟩ := List.mem_map.mp (show x ∈ (t.d.scope.names.filter fun y => y.2 == .local || y.2 == .cell).map (·.1) from hx)
          obtain ⟨h1, h2⟩ := List.mem_filter.mp hy
          have h3 : t.d.scope.names.lookup y.1 = some y.2 := by simpa using List.all_eq_true.mp b4 y h1
          simp only [Bool.or_eq_true, beq_iff_eq] at h2
          refine ⟨?_, .inl rfl⟩
          rcases h2 with h2 | h2
          · rw [h2] at h3; exact .inl h3
          · rw [h2] at h3; exact .inr h3
        calls := fun f hf => ih _ hr f hf
        csts := hc }
      exact (ss_all ok fd'.body).2 b3
    · obtain ⟨φ, A, ds, hr, rs, o⟩ := h
      rw [hcall] at o
      split at o
      · rename_i hl
        refine ⟨φ, startF fd' ds, A, hr, fr_start rs b2 hl, ?_⟩
        cases e : sx (callF pg NN n) NN fd'.body (startF fd' ds) A with
        | nx F' A' => rw [e] at o; exact fun φ' H' e' hr' σ' fr' => o φ' H' e' hr' .non rfl
        | bk F' A' => rw [e] at o; exact o.elim
        | ct F' A' => rw [e] at o; exact o.elim
        | rt d A' => rw [e] at o; exact fun φ' H' e' hr' v rv => o φ' H' e' hr' v rv
        | exc y F' A' => rw [e] at o; exact fun φ' H' e' hr' σ' cls dd fr' xr => o φ' H' cls dd e' hr' xr
        | no => rw [e] at o; exact o.elim
      · exact o.elim
theorem fn_step {t : FT} {n : Nat} (fb : FreeB mg) (bn : ∀ x ∈ biNames ++ tyBi ++ ["enumerate", "zip", "range"], mg (Str.ofString x) = none)
    (hc : ∀ p ∈ csts, ∃ v u, mg (Str.ofString p.1) = some u ∧ RelV v u ∧ ∀ φ H, Rep ⟨K, mg⟩ φ H p.2 v)
    (ih : ∀ A, Room n A → ∀ f ∈ fns, FnIs P w K mg base A (callF pg NN n) f) (ro : RowOk K mg pg fns csts t) {A : Around} (hr : Room (n + 1) A) : FnIs P w K mg base A (callF pg NN (n + 1)) t.f := by
  obtain ⟨fa, fd, x, qual, hm, F, hb⟩ := ro.ex
  exact ⟨fa, fd, t.ps, n + 1, hm, F.kp, hb, fn_law fb bn hc ih F ro.S ro.b, hr⟩
theorem fns_ok {rows : List FT} (fb : FreeB mg) (bn : ∀ x ∈ biNames ++ tyBi ++ ["enumerate", "zip", "range"], mg (Str.ofString x) = none)
    (hc : ∀ p ∈ csts, ∃ v u, mg (Str.ofString p.1) = some u ∧ RelV v u ∧ ∀ φ H, Rep ⟨K, mg⟩ φ H p.2 v) (hf : fns = rows.map (·.f)) (ro : ∀ t ∈ rows, RowOk K mg pg fns csts t) :
    ∀ (n : Nat) (A : Around), Room n A → ∀ f ∈ fns, FnIs P w K mg base A (callF pg NN n) f
  | 0, A, hr, f, hm => by
    rw [hf] at hm
    obtain ⟨t, ht, rfl⟩ := List.mem_map.mp hm
    obtain ⟨fa, fd, x, qual, hm, F, hb⟩ := (ro t ht).ex
    exact ⟨fa, fd, t.ps, 0, hm, F.kp, hb, ⟨fun vs H Q E ⟨_, _, _, _, _, o⟩ => o.elim, fun _ _ _ _ _ _ _ _ _ _ _ _ _ ⟨_, _, _, _, _, o⟩ => o.elim⟩, hr⟩
  | n + 1, A, hr, f, hm => by
    rw [hf] at hm
    obtain ⟨t, ht, rfl⟩ := List.mem_map.mp hm
    exact fn_step fb bn hc (fun A hr f hm => fns_ok fb bn hc hf ro n A hr f hm) (ro t ht) hr
/-- THE LAW: what the evaluator says of the script is kept -/
theorem law_of {t : FT} {n : Nat} {a : Addr} {H : Hp} {ns : List Int} (hO : Only H) (hS : SqL K H a (ns.map V.int)) (h : ∃ A', callF pg NN n t.f [.frl (ns.map .int)] [] = .ok (.bl true) A') :
    spEv ⟨K, mg⟩ (callF pg NN n) t.f [.ref a] H (fun v _ => v = .bl true) fun _ _ _ => False := by
  obtain ⟨A', h⟩ := h
  have fz : FzL K H a (ns.map V.int) := by
    rcases hS with (e | e) | e
    · rcases hO a with z | ⟨o, xs, z⟩
      · rw [z] at e; cases e
      · rw [z] at e; cases e
    · exact .inl e
    · exact .inr e
  have hr : HR ⟨K, mg⟩ [] H [] := ⟨rfl, fun i j a e => by simp at e, fun i a o e => by simp at e⟩
  have rints : ∀ ns : List Int, Reps ⟨K, mg⟩ [] H (ns.map D.int) (ns.map V.int) := fun ns => by
    induction ns with
    | nil => exact rfl
    | cons i r ih => exact ⟨_, _, rfl, rfl, ih⟩
  have r0 : Rep ⟨K, mg⟩ [] H (.frl (ns.map .int)) (.ref a) := ⟨a, _, rfl, fz, rints ns⟩
  refine ⟨[], [], _, hr, Reps.cons r0 Reps.nil, ?_⟩
  rw [h]
  exact fun φ' H' e hr' v rv => rv
end
/-- an exception that leaves a call, in any world -/
def CXw (P : Program) : CXT := fun o H s E u s' => ∃ w, CX P w o H s E u s'
theorem cxw_of {P : Program} {w : World} {K : PySem.W.Frag} {mg : Str → Option Value} {base : Heap} {k : Nat} {f : Addr} {fd : FuncData} {ps : List Str} {sp : Sp} (F : FnOk P w K mg base (CX P w) k f fd ps sp) : FnOk P w K mg base (CXw P) k f fd ps sp :=
  ⟨F.len, fun A outer s H args us vs Q E hr he hb hv hs => codeAny_mono (F.run A outer s H args us vs Q E hr he hb hv hs) fun r s' q => by
    cases r with
    | error e => exact ⟨w, q⟩
    | ok fl => cases fl <;> exact q⟩
theorem noex {P : Program} {H : Hp} {s : Shared} {e : Value} {s' : Shared} (h : CXw P [] H s (fun _ _ _ => False) e s') : False := by
  obtain ⟨_, _, _, _, _, _, _, _, _, _, _, _, _, h⟩ := h
  exact h
end Ev

/-! ## EvWp -/
/-! EvWp: what the evaluator reaches. -/
namespace Ev
open PySem
def wR {α : Type} (r : Res α) (P : α → AH → Prop) : Prop := match r with
  | .ok a A => P a A
  | _ => False
def wS (r : SR) (Pn : Fr → AH → Prop) (Pb Pc : Fr → AH → Prop) (Pr : D → AH → Prop) : Prop := match r with
  | .nx F A => Pn F A
  | .bk F A => Pb F A
  | .ct F A => Pc F A
  | .rt d A => Pr d A
  | _ => False
theorem wR.mono {α : Type} {r : Res α} {P Q : α → AH → Prop} (h : wR r P) (k : ∀ a A, P a A → Q a A) : wR r Q := by
  cases r with
  | ok a A => exact k a A h
  | exc => exact h
  | no => exact h
theorem wR_bnd {α β : Type} {r : Res α} {f : α → AH → Res β} {P : β → AH → Prop} : wR (bnd r f) P ↔ wR r (fun a A => wR (f a A) P) := by
  cases r <;> rfl
theorem wR_ok {α : Type} {a : α} {A : AH} {P : α → AH → Prop} : wR (.ok a A) P ↔ P a A := Iff.rfl
theorem wR_some {α : Type} {a : α} {A : AH} {P : α → AH → Prop} : wR (ofO (some a) A) P ↔ P a A := Iff.rfl
theorem wS_bns {α : Type} {r : Res α} {F : Fr} {f : α → AH → SR} {Pn Pb Pc : Fr → AH → Prop} {Pr : D → AH → Prop} : wS (bns F r f) Pn Pb Pc Pr ↔ wR r (fun a A => wS (f a A) Pn Pb Pc Pr) := by
  cases r <;> rfl
theorem wS_nx {F A Pn Pb Pc Pr} : wS (.nx F A) Pn Pb Pc Pr ↔ Pn F A := Iff.rfl
theorem wS_bk {F A Pn Pb Pc Pr} : wS (.bk F A) Pn Pb Pc Pr ↔ Pb F A := Iff.rfl
theorem wS_ct {F A Pn Pb Pc Pr} : wS (.ct F A) Pn Pb Pc Pr ↔ Pc F A := Iff.rfl
theorem wS_rt {d A Pn Pb Pc Pr} : wS (.rt d A) Pn Pb Pc Pr ↔ Pr d A := Iff.rfl
section
variable {cl : String → List D → AH → Res D} {N : Nat} {F : Fr} {A : AH} {Pn Pb Pc : Fr → AH → Prop} {Pr : D → AH → Prop}
theorem wS_seq {a b : Sm} : wS (sx cl N (.seq a b) F A) Pn Pb Pc Pr ↔ wS (sx cl N a F A) (fun F A => wS (sx cl N b F A) Pn Pb Pc Pr) Pb Pc Pr := by
  show wS (match sx cl N a F A with | .nx F' A' => sx cl N b F' A' | x => x) Pn Pb Pc Pr ↔ _
  cases sx cl N a F A <;> rfl
theorem wS_skip : wS (sx cl N .skip F A) Pn Pb Pc Pr ↔ Pn F A := Iff.rfl
theorem wS_ex {e : Ex} : wS (sx cl N (.ex e) F A) Pn Pb Pc Pr ↔ wR (ev cl e F A) (fun _ A => Pn F A) := wS_bns
theorem wS_set {i : Nat} {e : Ex} : wS (sx cl N (.set i e) F A) Pn Pb Pc Pr ↔ wR (ev cl e F A) (fun d A => Pn (fset F i d) A) := wS_bns
theorem wS_ret {e : Ex} : wS (sx cl N (.ret e) F A) Pn Pb Pc Pr ↔ wR (ev cl e F A) (fun d A => Pr d A) := wS_bns
theorem wS_ite {c : Ex} {a b : Sm} : wS (sx cl N (.ite c a b) F A) Pn Pb Pc Pr ↔ wR (tru (ev cl c F A)) (fun r A => if r = true then wS (sx cl N a F A) Pn Pb Pc Pr else wS (sx cl N b F A) Pn Pb Pc Pr) := by
  refine wS_bns.trans ?_
  cases tru (ev cl c F A) with
  | ok r A => cases r <;> rfl
  | exc => rfl
  | no => rfl
theorem wS_brk : wS (sx cl N .brk F A) Pn Pb Pc Pr ↔ Pb F A := Iff.rfl
theorem wS_cont : wS (sx cl N .cont F A) Pn Pb Pc Pr ↔ Pc F A := Iff.rfl
end
/-- a call -/
theorem wR_call {P : Pg} {N n : Nat} {f : String} {fd : Fd} {ds : List D} {A : AH} {Q : D → AH → Prop} (h : P f = some fd) (hl : ds.length = fd.np) :
    wR (callF P N (n + 1) f ds A) Q ↔ wS (sx (callF P N n) N fd.body (startF fd ds) A) (fun _ A => Q .non A) (fun _ _ => False) (fun _ _ => False) Q := by
  show wR (match P f with
    | none => Res.no
    | some fd => if ds.length = fd.np then (match sx (callF P N n) N fd.body (startF fd ds) A with
      | .nx _ A' => .ok D.non A'
      | .rt d A' => .ok d A'
      | .exc x _ A' => .exc x A'
      | _ => .no) else .no) Q ↔ _
  rw [h]
  simp only [hl, if_true]
  cases sx (callF P N n) N fd.body (startF fd ds) A <;> rfl
/-- what stood still stands -/
def Kp (A B : AH) : Prop := ∀ (i : Nat) (o : AO), A[i]? = some o → B[i]? = some o
theorem Kp.refl {A : AH} : Kp A A := fun _ _ h => h
theorem Kp.trans {A B C : AH} (a : Kp A B) (b : Kp B C) : Kp A C := fun i o h => b i o (a i o h)
theorem Kp.app {A B J : AH} (a : Kp A B) : Kp A (B ++ J) := fun i o h => by
  have := a i o h
  rw [List.getElem?_append_left (List.getElem?_eq_some_iff.mp this).1]; exact this
theorem Kp.set {A B : AH} {n : Nat} {o : AO} (a : Kp A B) (h : A[n]? = none) : Kp A (B.set n o) := fun i o' h' => by
  rw [List.getElem?_set_ne (fun e => by rw [← e, h] at h'; cases h')]; exact a i o' h'
theorem Kp.len {A B : AH} (a : Kp A B) : A.length ≤ B.length := by
  by_cases h : A.length = 0
  · omega
  · have h1 : A[A.length - 1]? = some A[A.length - 1] := List.getElem?_eq_getElem (by omega)
    have := (List.getElem?_eq_some_iff.mp (a _ _ h1)).1
    omega
theorem Kp.fresh {A B : AH} (a : Kp A B) {n : Nat} (h : B[n]? = none) : A[n]? = none := by
  have := a.len
  rw [List.getElem?_eq_none_iff] at h ⊢
  omega
end Ev
namespace Ev
/-! ### loops -/
theorem lcL_ind {asg : D → Fr → Option Fr} {g : Guard} {body : Fr → AH → Res (Option D)} {F : Fr} {P : List D → AH → Prop} (I : Nat → List D → AH → Prop) :
    ∀ (items : List D) (i : Nat) (acc : List D) (A : AH), I i acc A →
      (∀ j d acc A, items[j]? = some d → I (i + j) acc A → gOk A g = true ∧ ∃ F', asg d F = some F' ∧ wR (body F' A) (fun o A' => match o with
        | some y => acc.length < PySem.sizeLine ∧ I (i + j + 1) (acc ++ [y]) A'
        | none => I (i + j + 1) acc A')) →
      (∀ acc A, I (i + items.length) acc A → gOk A g = true ∧ P acc A) → wR (lcL asg g body F items acc A) P
  | [], i, acc, A, h0, hs, hd => by
    obtain ⟨h1, h2⟩ := hd acc A h0
    unfold lcL
    rw [if_pos h1]
    exact h2
  | d :: r, i, acc, A, h0, hs, hd => by
    obtain ⟨h1, F', h2, h3⟩ := hs 0 d acc A rfl h0
    unfold lcL
    rw [if_pos h1]
    simp only [h2]
    rw [wR_bnd]
    refine h3.mono fun o A' h4 => ?_
    have go : ∀ acc A, I (i + 1) acc A → wR (lcL asg g body F r acc A) P := fun acc A h => by
      refine lcL_ind I r (i + 1) acc A h (fun j d acc A e h => ?_) (fun acc A h => hd acc A (by rw [List.length_cons]; rw [show i + (r.length + 1) = i + 1 + r.length by omega]; exact h))
      have := hs (j + 1) d acc A (by simpa using e) (by rw [show i + (j + 1) = i + 1 + j by omega]; exact h)
      rw [show i + (j + 1) + 1 = i + 1 + j + 1 by omega] at this
      exact this
    cases o with
    | some y =>
      simp only [if_pos h4.1]
      exact go _ _ h4.2
    | none => exact go _ _ h4
/-- nothing of the heap changes: a map -/
theorem lcL_map {asg : D → Fr → Option Fr} {body : Fr → AH → Res (Option D)} {F : Fr} {A : AH} (f : D → D) : ∀ (items acc : List D), (∀ d ∈ items, ∃ F', asg d F = some F' ∧ body F' A = .ok (some (f d)) A) → acc.length + items.length ≤ PySem.sizeLine →
    lcL asg [] body F items acc A = .ok (acc ++ items.map f) A
  | [], acc, _, _ => by unfold lcL; simp [gOk]
  | d :: r, acc, h, hl => by
    obtain ⟨F', h1, h2⟩ := h d List.mem_cons_self
    rw [List.length_cons] at hl
    unfold lcL
    simp only [h1, h2, bnd, gOk, List.all_nil, if_true, if_pos (show acc.length < PySem.sizeLine by omega)]
    rw [lcL_map f r (acc ++ [f d]) (fun d' hd => h d' (List.mem_cons_of_mem _ hd)) (by rw [List.length_append]; simp; omega)]
    simp
theorem dcL_ind {asg : D → Fr → Option Fr} {g : Guard} {body : Fr → AH → Res (Option (D × D))} {F : Fr} {P : List (D × D) → AH → Prop} (I : Nat → List (D × D) → AH → Prop) :
    ∀ (items : List D) (i : Nat) (acc : List (D × D)) (A : AH), I i acc A →
      (∀ j d acc A, items[j]? = some d → I (i + j) acc A → gOk A g = true ∧ ∃ F', asg d F = some F' ∧ wR (body F' A) (fun o A' => match o with
        | some (k, v) => acc.length < PySem.sizeLine ∧ keyOk k = true ∧ I (i + j + 1) (dput acc k v) A'
        | none => I (i + j + 1) acc A')) →
      (∀ acc A, I (i + items.length) acc A → gOk A g = true ∧ P acc A) → wR (dcL asg g body F items acc A) P
  | [], i, acc, A, h0, hs, hd => by
    obtain ⟨h1, h2⟩ := hd acc A h0
    unfold dcL
    rw [if_pos h1]
    exact h2
  | d :: r, i, acc, A, h0, hs, hd => by
    obtain ⟨h1, F', h2, h3⟩ := hs 0 d acc A rfl h0
    unfold dcL
    rw [if_pos h1]
    simp only [h2]
    rw [wR_bnd]
    refine h3.mono fun o A' h4 => ?_
    have go : ∀ acc A, I (i + 1) acc A → wR (dcL asg g body F r acc A) P := fun acc A h => by
      refine dcL_ind I r (i + 1) acc A h (fun j d acc A e h => ?_) (fun acc A h => hd acc A (by rw [List.length_cons]; rw [show i + (r.length + 1) = i + 1 + r.length by omega]; exact h))
      have := hs (j + 1) d acc A (by simpa using e) (by rw [show i + (j + 1) = i + 1 + j by omega]; exact h)
      rw [show i + (j + 1) + 1 = i + 1 + j + 1 by omega] at this
      exact this
    cases o with
    | some y =>
      obtain ⟨k, v⟩ := y
      obtain ⟨h5, h6, h7⟩ := h4
      simp only [h5, h6, decide_true, Bool.and_self, if_true]
      exact go _ _ h7
    | none => exact go _ _ h4
theorem forL_ind {asg : D → Fr → Option Fr} {g : Guard} {body : Fr → AH → SR} {Pn Pb Pc : Fr → AH → Prop} {Pr : D → AH → Prop} (I : Nat → Fr → AH → Prop) :
    ∀ (items : List D) (i : Nat) (F : Fr) (A : AH), I i F A →
      (∀ j d F A, items[j]? = some d → I (i + j) F A → gOk A g = true ∧ ∃ F', asg d F = some F' ∧ wS (body F' A) (I (i + j + 1)) Pn (I (i + j + 1)) Pr) →
      (∀ F A, I (i + items.length) F A → gOk A g = true ∧ Pn F A) → wS (forL asg g body items F A) Pn Pb Pc Pr
  | [], i, F, A, h0, hs, hd => by
    obtain ⟨h1, h2⟩ := hd F A h0
    unfold forL
    rw [if_pos h1]
    exact h2
  | d :: r, i, F, A, h0, hs, hd => by
    obtain ⟨h1, F', h2, h3⟩ := hs 0 d F A rfl h0
    unfold forL
    rw [if_pos h1]
    simp only [h2]
    have go : ∀ F A, I (i + 1) F A → wS (forL asg g body r F A) Pn Pb Pc Pr := fun F A h => by
      refine forL_ind I r (i + 1) F A h (fun j d F A e h => ?_) (fun F A h => hd F A (by rw [List.length_cons]; rw [show i + (r.length + 1) = i + 1 + r.length by omega]; exact h))
      have := hs (j + 1) d F A (by simpa using e) (by rw [show i + (j + 1) = i + 1 + j by omega]; exact h)
      rw [show i + (j + 1) + 1 = i + 1 + j + 1 by omega] at this
      exact this
    cases e : body F' A with
    | nx F2 A2 => rw [e] at h3; exact go _ _ h3
    | ct F2 A2 => rw [e] at h3; exact go _ _ h3
    | bk F2 A2 => rw [e] at h3; exact h3
    | rt d A2 => rw [e] at h3; exact h3
    | exc y F2 A2 => rw [e] at h3; exact h3
    | no => rw [e] at h3; exact h3
end Ev
namespace Ev
/-- a block behind its first k statements -/
def drp : Nat → Sm → Sm
  | 0, s => s
  | k + 1, .seq _ b => drp k b
  | _ + 1, s => s
def iteC : Sm → Ex
  | .seq (.ite c _ _) _ => c
  | _ => .non
/-- what is returned where the test at the block's head holds -/
def iteR : Sm → Ex
  | .seq (.ite _ (.seq (.ret e) .skip) .skip) _ => e
  | .seq (.ret e) .skip => e
  | _ => .non
def isIteR : Sm → Bool
  | .seq (.ite _ (.seq (.ret _) .skip) .skip) _ => true
  | _ => false
section
variable {cl : String → List D → AH → Res D} {N : Nat} {F F' : Fr} {A : AH} {Pn Pb Pc : Fr → AH → Prop} {Pr : D → AH → Prop}
theorem ret_at (k : Nat) {b : Sm} (h1 : sx cl N b F A = sx cl N (drp k b) F' A) (h2 : isIteR (drp k b) = true) (h3 : tru (ev cl (iteC (drp k b)) F' A) = .ok true A) (h : wR (ev cl (iteR (drp k b)) F' A) Pr) : wS (sx cl N b F A) Pn Pb Pc Pr := by
  rw [h1]
  generalize drp k b = s at h2 h3 h
  unfold isIteR at h2
  split at h2
  · rename_i c e rest
    rw [wS_seq, wS_ite]
    have h3 : tru (ev cl c F' A) = .ok true A := h3
    rw [h3]
    show wS (sx cl N (.seq (.ret e) .skip) F' A) _ _ _ _
    rw [wS_seq, wS_ret]
    exact h
  · cases h2
theorem ret_end (k : Nat) {b : Sm} {e : Ex} (h1 : sx cl N b F A = sx cl N (drp k b) F' A) (h2 : drp k b = .seq (.ret e) .skip) (h : wR (ev cl e F' A) Pr) : wS (sx cl N b F A) Pn Pb Pc Pr := by
  rw [h1, h2, wS_seq, wS_ret]
  exact h
end
theorem opB_cat {A : AH} {xs ys : List D} (h : xs.length + ys.length ≤ PySem.sizeLine) : opB ((A ++ [AO.lst xs]) ++ [AO.lst ys]) .add (.ref A.length) (.ref (A ++ [AO.lst xs]).length) = .ok (.ref ((A ++ [AO.lst xs]) ++ [AO.lst ys]).length) (((A ++ [AO.lst xs]) ++ [AO.lst ys]) ++ [AO.lst (xs ++ ys)]) := by
  have h1 : ((A ++ [AO.lst xs]) ++ [.lst ys])[A.length]? = some (.lst xs) := by simp
  have h2 : ((A ++ [AO.lst xs]) ++ [.lst ys])[(A ++ [AO.lst xs]).length]? = some (.lst ys) := by simp
  simp only [opB, h1, h2, if_pos h]
theorem wR_eq {α : Type} {r : Res α} {P : α → AH → Prop} {a : α} {A : AH} (h : r = .ok a A) (p : P a A) : wR r P := by rw [h]; exact p
theorem eq_of_wR {α : Type} {r : Res α} {P : α → AH → Prop} (h : wR r P) : ∃ a A, r = .ok a A ∧ P a A := by
  cases r with
  | ok a A => exact ⟨a, A, rfl, h⟩
  | exc => exact h.elim
  | no => exact h.elim
end Ev
namespace Ev
def iteA : Sm → Sm
  | .seq (.ite _ a _) _ => a
  | _ => .skip
def isIte : Sm → Bool
  | .seq (.ite _ _ _) _ => true
  | _ => false
section
variable {cl : String → List D → AH → Res D} {N : Nat} {F F' : Fr} {A : AH} {Pn Pb Pc : Fr → AH → Prop} {Pr : D → AH → Prop}
/-- behind k statements a test holds, and its block does not fall through -/
theorem ite_at (k : Nat) {b : Sm} (h1 : sx cl N b F A = sx cl N (drp k b) F' A) (h2 : isIte (drp k b) = true) (h3 : tru (ev cl (iteC (drp k b)) F' A) = .ok true A) (h : wS (sx cl N (iteA (drp k b)) F' A) (fun _ _ => False) Pb Pc Pr) : wS (sx cl N b F A) Pn Pb Pc Pr := by
  rw [h1]
  generalize drp k b = s at h2 h3 h
  unfold isIte at h2
  split at h2
  · rename_i c a b' rest
    rw [wS_seq, wS_ite]
    have h3 : tru (ev cl c F' A) = .ok true A := h3
    rw [h3]
    have h : wS (sx cl N a F' A) (fun _ _ => False) Pb Pc Pr := h
    show wS (sx cl N a F' A) _ Pb Pc Pr
    cases e : sx cl N a F' A with
    | nx F2 A2 => rw [e] at h; exact h.elim
    | bk F2 A2 => rw [e] at h; exact h
    | ct F2 A2 => rw [e] at h; exact h
    | rt d A2 => rw [e] at h; exact h
    | exc y F2 A2 => rw [e] at h; exact h
    | no => rw [e] at h; exact h
  · cases h2
end
end Ev
namespace Ev
def lcB (cl : String → List D → AH → Res D) (c e : Ex) : Fr → AH → Res (Option D) := fun F' A' => nox (bnd (evc cl c F' A') fun b A2 => if b then bnd (ev cl e F' A2) fun y A3 => .ok (some y) A3 else .ok none A2)
def dcB (cl : String → List D → AH → Res D) (c k v : Ex) : Fr → AH → Res (Option (D × D)) := fun F' A' => nox (bnd (evc cl c F' A') fun b A2 => if b then bnd (ev cl k F' A2) fun x A3 => bnd (ev cl v F' A3) fun y A4 => .ok (some (x, y)) A4 else .ok none A2)
theorem wR_nox {α : Type} {r : Res α} {P : α → AH → Prop} : wR (nox r) P ↔ wR r P := by cases r <;> rfl
section
variable {cl : String → List D → AH → Res D} {F : Fr} {A : AH}
theorem wR_lc {t : Tg} {it c e : Ex} {own : List Nat} {P : D → AH → Prop} : wR (ev cl (.lc t it c e own) F A) P ↔ wR (evw cl it F A) (fun w A1 => wR (unlR w.lock (bnd (lcL (asgT t) w.g (lcB cl c e) (wipeF F own) w.items [] (lockA A1 w.lock)) fun ds A2 => .ok (.ref A2.length) (A2 ++ [.lst ds]))) P) := wR_bnd
theorem wR_dc {t : Tg} {it c k v : Ex} {own : List Nat} {P : D → AH → Prop} : wR (ev cl (.dc t it c k v own) F A) P ↔ wR (evw cl it F A) (fun w A1 => wR (unlR w.lock (bnd (dcL (asgT t) w.g (dcB cl c k v) (wipeF F own) w.items [] (lockA A1 w.lock)) fun ds A2 => .ok (.ref A2.length) (A2 ++ [.dct ds]))) P) := wR_bnd
theorem wR_lcB {c e : Ex} {P : Option D → AH → Prop} : wR (lcB cl c e F A) P ↔ wR (evc cl c F A) (fun b A2 => if b = true then wR (ev cl e F A2) (fun y A3 => P (some y) A3) else P none A2) := by
  refine wR_nox.trans (wR_bnd.trans ?_)
  cases evc cl c F A with
  | ok b A2 =>
    cases b with
    | true => exact wR_bnd
    | false => rfl
  | exc => rfl
  | no => rfl
theorem wR_dcB {c k v : Ex} {P : Option (D × D) → AH → Prop} : wR (dcB cl c k v F A) P ↔ wR (evc cl c F A) (fun b A2 => if b = true then wR (ev cl k F A2) (fun x A3 => wR (ev cl v F A3) fun y A4 => P (some (x, y)) A4) else P none A2) := by
  refine wR_nox.trans (wR_bnd.trans ?_)
  cases evc cl c F A with
  | ok b A2 =>
    cases b with
    | true =>
      refine wR_bnd.trans ?_
      show _ ↔ wR (ev cl k F A2) fun x A3 => wR (ev cl v F A3) fun y A4 => P (some (x, y)) A4
      cases ev cl k F A2 with
      | ok x A3 => exact wR_bnd
      | exc => rfl
      | no => rfl
    | false => rfl
  | exc => rfl
  | no => rfl
theorem wR_evc0 {P : Bool → AH → Prop} : wR (evc cl .nil F A) P ↔ P true A := Iff.rfl
theorem wR_wk {e : Ex} {P : Wk → AH → Prop} : wR (evw cl (.wk e) F A) P ↔ wR (ev cl e F A) (fun x A1 => wR (ofO (wkOf A1 x) A1) P) := wR_bnd
theorem wR_enm {e : Ex} {P : Wk → AH → Prop} : wR (evw cl (.enm e) F A) P ↔ wR (ev cl e F A) (fun x A1 => wR (ofO (wkEnum A1 x) A1) P) := wR_bnd
theorem wR_rng {e : Ex} {P : Wk → AH → Prop} : wR (evw cl (.rng e) F A) P ↔ wR (evs cl e F A) (fun x A1 => wR (ofO (wkRng x) A1) P) := wR_bnd
theorem wR_var {i : Nat} {d : D} {P : D → AH → Prop} (h : F[i]? = some (some d)) : wR (ev cl (.var i) F A) P ↔ P d A := by
  show wR (match F[i]? with | some (some d) => Res.ok d A | _ => .no) P ↔ _
  rw [h]
  exact Iff.rfl
theorem wR_cl {f : String} {es : Ex} {P : D → AH → Prop} : wR (ev cl (.call f es) F A) P ↔ wR (evs cl es F A) (fun ds A1 => wR (cl f ds A1) P) := wR_bnd
theorem wR_bi {f : String} {es : Ex} {P : D → AH → Prop} : wR (ev cl (.bi f es) F A) P ↔ wR (evs cl es F A) (fun ds A1 => wR (biF A1 f ds) P) := wR_bnd
theorem wR_op {o : BOp} {a b : Ex} {P : D → AH → Prop} : wR (ev cl (.op o a b) F A) P ↔ wR (ev cl a F A) (fun x A1 => wR (ev cl b F A1) fun y A2 => wR (opB A2 o x y) P) := by
  refine wR_bnd.trans ?_
  cases ev cl a F A with
  | ok x A1 => exact wR_bnd
  | exc => rfl
  | no => rfl
theorem wR_nil {P : List D → AH → Prop} : wR (evs cl .nil F A) P ↔ P [] A := Iff.rfl
theorem wR_cons {a r : Ex} {P : List D → AH → Prop} : wR (evs cl (.cons a r) F A) P ↔ wR (ev cl a F A) (fun x A1 => wR (evs cl r F A1) fun xs A2 => P (x :: xs) A2) := by
  refine wR_bnd.trans ?_
  cases ev cl a F A with
  | ok x A1 => exact wR_bnd
  | exc => rfl
  | no => rfl
theorem wR_cmp {o : COp} {a b : Ex} {P : D → AH → Prop} : wR (ev cl (.cmp o a b) F A) P ↔ wR (ev cl a F A) (fun x A1 => wR (ev cl b F A1) fun y A2 => wR (ofO ((opC A2 o x y).map .bl) A2) P) := by
  refine wR_bnd.trans ?_
  cases ev cl a F A with
  | ok x A1 => exact wR_bnd
  | exc => rfl
  | no => rfl
theorem wR_ix {a b : Ex} {P : D → AH → Prop} : wR (ev cl (.ix a b) F A) P ↔ wR (ev cl a F A) (fun x A1 => wR (ev cl b F A1) fun y A2 => wR (ofO (opI A2 x y) A2) P) := by
  refine wR_bnd.trans ?_
  cases ev cl a F A with
  | ok x A1 => exact wR_bnd
  | exc => rfl
  | no => rfl
theorem wR_mth {m : String} {o es : Ex} {P : D → AH → Prop} : wR (ev cl (.mth m o es) F A) P ↔ wR (ev cl o F A) (fun x A1 => wR (ofO (mkM A1 m x) A1) fun k A2 => wR (evs cl es F A2) fun ds A3 => wR (mtF A3 k m x ds) P) := by
  refine wR_bnd.trans ?_
  cases ev cl o F A with
  | ok x A1 =>
    refine wR_bnd.trans ?_
    show wR (ofO (mkM A1 m x) A1) _ ↔ wR (ofO (mkM A1 m x) A1) _
    cases ofO (mkM A1 m x) A1 with
    | ok k A2 => exact wR_bnd
    | exc => rfl
    | no => rfl
  | exc => rfl
  | no => rfl
end
theorem gOk_kp {A B : AH} {g : Guard} (k : Kp A B) (h : gOk A g = true) : gOk B g = true := by
  unfold gOk at h ⊢
  rw [List.all_eq_true] at h ⊢
  intro p hp
  have := h p hp
  simp only [decide_eq_true_eq] at this ⊢
  exact k _ _ this
/-- a row whose elements only add to the heap -/
theorem lcL_kp {asg : D → Fr → Option Fr} {g : Guard} {body : Fr → AH → Res (Option D)} {F : Fr} {P : List D → AH → Prop} {items : List D} {A0 : AH} (ys : List (Option D)) (hl : ys.length = items.length) (hz : items.length ≤ PySem.sizeLine) (hg : gOk A0 g = true)
    (hs : ∀ (j : Nat) (d : D) (o : Option D) (A : AH), items[j]? = some d → ys[j]? = some o → Kp A0 A → ∃ F', asg d F = some F' ∧ wR (body F' A) (fun o' A' => o' = o ∧ Kp A A')) (hd : ∀ A, Kp A0 A → P (ys.filterMap id) A) : wR (lcL asg g body F items [] A0) P := by
  refine lcL_ind (fun i acc A => Kp A0 A ∧ acc = (ys.take i).filterMap id ∧ acc.length ≤ i) items 0 [] A0 ⟨.refl, rfl, Nat.le_refl _⟩ (fun j d acc A e ⟨k, ea, el⟩ => ?_) fun acc A ⟨k, ea, el⟩ => ?_
  · have hj : j < items.length := (List.getElem?_eq_some_iff.mp e).1
    have hy : ys[j]? = some ys[j] := List.getElem?_eq_getElem (by omega)
    obtain ⟨F', h1, h2⟩ := hs j d _ A e hy k
    refine ⟨gOk_kp k hg, F', h1, h2.mono fun o A' ⟨ho, k'⟩ => ?_⟩
    subst ho
    have ht : ys.take (0 + j + 1) = ys.take (0 + j) ++ [ys[j]] := by rw [Nat.zero_add, List.take_succ, hy]; rfl
    cases h : ys[j] with
    | some y =>
      simp only
      refine ⟨by omega, k.trans k', ?_, by simp; omega⟩
      rw [ht, List.filterMap_append, ← ea, h]
      rfl
    | none =>
      simp only
      refine ⟨k.trans k', ?_, by omega⟩
      rw [ht, List.filterMap_append, ← ea, h]
      simp
  · refine ⟨gOk_kp k hg, ?_⟩
    rw [Nat.zero_add, List.take_of_length_le (by omega)] at ea
    rw [ea]
    exact hd A k
end Ev
namespace Ev
section
variable {cl : String → List D → AH → Res D} {N : Nat} {F : Fr} {A : AH} {Pn Pb Pc : Fr → AH → Prop} {Pr : D → AH → Prop}
theorem wS_for {t : Tg} {it : Ex} {b : Sm} : wS (sx cl N (.for t it b) F A) Pn Pb Pc Pr ↔ wR (evw cl it F A) (fun w A1 => wS (unlS w.lock (forL (asgT t) w.g (fun F' A' => sx cl N b F' A') w.items F (lockA A1 w.lock))) Pn Pb Pc Pr) := wS_bns
theorem wS_sub {o i e : Ex} : wS (sx cl N (.sub o i e) F A) Pn Pb Pc Pr ↔ wR (ev cl e F A) (fun v A1 => wR (ev cl o F A1) fun x A2 => wR (ev cl i F A2) fun y A3 => ∃ A4, opSet A3 x y v = some A4 ∧ Pn F A4) := by
  refine wS_bns.trans ?_
  cases ev cl e F A with
  | ok v A1 =>
    refine wS_bns.trans ?_
    show wR (ev cl o F A1) _ ↔ wR (ev cl o F A1) _
    cases ev cl o F A1 with
    | ok x A2 =>
      refine wS_bns.trans ?_
      show wR (ev cl i F A2) _ ↔ wR (ev cl i F A2) _
      cases ev cl i F A2 with
      | ok y A3 =>
        show wS (match opSet A3 x y v with | some A4 => SR.nx F A4 | none => .no) Pn Pb Pc Pr ↔ ∃ A4, opSet A3 x y v = some A4 ∧ Pn F A4
        cases opSet A3 x y v with
        | some A4 => exact ⟨fun h => ⟨A4, rfl, h⟩, fun ⟨_, e, h⟩ => by cases e; exact h⟩
        | none => exact ⟨fun h => h.elim, fun ⟨_, e, _⟩ => by cases e⟩
      | exc => rfl
      | no => rfl
    | exc => rfl
    | no => rfl
  | exc => rfl
  | no => rfl
theorem wS_asg {t : Tg} {e : Ex} : wS (sx cl N (.asg t e) F A) Pn Pb Pc Pr ↔ wR (ev cl e F A) (fun d A1 => ∃ F', asgT t d F = some F' ∧ Pn F' A1) := by
  refine wS_bns.trans ?_
  cases ev cl e F A with
  | ok d A1 =>
    show wS (match asgT t d F with | some F' => SR.nx F' A1 | none => .no) Pn Pb Pc Pr ↔ ∃ F', asgT t d F = some F' ∧ Pn F' A1
    cases asgT t d F with
    | some F' => exact ⟨fun h => ⟨F', rfl, h⟩, fun ⟨_, e, h⟩ => by cases e; exact h⟩
    | none => exact ⟨fun h => h.elim, fun ⟨_, e, _⟩ => by cases e⟩
  | exc => rfl
  | no => rfl
end
theorem wS.mono {r : SR} {Pn Pb Pc Pn' Pb' Pc' : Fr → AH → Prop} {Pr Pr' : D → AH → Prop} (h : wS r Pn Pb Pc Pr) (k1 : ∀ F A, Pn F A → Pn' F A) (k2 : ∀ F A, Pb F A → Pb' F A) (k3 : ∀ F A, Pc F A → Pc' F A) (k4 : ∀ d A, Pr d A → Pr' d A) : wS r Pn' Pb' Pc' Pr' := by
  cases r with
  | nx F A => exact k1 _ _ h
  | bk F A => exact k2 _ _ h
  | ct F A => exact k3 _ _ h
  | rt d A => exact k4 _ _ h
  | exc => exact h
  | no => exact h
/-- a list that was not there -/
def FL (A : AH) (r : Res D) (xs : List D) : Prop := wR r fun d A' => ∃ a, d = .ref a ∧ Kp A A' ∧ A[a]? = none ∧ A'[a]? = some (.lst xs)
theorem FL.walk {A : AH} {r : Res D} {xs : List D} {P : Wk → AH → Prop} (h : FL A r xs) (k : ∀ a A', Kp A A' → A[a]? = none → A'[a]? = some (.lst xs) → P ⟨xs, [(a, .lst xs)], none⟩ A') : wR r (fun x A1 => wR (ofO (wkOf A1 x) A1) P) := by
  refine h.mono fun d A' ⟨a, e, k1, k2, k3⟩ => ?_
  subst e
  have : wkOf A' (.ref a) = some ⟨xs, [(a, .lst xs)], none⟩ := by simp [wkOf, k3]
  rw [this]
  exact k a A' k1 k2 k3
theorem FL.enum {A : AH} {r : Res D} {xs : List D} {P : Wk → AH → Prop} (h : FL A r xs) (k : ∀ a A', Kp A A' → A[a]? = none → A'[a]? = some (.lst xs) → P ⟨enumD 0 xs, [(a, .lst xs)], none⟩ A') : wR r (fun x A1 => wR (ofO (wkEnum A1 x) A1) P) := by
  refine h.mono fun d A' ⟨a, e, k1, k2, k3⟩ => ?_
  subst e
  have : wkEnum A' (.ref a) = some ⟨enumD 0 xs, [(a, .lst xs)], none⟩ := by simp [wkEnum, wkOf, k3]
  rw [this]
  exact k a A' k1 k2 k3
theorem gOk_one {A : AH} {a : Nat} {o : AO} (h : A[a]? = some o) : gOk A [(a, o)] = true := by simp [gOk, h]
theorem seqL_of {A : AH} {a : Nat} {xs : List D} (h : A[a]? = some (.lst xs)) : seqL A a = some xs := by simp [seqL, h]
theorem new_none {A : AH} : A[A.length]? = none := by simp
theorem new_at {A : AH} {o : AO} : (A ++ [o])[A.length]? = some o := by simp
theorem app_at {A J : AH} {a : Nat} {o : AO} (h : A[a]? = some o) : (A ++ J)[a]? = some o := by
  rw [List.getElem?_append_left (List.getElem?_eq_some_iff.mp h).1]; exact h
theorem set_at {A : AH} {a : Nat} {o p : AO} (h : A[a]? = some o) : (A.set a p)[a]? = some p := by
  rw [List.getElem?_set_self (List.getElem?_eq_some_iff.mp h).1]
theorem set_ne {A : AH} {a b : Nat} {o p : AO} (h : A[b]? = some o) (n : a ≠ b) : (A.set a p)[b]? = some o := by
  rw [List.getElem?_set_ne n]; exact h
theorem extend_eq {A : AH} {a b : Nat} {xs ys : List D} (h1 : A[a]? = some (.lst xs)) (h2 : A[b]? = some (.lst ys)) (hz : xs.length + ys.length ≤ PySem.sizeLine) : mtF A false "extend" (.ref a) [.ref b] = .ok .non (A.set a (.lst (xs ++ ys))) := by
  show mtExtend A a [.ref b] = _
  simp only [mtExtend, h1, h2, if_pos hz]
theorem append_eq {A : AH} {a : Nat} {xs : List D} {y : D} (h1 : A[a]? = some (.lst xs)) (hz : xs.length < PySem.sizeLine) : mtF A false "append" (.ref a) [y] = .ok .non (A.set a (.lst (xs ++ [y]))) := by
  show mtAppend A a [y] = _
  simp only [mtAppend, h1, if_pos hz]
theorem mkM_lst {A : AH} {a : Nat} {xs : List D} {m : String} (h : A[a]? = some (.lst xs)) (hm : (mtG false m).isSome = true) : mkM A m (.ref a) = some false := by
  have : mkD A (.ref a) = some false := by simp [mkD, h]
  simp only [mkM, this, if_pos hm]
theorem opI_lst {A : AH} {a : Nat} {xs : List D} {k : Int} (h : A[a]? = some (.lst xs)) : opI A (.ref a) (.int k) = L2.atI xs k := by
  simp [opI, dctL, seqL, h]
theorem atI_nat {xs : List D} {i : Nat} : L2.atI xs (i : Int) = xs[i]? := by
  unfold L2.atI L2.ixN
  by_cases h : i < xs.length
  · simp [h]
  · simp [h]
end Ev
namespace Ev
section
variable {cl : String → List D → AH → Res D} {F : Fr} {A : AH}
theorem wR_int {i : Int} {P : D → AH → Prop} : wR (ev cl (.int i) F A) P ↔ P (.int i) A := Iff.rfl
theorem wR_str {i : String} {P : D → AH → Prop} : wR (ev cl (.str i) F A) P ↔ P (.str i) A := Iff.rfl
theorem wR_lst {es : Ex} {P : D → AH → Prop} : wR (ev cl (.lst es) F A) P ↔ wR (evs cl es F A) (fun ds A1 => wR (if ds.length ≤ PySem.sizeLine then Res.ok (.ref A1.length) (A1 ++ [.lst ds]) else .no) P) := wR_bnd
theorem wR_tup {es : Ex} {P : D → AH → Prop} : wR (ev cl (.tup es) F A) P ↔ wR (evs cl es F A) (fun ds A1 => wR (if ds.length ≤ PySem.sizeLine then Res.ok (.tup ds) A1 else .no) P) := wR_bnd
end
theorem len_lst {A : AH} {a : Nat} {xs : List D} (h : A[a]? = some (.lst xs)) : biF A "len" [.ref a] = .ok (.int xs.length) A := by
  show biLen A [.ref a] = _
  simp [biLen, dctL, seqL, h]
theorem len_tup {A : AH} {xs : List D} : biF A "len" [.tup xs] = .ok (.int xs.length) A := rfl
theorem add_lst {A : AH} {a b : Nat} {xs ys : List D} (h1 : A[a]? = some (.lst xs)) (h2 : A[b]? = some (.lst ys)) (hz : xs.length + ys.length ≤ PySem.sizeLine) : opB A .add (.ref a) (.ref b) = .ok (.ref A.length) (A ++ [.lst (xs ++ ys)]) := by
  simp only [opB, h1, h2, if_pos hz]
theorem wkRng_nat {n : Nat} (h : n < 1000000000) : wkRng [.int (n : Int)] = some ⟨(List.range n).map fun (i : Nat) => D.int (i : Int), [], none⟩ := by
  have hs : small (n : Int) = true := by
    have h1 : (-4611686018427387904 : Int) ≤ (n : Int) := by omega
    have h2 : (n : Int) < 4611686018427387904 := by omega
    unfold small
    rw [decide_eq_true h1, decide_eq_true h2]
    rfl
  have hr : rngD 0 (n : Int) = (List.range n).map fun (i : Nat) => D.int (i : Int) := by
    unfold rngD
    simp
  unfold wkRng
  simp only [hs, if_true, hr]
end Ev
namespace Ev
section
variable {cl : String → List D → AH → Res D} {F : Fr} {A : AH}
theorem wR_tru {r : Res D} {P : Bool → AH → Prop} : wR (tru r) P ↔ wR r (fun d A => wR (ofO (truth A d) A) P) := wR_bnd
theorem wR_not {a : Ex} {P : D → AH → Prop} : wR (ev cl (.not a) F A) P ↔ wR (ev cl a F A) (fun x A1 => wR (ofO ((truth A1 x).map fun b => .bl (!b)) A1) P) := wR_bnd
theorem wR_chn {o p : COp} {a b c : Ex} {P : D → AH → Prop} : wR (ev cl (.chn o p a b c) F A) P ↔ wR (ev cl a F A) (fun x A1 => wR (ev cl b F A1) fun y A2 => wR (ofO (opC A2 o x y) A2) fun r A3 => if r = true then wR (ev cl c F A3) (fun z A4 => wR (ofO ((opC A4 p y z).map .bl) A4) P) else P (.bl false) A3) := by
  refine wR_bnd.trans ?_
  cases ev cl a F A with
  | ok x A1 =>
    refine wR_bnd.trans ?_
    show wR (ev cl b F A1) _ ↔ wR (ev cl b F A1) _
    cases ev cl b F A1 with
    | ok y A2 =>
      refine wR_bnd.trans ?_
      show wR (ofO (opC A2 o x y) A2) _ ↔ wR (ofO (opC A2 o x y) A2) _
      cases opC A2 o x y with
      | some r =>
        cases r with
        | true => exact wR_bnd
        | false => exact Iff.rfl
      | none => exact Iff.rfl
    | exc => rfl
    | no => rfl
  | exc => rfl
  | no => rfl
theorem wR_and {a b : Ex} {P : D → AH → Prop} : wR (ev cl (.and a b) F A) P ↔ wR (ev cl a F A) (fun x A1 => wR (ofO (truth A1 x) A1) fun r A2 => if r = true then wR (ev cl b F A2) P else P x A2) := by
  refine wR_bnd.trans ?_
  cases ev cl a F A with
  | ok x A1 =>
    refine wR_bnd.trans ?_
    show wR (ofO (truth A1 x) A1) _ ↔ wR (ofO (truth A1 x) A1) _
    cases truth A1 x with
    | some r => cases r <;> exact Iff.rfl
    | none => exact Iff.rfl
  | exc => rfl
  | no => rfl
theorem wR_or {a b : Ex} {P : D → AH → Prop} : wR (ev cl (.or a b) F A) P ↔ wR (ev cl a F A) (fun x A1 => wR (ofO (truth A1 x) A1) fun r A2 => if r = true then P x A2 else wR (ev cl b F A2) P) := by
  refine wR_bnd.trans ?_
  cases ev cl a F A with
  | ok x A1 =>
    refine wR_bnd.trans ?_
    show wR (ofO (truth A1 x) A1) _ ↔ wR (ofO (truth A1 x) A1) _
    cases truth A1 x with
    | some r => cases r <;> exact Iff.rfl
    | none => exact Iff.rfl
  | exc => rfl
  | no => rfl
theorem wR_ite {c a b : Ex} {P : D → AH → Prop} : wR (ev cl (.ite c a b) F A) P ↔ wR (ev cl c F A) (fun x A1 => wR (ofO (truth A1 x) A1) fun r A2 => if r = true then wR (ev cl a F A2) P else wR (ev cl b F A2) P) := by
  refine wR_bnd.trans ?_
  cases ev cl c F A with
  | ok x A1 =>
    refine wR_bnd.trans ?_
    show wR (ofO (truth A1 x) A1) _ ↔ wR (ofO (truth A1 x) A1) _
    cases truth A1 x with
    | some r => cases r <;> exact Iff.rfl
    | none => exact Iff.rfl
  | exc => rfl
  | no => rfl
theorem wR_sl {a lo hi : Ex} {P : D → AH → Prop} : wR (ev cl (.sl a lo hi) F A) P ↔ wR (ev cl a F A) (fun x A1 => wR (evo cl lo F A1) fun l A2 => wR (evo cl hi F A2) fun h A3 => wR (opS A3 x l h) P) := by
  refine wR_bnd.trans ?_
  cases ev cl a F A with
  | ok x A1 =>
    refine wR_bnd.trans ?_
    show wR (evo cl lo F A1) _ ↔ wR (evo cl lo F A1) _
    cases evo cl lo F A1 with
    | ok l A2 => exact wR_bnd
    | exc => rfl
    | no => rfl
  | exc => rfl
  | no => rfl
end
open PySem
theorem cut_1 {x : D} {xs : List D} : cutD (x :: xs) (some 1) none = xs := by
  simp [cutD, HT.sIx]
theorem toPds_ints (p : List Nat) : toPds (p.map fun (i : Nat) => D.int i) = some (p.map fun (i : Nat) => PyData.int i) := by
  induction p with
  | nil => rfl
  | cons i r ih => simp [toPds, toPd, ih]
theorem shaped_ints (p : List Nat) : SeqAt.shaped (.tuple (p.map fun (i : Nat) => PyData.int i)) = true := by
  have h1 : PyData.canLayAll0 (p.map fun (i : Nat) => PyData.int i) = true := by
    induction p with
    | nil => rfl
    | cons i r ih => simp [PyData.canLayAll0, PyData.canLay0, ih]
  have h2 : PyData.depthAll (p.map fun (i : Nat) => PyData.int i) = 0 := by
    induction p with
    | nil => rfl
    | cons i r ih => simp only [List.map_cons, PyData.canLayAll0, Bool.and_eq_true] at h1; simp [PyData.depthAll, PyData.depth, ih h1.2]
  simp [SeqAt.shaped, PyData.canLay0, PyData.depth, h1, h2]
theorem eq_nil_ints {A : AH} {p : List Nat} : opC A .eq (.tup (p.map fun (i : Nat) => D.int i)) (.tup []) = some p.isEmpty := by
  show eqD A _ _ = _
  have h1 : toP A (.tup (p.map fun (i : Nat) => D.int i)) = some (.tuple (p.map fun (i : Nat) => PyData.int i)) := by
    show (toPds _).map PyData.tuple = _
    rw [toPds_ints]; rfl
  have h2 : toP A (.tup []) = some (.tuple []) := rfl
  have h3 : SeqAt.shaped (.tuple []) = true := shaped_ints []
  simp only [eqD, h1, h2, shaped_ints, h3]
  cases p <;> rfl
theorem set_lst {A : AH} {a i : Nat} {xs : List D} {v : D} (h : A[a]? = some (.lst xs)) (hi : i < xs.length) : opSet A (.ref a) (.int (i : Nat)) v = some (A.set a (.lst (xs.set i v))) := by
  have : L2.ixN xs.length (i : Int) = some i := by
    unfold L2.ixN
    simp [hi]
  simp only [opSet, h, this, Option.map_some]
end Ev

/-! ## EvTape -/
/-! EvTape: what all laws share: the tape, comparing. -/
namespace Ev
open PySem
def fdTape : Fd := ⟨1, 4,
 (.seq (.set 1 (.lc (.nm 3) (.wk (.var 0)) .nil (.bi "abs" (.cons (.bi "int" (.cons (.var 3) .nil)) .nil)) [3]))
 (.seq (.set 2 (.int 7))
 (.seq (.for (.nm 3) (.wk (.var 1)) (.seq (.set 2 (.op .mod (.bi "int" (.cons (.op .add (.op .mul (.var 2) (.int 31)) (.var 3)) .nil)) (.int 2147483647)))
 .skip))
 (.seq (.ret (.dct (.cons (.str "cells") (.cons (.var 1) (.cons (.str "at") (.cons (.int 0) (.cons (.str "left") (.cons (.int 0) (.cons (.str "seed") (.cons (.var 2) (.cons (.str "salt") (.cons (.int 0) .nil))))))))))))
 .skip))))⟩
def fdTake : Fd := ⟨2, 4,
 (.seq (.ite (.and (.cmp .eq (.ix (.var 0) (.str "left")) (.int 0)) (.cmp .lt (.ix (.var 0) (.str "at")) (.bi "len" (.cons (.ix (.var 0) (.str "cells")) .nil)))) (.seq (.sub (.var 0) (.str "left") (.ix (.ix (.var 0) (.str "cells")) (.ix (.var 0) (.str "at"))))
 (.seq (.sub (.var 0) (.str "at") (.op .add (.ix (.var 0) (.str "at")) (.int 1)))
 .skip)) .skip)
 (.seq (.ite (.cmp .gt (.ix (.var 0) (.str "left")) (.int 0)) (.seq (.set 2 (.op .mod (.bi "int" (.cons (.ix (.var 0) (.str "left")) .nil)) (.var 1)))
 (.seq (.sub (.var 0) (.str "left") (.op .fdiv (.ix (.var 0) (.str "left")) (.var 1)))
 (.seq (.ret (.var 2))
 .skip))) .skip)
 (.seq (.sub (.var 0) (.str "salt") (.op .add (.ix (.var 0) (.str "salt")) (.int 1)))
 (.seq (.set 3 (.op .mod (.bi "int" (.cons (.op .add (.op .mul (.ix (.var 0) (.str "seed")) (.int 48271)) (.op .mul (.ix (.var 0) (.str "salt")) (.int 69621))) .nil)) (.int 2147483647)))
 (.seq (.set 3 (.op .mod (.bi "int" (.cons (.op .add (.op .add (.op .mul (.var 3) (.var 3)) (.op .mul (.ix (.var 0) (.str "salt")) (.int 40692))) (.int 12345)) .nil)) (.int 2147483399)))
 (.seq (.ret (.op .mod (.bi "int" (.cons (.var 3) .nil)) (.var 1)))
 .skip))))))⟩
def fdIsInt : Fd := ⟨1, 1,
 (.seq (.ret (.and (.bi "isinstance" (.cons (.var 0) (.cons (.gl "int") .nil))) (.not (.bi "isinstance" (.cons (.var 0) (.cons (.gl "bool") .nil))))))
 .skip)⟩
def fdItems : Fd := ⟨2, 3,
 (.seq (.ite (.cmp .ne (.bi "len" (.cons (.var 0) .nil)) (.bi "len" (.cons (.var 1) .nil))) (.seq (.ret (.bl false))
 .skip) .skip)
 (.seq (.for (.nm 2) (.rng (.cons (.bi "len" (.cons (.var 1) .nil)) .nil)) (.seq (.ite (.not (.call "_law_same" (.cons (.ix (.var 0) (.var 2)) (.cons (.ix (.var 1) (.var 2)) .nil)))) (.seq (.ret (.bl false))
 .skip) .skip)
 .skip))
 (.seq (.ret (.bl true))
 .skip)))⟩
def fdSame : Fd := ⟨2, 3,
 (.seq (.ite (.cmp .is (.var 1) .non) (.seq (.ret (.cmp .is (.var 0) .non))
 .skip) .skip)
 (.seq (.ite (.bi "isinstance" (.cons (.var 1) (.cons (.gl "bool") .nil))) (.seq (.ret (.and (.bi "isinstance" (.cons (.var 0) (.cons (.gl "bool") .nil))) (.cmp .eq (.var 0) (.var 1))))
 .skip) .skip)
 (.seq (.ite (.bi "isinstance" (.cons (.var 1) (.cons (.gl "int") .nil))) (.seq (.ret (.and (.call "_law_is_integer" (.cons (.var 0) .nil)) (.cmp .eq (.var 0) (.var 1))))
 .skip) .skip)
 (.seq (.ite (.bi "isinstance" (.cons (.var 1) (.cons (.gl "str") .nil))) (.seq (.ret (.and (.bi "isinstance" (.cons (.var 0) (.cons (.gl "str") .nil))) (.cmp .eq (.var 0) (.var 1))))
 .skip) .skip)
 (.seq (.ite (.bi "isinstance" (.cons (.var 1) (.cons (.gl "tuple") .nil))) (.seq (.ret (.and (.bi "isinstance" (.cons (.var 0) (.cons (.gl "tuple") .nil))) (.call "_law_same_items" (.cons (.var 0) (.cons (.var 1) .nil)))))
 .skip) .skip)
 (.seq (.ite (.bi "isinstance" (.cons (.var 1) (.cons (.gl "list") .nil))) (.seq (.ret (.and (.bi "isinstance" (.cons (.var 0) (.cons (.gl "list") .nil))) (.call "_law_same_items" (.cons (.var 0) (.cons (.var 1) .nil)))))
 .skip) .skip)
 (.seq (.ite (.or (.not (.bi "isinstance" (.cons (.var 0) (.cons (.gl "dict") .nil)))) (.cmp .ne (.bi "len" (.cons (.var 0) .nil)) (.bi "len" (.cons (.var 1) .nil)))) (.seq (.ret (.bl false))
 .skip) .skip)
 (.seq (.for (.nm 2) (.wk (.var 1)) (.seq (.ite (.or (.cmp .nmem (.var 2) (.var 0)) (.not (.call "_law_same" (.cons (.ix (.var 0) (.var 2)) (.cons (.ix (.var 1) (.var 2)) .nil))))) (.seq (.ret (.bl false))
 .skip) .skip)
 .skip))
 (.seq (.for (.nm 2) (.wk (.var 0)) (.seq (.ite (.bi "isinstance" (.cons (.var 2) (.cons (.gl "bool") .nil))) (.seq (.ret (.bl false))
 .skip) .skip)
 .skip))
 (.seq (.ret (.bl true))
 .skip))))))))))⟩
theorem ev_sz : PySem.sizeLine = 16777216 := PySem.sizeLine_eq
/-! ### == of simple things -/
theorem strOk_of (s : String) : PyData.strOk (Str.ofString s) = true := by
  unfold PyData.strOk
  have : ∀ x ∈ (Str.ofString s).cps.toList, x < 0x110000 := fun x hx => by
    rw [ofString_cps] at hx
    obtain ⟨c, _, rfl⟩ := List.mem_map.mp hx
    have := c.valid
    rcases this with h | ⟨_, h⟩
    · exact Nat.lt_trans h (by decide)
    · exact h
  rw [Array.all_eq_true]
  intro i hi
  exact decide_eq_true (this _ (by simp))
theorem eq_str {A : AH} {x y : String} : opC A .eq (.str x) (.str y) = some (decide (x = y)) := by
  rw [show opC A .eq (.str x) (.str y) = Ev.eqD A (.str x) (.str y) from rfl]
  have h : ∀ z : String, SeqAt.shaped (.str (Str.ofString z)) = true := fun z => by
    simp [SeqAt.shaped, PyData.canLay0, PyData.depth, strOk_of]
  have h1 : ∀ z : String, toP A (.str z) = some (.str (Str.ofString z)) := fun z => rfl
  simp only [Ev.eqD, h1, h, Bool.and_self, if_true]
  congr 1
  show (Str.ofString x == Str.ofString y) = _
  by_cases e : x = y
  · subst e; simp
  · have : Str.ofString x ≠ Str.ofString y := fun z => e (ofString_inj z)
    simp [e, this]
theorem eq_int {A : AH} {i j : Int} : opC A .eq (.int i) (.int j) = some (decide (i = j)) := by
  rw [show opC A .eq (.int i) (.int j) = Ev.eqD A (.int i) (.int j) from rfl]
  have h : ∀ z : Int, SeqAt.shaped (.int z) = true := fun z => by simp [SeqAt.shaped, PyData.canLay0, PyData.depth]
  have h1 : ∀ z : Int, toP A (.int z) = some (.int z) := fun z => rfl
  simp only [Ev.eqD, h1, h, Bool.and_self, if_true]
  congr 1
theorem eq_bl {A : AH} {i j : Bool} : opC A .eq (.bl i) (.bl j) = some (i == j) := by
  rw [show opC A .eq (.bl i) (.bl j) = Ev.eqD A (.bl i) (.bl j) from rfl]
  have h : ∀ z : Bool, SeqAt.shaped (.bool z) = true := fun z => by simp [SeqAt.shaped, PyData.canLay0, PyData.depth]
  have h1 : ∀ z : Bool, toP A (.bl z) = some (.bool z) := fun z => rfl
  simp only [Ev.eqD, h1, h, Bool.and_self, if_true]
  rfl

/-! ### plain data -/
mutual
def pl : D → Bool
  | .non | .bl _ | .int _ | .str _ => true
  | .tup xs => pls xs && decide (xs.length ≤ 1000)
  | _ => false
def pls : List D → Bool
  | [] => true
  | d :: r => pl d && pls r
end
mutual
/-- how deep the tuples lie -/
def dp : D → Nat
  | .tup xs => dps xs + 1
  | _ => 0
def dps : List D → Nat
  | [] => 0
  | d :: r => max (dp d) (dps r)
end
theorem pls_mem : ∀ {xs : List D}, pls xs = true → ∀ d ∈ xs, pl d = true
  | [], _, d, h => by cases h
  | x :: r, h, d, hd => by
    rw [pls, Bool.and_eq_true] at h
    rcases List.mem_cons.mp hd with rfl | hd
    · exact h.1
    · exact pls_mem h.2 d hd
theorem dps_mem : ∀ {xs : List D} {d : D}, d ∈ xs → dp d ≤ dps xs
  | x :: r, d, hd => by
    rw [dps]
    rcases List.mem_cons.mp hd with rfl | hd
    · omega
    · have := dps_mem hd; omega
theorem pls_app {xs ys : List D} : pls (xs ++ ys) = (pls xs && pls ys) := by
  induction xs with
  | nil => simp [pls]
  | cons x r ih => simp [pls, ih, Bool.and_assoc]
section
variable {P : Pg} {N n : Nat} {A : AH}
theorem isint_int (hI : P "_law_is_integer" = some fdIsInt) {i : Int} : callF P N (n + 1) "_law_is_integer" [.int i] A = .ok (.bl true) A := by
  obtain ⟨a, A', e, h⟩ := eq_of_wR (P := fun r A' => r = .bl true ∧ A' = A) ((wR_call (n := n) (N := N) (A := A) (ds := [.int i]) hI rfl).mpr (show wS (sx (callF P N n) N fdIsInt.body [some (.int i)] A) _ _ _ _ from by
    refine ret_end 0 (F' := [some (.int i)]) rfl rfl ?_
    exact wR_eq (a := .bl true) (A := A) (by kernel_rfl) ⟨rfl, rfl⟩))
  rw [e, h.1, h.2]
theorem same_items_of (hS : P "_law_same_items" = some fdItems) {x y : D} {xs : List D} (h1 : (∃ a, x = .ref a ∧ A[a]? = some (.lst xs)) ∨ x = .tup xs) (h2 : (∃ a, y = .ref a ∧ A[a]? = some (.lst xs)) ∨ y = .tup xs) (hz : xs.length ≤ PySem.sizeLine)
    (h : ∀ d ∈ xs, ∀ A', Kp A A' → wR (callF P N n "_law_same" [d, d] A') (fun r A2 => r = .bl true ∧ Kp A' A2)) : wR (callF P N (n + 1) "_law_same_items" [x, y] A) (fun r A' => r = .bl true ∧ Kp A A') := by
  have ln : ∀ {z : D}, ((∃ a, z = .ref a ∧ A[a]? = some (.lst xs)) ∨ z = .tup xs) → ∀ A', Kp A A' → biF A' "len" [z] = .ok (.int xs.length) A' := fun hz A' k => by
    rcases hz with ⟨a, rfl, ha⟩ | rfl
    · exact len_lst (k _ _ ha)
    · exact len_tup
  have ix : ∀ {z : D}, ((∃ a, z = .ref a ∧ A[a]? = some (.lst xs)) ∨ z = .tup xs) → ∀ A' (i : Nat), Kp A A' → opI A' z (.int i) = xs[i]? := fun hz A' i k => by
    rcases hz with ⟨a, rfl, ha⟩ | rfl
    · rw [opI_lst (k _ _ ha), atI_nat]
    · exact atI_nat
  rw [wR_call hS rfl]
  show wS (sx _ N fdItems.body [some x, some y, none] A) _ _ _ _
  have hne : ∀ i : Int, opC A .ne (.int i) (.int i) = some false := fun i => by
    show (Ev.eqD A (.int i) (.int i)).map (!·) = _
    have : Ev.eqD A (.int i) (.int i) = some (decide (i = i)) := eq_int (A := A)
    rw [this]; simp
  rw [fdItems, wS_seq, wS_ite, wR_tru, wR_cmp, wR_bi, wR_cons, wR_var (d := x) rfl, wR_nil, ln h1 A .refl, wR_ok, wR_bi, wR_cons, wR_var (d := y) rfl, wR_nil, ln h2 A .refl, wR_ok, hne]
  show wR (ofO (some (D.bl false)) A) _
  rw [wR_some]
  show wR (ofO (some false) A) _
  rw [wR_some, if_neg (by decide), wS_skip, wS_seq, wS_for, wR_rng, wR_cons, wR_bi, wR_cons, wR_var (d := y) rfl, wR_nil, ln h2 A .refl, wR_ok, wR_nil, wkRng_nat (by rw [ev_sz] at hz; omega), wR_some]
  refine forL_ind (fun i F A' => ∃ z, F = [some x, some y, z] ∧ Kp A A') _ 0 _ A ⟨none, rfl, .refl⟩ (fun j d F A' e ⟨z, eF, k⟩ => ?_) fun F A' ⟨z, eF, k⟩ => ?_
  · subst eF
    refine ⟨rfl, ?_⟩
    have e : ((List.range xs.length).map fun (i : Nat) => D.int (i : Int))[j]? = some d := e
    rw [List.getElem?_map] at e
    obtain ⟨j', e1, rfl⟩ := Option.map_eq_some_iff.mp e
    obtain ⟨hj, e2⟩ := List.getElem?_eq_some_iff.mp e1
    have hj' : j < xs.length := by simpa using hj
    have : j' = j := by rw [← e2]; simp
    subst this
    have hp : xs[j']? = some xs[j'] := List.getElem?_eq_getElem hj'
    generalize xs[j'] = d at hp
    refine ⟨[some x, some y, some (.int (j' : Nat))], rfl, ?_⟩
    rw [wS_seq, wS_ite, wR_tru, wR_not, wR_cl, wR_cons, wR_ix, wR_var (d := x) rfl, wR_var (d := .int (j' : Nat)) rfl, ix h1 A' j' k, hp, wR_some, wR_cons, wR_ix, wR_var (d := y) rfl, wR_var (d := .int (j' : Nat)) rfl, ix h2 A' j' k, hp, wR_some, wR_nil]
    refine (h d (List.mem_of_getElem? hp) A' k).mono fun r A2 ⟨er, k2⟩ => ?_
    subst er
    show wR (ofO (some (D.bl false)) A2) _
    rw [wR_some]
    show wR (ofO (some false) A2) _
    rw [wR_some, if_neg (by decide), wS_skip, wS_skip]
    exact ⟨_, rfl, k.trans k2⟩
  · subst eF
    refine ⟨rfl, ?_⟩
    rw [wS_seq, wS_ret]
    exact ⟨rfl, k⟩
/-- plain data is the same as itself -/
theorem same_pl (hI : P "_law_is_integer" = some fdIsInt) (hS : P "_law_same_items" = some fdItems) (hL : P "_law_same" = some fdSame) : ∀ (n : Nat) (d : D) (A : AH), pl d = true → 2 * dp d + 1 < n → wR (callF P N n "_law_same" [d, d] A) (fun r A' => r = .bl true ∧ Kp A A')
  | 0, d, A, hp, hn => by omega
  | 1, d, A, hp, hn => by omega
  | n + 2, .non, A, hp, hn => by
    rw [wR_call hL rfl]
    exact ret_at 0 (F' := [some .non, some .non, none]) (by kernel_rfl) (by kernel_rfl) (by kernel_rfl) (wR_eq (a := .bl true) (A := A) (by kernel_rfl) ⟨rfl, .refl⟩)
  | n + 2, .bl b, A, hp, hn => by
    rw [wR_call hL rfl]
    refine ret_at 1 (F' := [some (.bl b), some (.bl b), none]) (by kernel_rfl) (by kernel_rfl) (by kernel_rfl) ?_
    show wR (ev _ (.and (.bi "isinstance" (.cons (.var 0) (.cons (.gl "bool") .nil))) (.cmp .eq (.var 0) (.var 1))) [some (.bl b), some (.bl b), none] A) _
    rw [wR_and]
    refine wR_eq (a := .bl true) (A := A) (by kernel_rfl) ?_
    show wR (ofO (some true) A) _
    rw [wR_some, if_pos rfl, wR_cmp, wR_var (d := .bl b) rfl, wR_var (d := .bl b) rfl, eq_bl]
    simp [wR_some]
    exact Kp.refl
  | n + 2, .int i, A, hp, hn => by
    rw [wR_call hL rfl]
    refine ret_at 2 (F' := [some (.int i), some (.int i), none]) (by kernel_rfl) (by kernel_rfl) (by kernel_rfl) ?_
    show wR (ev _ (.and (.call "_law_is_integer" (.cons (.var 0) .nil)) (.cmp .eq (.var 0) (.var 1))) [some (.int i), some (.int i), none] A) _
    rw [wR_and, wR_cl, wR_cons, wR_var (d := .int i) rfl, wR_nil, isint_int hI, wR_ok]
    show wR (ofO (some true) A) _
    rw [wR_some, if_pos rfl, wR_cmp, wR_var (d := .int i) rfl, wR_var (d := .int i) rfl, eq_int]
    simp [wR_some]
    exact Kp.refl
  | n + 2, .str s, A, hp, hn => by
    rw [wR_call hL rfl]
    refine ret_at 3 (F' := [some (.str s), some (.str s), none]) (by kernel_rfl) (by kernel_rfl) (by kernel_rfl) ?_
    show wR (ev _ (.and (.bi "isinstance" (.cons (.var 0) (.cons (.gl "str") .nil))) (.cmp .eq (.var 0) (.var 1))) [some (.str s), some (.str s), none] A) _
    rw [wR_and]
    refine wR_eq (a := .bl true) (A := A) (by kernel_rfl) ?_
    show wR (ofO (some true) A) _
    rw [wR_some, if_pos rfl, wR_cmp, wR_var (d := .str s) rfl, wR_var (d := .str s) rfl, eq_str]
    simp [wR_some]
    exact Kp.refl
  | n + 2, .tup xs, A, hp, hn => by
    rw [dp] at hn
    rw [wR_call hL rfl]
    refine ret_at 4 (F' := [some (.tup xs), some (.tup xs), none]) (by kernel_rfl) (by kernel_rfl) (by kernel_rfl) ?_
    show wR (ev _ (.and (.bi "isinstance" (.cons (.var 0) (.cons (.gl "tuple") .nil))) (.call "_law_same_items" (.cons (.var 0) (.cons (.var 1) .nil)))) [some (.tup xs), some (.tup xs), none] A) _
    rw [wR_and]
    refine wR_eq (a := .bl true) (A := A) (by kernel_rfl) ?_
    show wR (ofO (some true) A) _
    rw [wR_some, if_pos rfl, wR_cl, wR_cons, wR_var (d := .tup xs) rfl, wR_cons, wR_var (d := .tup xs) rfl, wR_nil]
    rw [pl, Bool.and_eq_true, decide_eq_true_eq] at hp
    exact same_items_of hS (.inr rfl) (.inr rfl) (by rw [ev_sz]; omega) fun d hd A' k => same_pl hI hS hL n d A' (pls_mem hp.1 d hd) (by have := dps_mem hd; omega)
  | n + 2, .frl _, A, hp, hn => by cases hp
  | n + 2, .ref _, A, hp, hn => by cases hp
  | n + 2, .gl _, A, hp, hn => by cases hp
/-- two lists of the same plain data -/
theorem same_lst (hI : P "_law_is_integer" = some fdIsInt) (hS : P "_law_same_items" = some fdItems) (hL : P "_law_same" = some fdSame) {a b : Nat} {xs : List D} (ha : A[a]? = some (.lst xs)) (hb : A[b]? = some (.lst xs)) (hz : xs.length ≤ PySem.sizeLine) (hp : pls xs = true) (hn : 2 * dps xs + 1 < n) :
    wR (callF P N (n + 2) "_law_same" [.ref a, .ref b] A) (fun r A' => r = .bl true ∧ Kp A A') := by
  have isa : ∀ {c : Nat} (t : String) (r : Bool), A[c]? = some (.lst xs) → tyNames.contains t = true → ("list" == t) = r → biF A "isinstance" [.ref c, .gl t] = .ok (.bl (r || ("list" == "bool" && t == "int"))) A := fun {c} t r h h1 h2 => by
    show biIsi A [.ref c, .gl t] = _
    have : tyName A (.ref c) = some "list" := by simp [tyName, h]
    simp only [biIsi, isA, this, h1, if_true, h2, Option.map_some]
    rfl
  rw [wR_call hL rfl]
  have tst : ∀ {Q : Bool → AH → Prop} (t : String) (F : Fr), F[1]? = some (some (.ref b)) → tyNames.contains t = true → ("list" == t) = false → Q false A → wR (tru (ev (callF P N (n + 1)) (.bi "isinstance" (.cons (.var 1) (.cons (.gl t) .nil))) F A)) Q := fun {Q} t F hF h1 h2 h3 => by
    rw [wR_tru, wR_bi, wR_cons, wR_var hF, wR_cons]
    show wR (biF A "isinstance" [.ref b, .gl t]) _
    rw [isa t false hb h1 h2, wR_ok]
    have : (false || ("list" == "bool" && t == "int")) = false := rfl
    rw [this]
    exact h3
  show wS (sx _ N fdSame.body [some (.ref a), some (.ref b), none] A) _ _ _ _
  rw [fdSame, wS_seq, wS_ite, wR_tru]
  refine wR_eq (a := .bl false) (A := A) (by kernel_rfl) ?_
  show wR (ofO (some false) A) _
  rw [wR_some, if_neg (by decide), wS_skip, wS_seq, wS_ite]
  refine tst "bool" _ rfl (by decide) (by decide) ?_
  rw [if_neg (by decide), wS_skip, wS_seq, wS_ite]
  refine tst "int" _ rfl (by decide) (by decide) ?_
  rw [if_neg (by decide), wS_skip, wS_seq, wS_ite]
  refine tst "str" _ rfl (by decide) (by decide) ?_
  rw [if_neg (by decide), wS_skip, wS_seq, wS_ite]
  refine tst "tuple" _ rfl (by decide) (by decide) ?_
  rw [if_neg (by decide), wS_skip, wS_seq, wS_ite, wR_tru, wR_bi, wR_cons, wR_var (d := .ref b) rfl, wR_cons]
  show wR (biF A "isinstance" [.ref b, .gl "list"]) _
  rw [isa "list" true hb (by decide) (by decide), wR_ok]
  show wR (ofO (some true) A) _
  rw [wR_some, if_pos rfl, wS_seq, wS_ret, wR_and, wR_bi, wR_cons, wR_var (d := .ref a) rfl, wR_cons]
  show wR (biF A "isinstance" [.ref a, .gl "list"]) _
  rw [isa "list" true ha (by decide) (by decide), wR_ok]
  show wR (ofO (some true) A) _
  rw [wR_some, if_pos rfl, wR_cl, wR_cons, wR_var (d := .ref a) rfl, wR_cons, wR_var (d := .ref b) rfl, wR_nil]
  exact same_items_of hS (.inl ⟨a, rfl, ha⟩) (.inl ⟨b, rfl, hb⟩) hz fun d hd A' k => same_pl hI hS hL n d A' (pls_mem hp d hd) (by have := dps_mem hd; omega)
end
end Ev

/-! ## EvTape2 -/
/-! EvTape2: the tape. -/
namespace Ev
open PySem
def tpD (c : Nat) (i l s z : Int) : List (D × D) := [(.str "cells", .ref c), (.str "at", .int i), (.str "left", .int l), (.str "seed", .int s), (.str "salt", .int z)]
theorem tpD_len {c : Nat} {i l s z : Int} : (tpD c i l s z).length < PySem.sizeLine := by
  rw [ev_sz]
  show 5 < 16777216
  omega
/-- the tape stands -/
def TapeOk (A : AH) (tp : Nat) : Prop := ∃ (c : Nat) (i l s z : Int) (cells : List Int), A[tp]? = some (.dct (tpD c i l s z)) ∧ A[c]? = some (.lst (cells.map .int)) ∧ 0 ≤ i ∧ 0 ≤ l ∧ (∀ x ∈ cells, 0 ≤ x) ∧ c = tp - 1
/-- all but the tape stands -/
structure Dr (tp : Nat) (A B : AH) : Prop where
  kp : ∀ (i : Nat) (o : AO), i ≠ tp → A[i]? = some o → B[i]? = some o
  tape : TapeOk B tp
theorem Dr.trans {tp : Nat} {A B C : AH} (a : Dr tp A B) (b : Dr tp B C) : Dr tp A C := ⟨fun i o n h => b.kp i o n (a.kp i o n h), b.tape⟩
theorem TapeOk.kp {tp : Nat} {A B : AH} (t : TapeOk A tp) (k : Kp A B) : TapeOk B tp := by
  obtain ⟨c, i, l, s, z, cells, h1, h2, h3⟩ := t
  exact ⟨c, i, l, s, z, cells, k _ _ h1, k _ _ h2, h3⟩
theorem Dr.of {tp : Nat} {A B : AH} (t : TapeOk A tp) (k : Kp A B) : Dr tp A B := ⟨fun i o _ h => k i o h, t.kp k⟩
theorem Dr.refl {tp : Nat} {A : AH} (t : TapeOk A tp) : Dr tp A A := .of t .refl
theorem Dr.app {tp : Nat} {A B J : AH} (d : Dr tp A B) : Dr tp A (B ++ J) := d.trans (.of d.tape Kp.refl.app)
theorem dct_get {A : AH} {a : Nat} {kvs : List (D × D)} {k : D} (h : A[a]? = some (.dct kvs)) (hk : keyOk k = true) : opI A (.ref a) k = dget kvs k := by
  have : dctL A a = some kvs := by simp [dctL, h]
  simp [opI, this, hk]
theorem dct_set {A : AH} {a : Nat} {kvs : List (D × D)} {k v : D} (h : A[a]? = some (.dct kvs)) (hk : keyOk k = true) (hz : kvs.length < PySem.sizeLine) : opSet A (.ref a) k v = some (A.set a (.dct (dput kvs k v))) := by
  simp [opSet, h, hk, hz]
theorem tape_set {A : AH} {tp c : Nat} {i l s z i' l' s' z' : Int} {cells : List Int} (h1 : A[tp]? = some (.dct (tpD c i l s z))) (h2 : A[c]? = some (.lst (cells.map .int))) (hi : 0 ≤ i') (hl : 0 ≤ l') (hc : ∀ x ∈ cells, 0 ≤ x) (hce : c = tp - 1) : Dr tp A (A.set tp (.dct (tpD c i' l' s' z'))) ∧ (A.set tp (.dct (tpD c i' l' s' z')))[c]? = some (.lst (cells.map .int)) := by
  have hne : tp ≠ c := fun e => by rw [e, h2] at h1; cases h1
  have h3 := set_ne (p := .dct (tpD c i' l' s' z')) h2 hne
  exact ⟨⟨fun j o n h => set_ne h (Ne.symm n), c, i', l', s', z', cells, set_at h1, h3, hi, hl, hc, hce⟩, h3⟩
section
variable {cl : String → List D → AH → Res D} {F : Fr} {A : AH} {tp c : Nat} {i l s z : Int}
theorem rd_key {key : String} {v : D} {P : D → AH → Prop} (hF : F[0]? = some (some (.ref tp))) (h : A[tp]? = some (.dct (tpD c i l s z))) (hk : dget (tpD c i l s z) (.str key) = some v) (p : P v A) : wR (ev cl (.ix (.var 0) (.str key)) F A) P := by
  rw [wR_ix, wR_var hF, wR_str, dct_get h rfl, hk]
  exact p
end
theorem int_id {A : AH} {i : Int} : biF A "int" [.int i] = .ok (.int i) A := rfl
theorem opB_mul {A : AH} {i j : Int} (h : j.natAbs < 18446744073709551616) : opB A .mul (.int i) (.int j) = .ok (.int (i * j)) A := by
  have : (decide (i.natAbs < 18446744073709551616) || decide (j.natAbs < 18446744073709551616)) = true := by rw [decide_eq_true h, Bool.or_true]
  show (if (decide (i.natAbs < 18446744073709551616) || decide (j.natAbs < 18446744073709551616)) = true then Res.ok (D.int (i * j)) A else .no) = _
  rw [if_pos this]
theorem opB_mod {A : AH} {i j : Int} (h : 0 < j) : opB A .mod (.int i) (.int j) = .ok (.int (i % j)) A := by
  show (if 0 < j then Res.ok (D.int (i % j)) A else .no) = _
  rw [if_pos h]
theorem opB_fdiv {A : AH} {i j : Int} (h : 0 < j) (h2 : j < 1073741824) : opB A .fdiv (.int i) (.int j) = .ok (.int (i / j)) A := by
  have : (decide (0 < j) && decide (j < 1073741824)) = true := by rw [decide_eq_true h, decide_eq_true h2]; rfl
  show (if (decide (0 < j) && decide (j < 1073741824)) = true then Res.ok (D.int (i / j)) A else .no) = _
  rw [if_pos this]
theorem opB_add {A : AH} {i j : Int} : opB A .add (.int i) (.int j) = .ok (.int (i + j)) A := rfl
theorem lt_int {A : AH} {i j : Int} : opC A .lt (.int i) (.int j) = some (decide (i < j)) := rfl
theorem gt_int {A : AH} {i j : Int} : opC A .gt (.int i) (.int j) = some (decide (j < i)) := rfl
theorem truth_bl {A : AH} {b : Bool} : truth A (.bl b) = some b := rfl
section
variable {P : Pg} {N n : Nat} {A : AH}
theorem take_spec (hT : P "_law_take" = some fdTake) {tp : Nat} {many : Int} (t : TapeOk A tp) (h0 : 0 < many) (h1 : many < 1073741824) :
    wR (callF P N (n + 1) "_law_take" [.ref tp, .int many] A) (fun r A' => ∃ m : Int, r = .int m ∧ 0 ≤ m ∧ m < many ∧ Dr tp A A') := by
  obtain ⟨c, i, l, s, z, cells, ht, hc, hi, hl, hcs, hce⟩ := t
  rw [wR_call hT rfl]
  show wS (sx _ N fdTake.body [some (.ref tp), some (.int many), none, none] A) _ _ _ _
  -- the second part, from a tape
  have part2 : ∀ (A2 : AH) (i l : Int), Dr tp A A2 → A2[tp]? = some (.dct (tpD c i l s z)) → A2[c]? = some (.lst (cells.map .int)) → 0 ≤ i → 0 ≤ l →
      wS (sx (callF P N n) N (drp 1 fdTake.body) [some (.ref tp), some (.int many), none, none] A2) (fun _ A' => ∃ m : Int, D.non = .int m ∧ 0 ≤ m ∧ m < many ∧ Dr tp A A') (fun _ _ => False) (fun _ _ => False) (fun r A' => ∃ m : Int, r = .int m ∧ 0 ≤ m ∧ m < many ∧ Dr tp A A') := by
    intro A2 i l d2 ht hc hi hl
    show wS (sx (callF P N n) N (.seq (.ite (.cmp .gt (.ix (.var 0) (.str "left")) (.int 0)) _ .skip) _) _ A2) _ _ _ _
    rw [wS_seq, wS_ite, wR_tru, wR_cmp]
    refine rd_key rfl ht rfl ?_
    rw [wR_int, gt_int]
    show wR (ofO (some (D.bl (decide (0 < l)))) A2) _
    rw [wR_some, truth_bl, wR_some]
    by_cases hl0 : 0 < l
    · rw [if_pos (decide_eq_true hl0), wS_seq, wS_set, wR_op, wR_bi, wR_cons]
      refine rd_key rfl ht rfl ?_
      rw [wR_nil, int_id, wR_ok, wR_var (d := .int many) rfl, opB_mod h0, wR_ok]
      show wS (sx _ N _ [some (.ref tp), some (.int many), some (.int (l % many)), none] A2) _ _ _ _
      rw [wS_seq, wS_sub, wR_op]
      refine rd_key rfl ht rfl ?_
      rw [wR_var (d := .int many) rfl, opB_fdiv h0 h1, wR_ok, wR_var (d := .ref tp) rfl, wR_str]
      refine ⟨_, dct_set ht rfl tpD_len, ?_⟩
      rw [wS_seq, wS_ret, wR_var (d := .int (l % many)) rfl]
      exact ⟨l % many, rfl, Int.emod_nonneg _ (by omega), Int.emod_lt_of_pos _ h0, d2.trans (tape_set (l' := l / many) ht hc hi (Int.ediv_nonneg hl (by omega)) hcs hce).1⟩
    · rw [if_neg (by simp [hl0]), wS_skip]
      rw [wS_seq, wS_sub, wR_op]
      refine rd_key rfl ht rfl ?_
      rw [wR_int, opB_add, wR_ok, wR_var (d := .ref tp) rfl, wR_str]
      refine ⟨_, dct_set ht rfl tpD_len, ?_⟩
      obtain ⟨d3, hc3⟩ := tape_set (z' := z + 1) (s' := s) (l' := l) (i' := i) ht hc hi hl hcs hce
      have ht3 : (A2.set tp (.dct (dput (tpD c i l s z) (.str "salt") (.int (z + 1)))))[tp]? = some (.dct (tpD c i l s (z + 1))) := set_at ht
      have d3 : Dr tp A2 (A2.set tp (.dct (dput (tpD c i l s z) (.str "salt") (.int (z + 1))))) := d3
      generalize A2.set tp (.dct (dput (tpD c i l s z) (.str "salt") (.int (z + 1)))) = A3 at ht3 d3
      rw [wS_seq, wS_set, wR_op, wR_bi, wR_cons, wR_op, wR_op]
      refine rd_key rfl ht3 rfl ?_
      rw [wR_int, opB_mul (by decide), wR_ok, wR_op]
      refine rd_key rfl ht3 rfl ?_
      rw [wR_int, opB_mul (by decide), wR_ok, opB_add, wR_ok, wR_nil, int_id, wR_ok, wR_int, opB_mod (by decide), wR_ok]
      generalize hm : (s * 48271 + (z + 1) * 69621) % 2147483647 = m1
      have hm1 : 0 ≤ m1 := by rw [← hm]; exact Int.emod_nonneg _ (by decide)
      have hm2 : m1 < 2147483647 := by rw [← hm]; exact Int.emod_lt_of_pos _ (by decide)
      show wS (sx _ N _ [some (.ref tp), some (.int many), none, some (.int m1)] A3) _ _ _ _
      rw [wS_seq, wS_set, wR_op, wR_bi, wR_cons, wR_op, wR_op, wR_op, wR_var (d := .int m1) rfl, wR_var (d := .int m1) rfl, opB_mul (by omega), wR_ok, wR_op]
      refine rd_key rfl ht3 rfl ?_
      rw [wR_int, opB_mul (by decide), wR_ok, opB_add, wR_ok, wR_int, opB_add, wR_ok, wR_nil, int_id, wR_ok, wR_int, opB_mod (by decide), wR_ok]
      generalize (m1 * m1 + (z + 1) * 40692 + 12345) % 2147483399 = m2
      show wS (sx _ N _ [some (.ref tp), some (.int many), none, some (.int m2)] A3) _ _ _ _
      rw [wS_seq, wS_ret, wR_op, wR_bi, wR_cons, wR_var (d := .int m2) rfl, wR_nil, int_id, wR_ok, wR_var (d := .int many) rfl, opB_mod h0]
      exact ⟨m2 % many, rfl, Int.emod_nonneg _ (by omega), Int.emod_lt_of_pos _ h0, d2.trans d3⟩
  show wS (sx (callF P N n) N (.seq (.ite (.and (.cmp .eq (.ix (.var 0) (.str "left")) (.int 0)) (.cmp .lt (.ix (.var 0) (.str "at")) (.bi "len" (.cons (.ix (.var 0) (.str "cells")) .nil)))) _ .skip) (drp 1 fdTake.body)) _ A) _ _ _ _
  rw [wS_seq, wS_ite, wR_tru, wR_and, wR_cmp]
  refine rd_key rfl ht rfl ?_
  rw [wR_int, eq_int]
  show wR (ofO (some (D.bl (decide (l = 0)))) A) _
  rw [wR_some, truth_bl, wR_some]
  by_cases hl0 : l = 0
  · rw [if_pos (decide_eq_true hl0), wR_cmp]
    refine rd_key rfl ht rfl ?_
    rw [wR_bi, wR_cons]
    refine rd_key rfl ht rfl ?_
    rw [wR_nil, len_lst hc, wR_ok, lt_int]
    show wR (ofO (some (D.bl (decide (i < ((cells.map D.int).length : Int))))) A) _
    rw [wR_some, truth_bl, wR_some]
    by_cases hlt : i < ((cells.map D.int).length : Int)
    · rw [if_pos (decide_eq_true hlt), wS_seq, wS_sub, wR_ix]
      refine rd_key rfl ht rfl ?_
      refine rd_key rfl ht rfl ?_
      have hx : ∃ x, cells[i.toNat]? = some x := ⟨_, List.getElem?_eq_getElem (by rw [List.length_map] at hlt; omega)⟩
      obtain ⟨x, hx⟩ := hx
      have hgx : opI A (.ref c) (.int i) = some (.int x) := by
        rw [opI_lst hc, show i = ((i.toNat : Nat) : Int) by omega, atI_nat, List.getElem?_map, hx]; rfl
      rw [hgx, wR_some, wR_var (d := .ref tp) rfl, wR_str]
      refine ⟨_, dct_set ht rfl tpD_len, ?_⟩
      have hx0 := hcs x (List.mem_of_getElem? hx)
      obtain ⟨d3, hc3⟩ := tape_set (z' := z) (s' := s) (l' := x) (i' := i) ht hc hi hx0 hcs hce
      have ht3 : (A.set tp (.dct (dput (tpD c i l s z) (.str "left") (.int x))))[tp]? = some (.dct (tpD c i x s z)) := set_at ht
      have d3 : Dr tp A (A.set tp (.dct (dput (tpD c i l s z) (.str "left") (.int x)))) := d3
      have hc3 : (A.set tp (.dct (dput (tpD c i l s z) (.str "left") (.int x))))[c]? = some (.lst (cells.map .int)) := hc3
      generalize A.set tp (.dct (dput (tpD c i l s z) (.str "left") (.int x))) = A3 at ht3 d3 hc3
      rw [wS_seq, wS_sub, wR_op]
      refine rd_key rfl ht3 rfl ?_
      rw [wR_int, opB_add, wR_ok, wR_var (d := .ref tp) rfl, wR_str]
      refine ⟨_, dct_set ht3 rfl tpD_len, ?_⟩
      rw [wS_skip]
      obtain ⟨d4, hc4⟩ := tape_set (z' := z) (s' := s) (l' := x) (i' := i + 1) ht3 hc3 (by omega) hx0 hcs hce
      exact part2 _ (i + 1) x (d3.trans d4) (set_at ht3) hc4 (by omega) hx0
    · rw [if_neg (by rw [decide_eq_false hlt]; exact Bool.false_ne_true), wS_skip]
      exact part2 A i l (.refl ⟨c, i, l, s, z, cells, ht, hc, hi, hl, hcs, hce⟩) ht hc hi hl
  · rw [if_neg (by simp [hl0])]
    show wR (ofO (some (decide (l = 0))) A) _
    rw [wR_some, if_neg (by simp [hl0]), wS_skip]
    exact part2 A i l (.refl ⟨c, i, l, s, z, cells, ht, hc, hi, hl, hcs, hce⟩) ht hc hi hl
theorem tape_spec (hT : P "_law_tape" = some fdTape) {ns : List Int} (hn : ns.length ≤ 63) : wR (callF P N (n + 1) "_law_tape" [.frl (ns.map .int)] []) (fun r A' => ∃ tp, r = .ref tp ∧ TapeOk A' tp) := by
  rw [wR_call hT rfl]
  show wS (sx _ N fdTape.body [some (.frl (ns.map .int)), none, none, none] []) _ _ _ _
  rw [fdTape, wS_seq, wS_set, wR_lc, wR_wk, wR_var (d := .frl (ns.map .int)) rfl]
  show wR (unlR none (bnd (lcL _ [] _ _ (ns.map .int) [] []) _)) _
  show wR (bnd _ _) _
  rw [wR_bnd]
  refine lcL_kp (ns.map fun i => some (D.int (if i < 0 then -i else i))) (by simp) (by rw [List.length_map, ev_sz]; omega) rfl (fun j d o A e1 e2 k => ?_) fun A k => ?_
  · rw [List.getElem?_map] at e1 e2
    obtain ⟨i, hi, rfl⟩ := Option.map_eq_some_iff.mp e1
    rw [hi] at e2
    cases e2
    refine ⟨_, rfl, ?_⟩
    rw [wR_lcB, wR_evc0, if_pos rfl, wR_bi, wR_cons, wR_bi, wR_cons, wR_var (d := .int i) rfl, wR_nil, int_id, wR_ok, wR_nil]
    exact ⟨rfl, .refl⟩
  · have fm : (ns.map fun i => some (D.int (if i < 0 then -i else i))).filterMap id = (ns.map fun i => if i < 0 then -i else i).map D.int := by
      induction ns with
      | nil => rfl
      | cons i r ih => simp
    rw [fm, wR_ok]
    generalize hcs : (ns.map fun i => if i < 0 then -i else i) = cells
    have hpos : ∀ x ∈ cells, 0 ≤ x := fun x hx => by
      rw [← hcs] at hx
      obtain ⟨i, _, rfl⟩ := List.mem_map.mp hx
      split <;> omega
    show wS (sx _ N _ [some (.frl (ns.map .int)), some (.ref A.length), none, none] (A ++ [.lst (cells.map .int)])) _ _ _ _
    rw [wS_seq, wS_set, wR_int]
    show wS (sx _ N _ [some (.frl (ns.map .int)), some (.ref A.length), some (.int 7), none] (A ++ [.lst (cells.map .int)])) _ _ _ _
    rw [wS_seq, wS_for, wR_wk, wR_var (d := .ref A.length) rfl]
    have hw : wkOf (A ++ [.lst (cells.map .int)]) (.ref A.length) = some ⟨cells.map .int, [(A.length, .lst (cells.map .int))], none⟩ := by simp [wkOf]
    rw [hw, wR_some]
    refine forL_ind (fun i F A' => A' = A ++ [.lst (cells.map .int)] ∧ ∃ s y, F = [some (.frl (ns.map .int)), some (.ref A.length), some (.int s), y]) _ 0 _ _ ⟨rfl, 7, none, rfl⟩ (fun j d F A' e ⟨eA, s, y, eF⟩ => ?_) fun F A' ⟨eA, s, y, eF⟩ => ?_
    · subst eA eF
      refine ⟨gOk_one new_at, ?_⟩
      rw [List.getElem?_map] at e
      obtain ⟨x, hx, rfl⟩ := Option.map_eq_some_iff.mp e
      refine ⟨[some (.frl (ns.map .int)), some (.ref A.length), some (.int s), some (.int x)], rfl, ?_⟩
      rw [wS_seq, wS_set, wR_op, wR_bi, wR_cons, wR_op, wR_op, wR_var (d := .int s) rfl, wR_int, opB_mul (by decide), wR_ok, wR_var (d := .int x) rfl, opB_add, wR_ok, wR_nil, int_id, wR_ok, wR_int, opB_mod (by decide), wR_ok, wS_skip]
      exact ⟨rfl, _, _, rfl⟩
    · subst eA eF
      refine ⟨gOk_one new_at, ?_⟩
      rw [wS_seq, wS_ret]
      refine wR_eq (a := .ref (A ++ [AO.lst (cells.map D.int)]).length) (A := (A ++ [AO.lst (cells.map D.int)]) ++ [.dct (tpD A.length 0 0 s 0)]) (by kernel_rfl) ?_
      exact ⟨_, rfl, A.length, 0, 0, s, 0, cells, new_at, app_at new_at, Int.le_refl 0, Int.le_refl 0, hpos, by simp⟩
end
end Ev

/-! ## K01Ir -/
namespace K01
open Ev
/-- parts_of(term) -/
def fn_1 : Fd := ⟨1, 6,
 (.seq (.set 1 (.ix (.var 0) (.int 0)))
 (.seq (.ite (.cmp .mem (.var 1) (.tup (.cons (.str "lam") (.cons (.str "raise") (.cons (.str "ref") (.cons (.str "get") (.cons (.str "fst") (.cons (.str "snd") .nil)))))))) (.seq (.ret (.lst (.cons (.ix (.var 0) (.neg (.int 1))) .nil)))
 .skip) .skip)
 (.seq (.ite (.cmp .mem (.var 1) (.tup (.cons (.str "app") (.cons (.str "pair") (.cons (.str "set") (.cons (.str "if") .nil)))))) (.seq (.ret (.bi "list" (.cons (.sl (.var 0) (.cons (.int 1) .nil) .nil) .nil)))
 .skip) .skip)
 (.seq (.ite (.cmp .mem (.var 1) (.tup (.cons (.str "let") (.cons (.str "op") .nil)))) (.seq (.ret (.lst (.cons (.ix (.var 0) (.int 2)) (.cons (.ix (.var 0) (.int 3)) .nil))))
 .skip) .skip)
 (.seq (.ite (.cmp .eq (.var 1) (.str "fix")) (.seq (.ret (.lst (.cons (.ix (.var 0) (.int 3)) .nil)))
 .skip) .skip)
 (.seq (.ite (.cmp .eq (.var 1) (.str "con")) (.seq (.ret (.bi "list" (.cons (.ix (.var 0) (.int 2)) .nil)))
 .skip) .skip)
 (.seq (.ite (.cmp .eq (.var 1) (.str "match")) (.seq (.ret (.op .add (.lst (.cons (.ix (.var 0) (.int 1)) .nil)) (.lc (.nm 2) (.wk (.ix (.var 0) (.int 2))) .nil (.ix (.var 2) (.int 2)) [2])))
 .skip) .skip)
 (.seq (.ite (.cmp .eq (.var 1) (.str "try")) (.seq (.ret (.lst (.cons (.ix (.var 0) (.int 1)) (.cons (.ix (.var 0) (.int 3)) .nil))))
 .skip) .skip)
 (.seq (.ite (.cmp .mem (.var 1) (.tup (.cons (.str "perform") (.cons (.str "field") .nil)))) (.seq (.ret (.lst (.cons (.ite (.cmp .eq (.var 1) (.str "perform")) (.ix (.var 0) (.int 2)) (.ix (.var 0) (.int 1))) .nil)))
 .skip) .skip)
 (.seq (.ite (.cmp .eq (.var 1) (.str "handle")) (.seq (.ret (.op .add (.lst (.cons (.ix (.var 0) (.int 1)) (.cons (.ix (.var 0) (.int 3)) .nil))) (.lc (.nm 3) (.wk (.ix (.var 0) (.int 4))) .nil (.ix (.var 3) (.int 3)) [3])))
 .skip) .skip)
 (.seq (.ite (.cmp .eq (.var 1) (.str "record")) (.seq (.ret (.lc (.tu (.cons (.nm 4) (.cons (.nm 5) .nil))) (.wk (.ix (.var 0) (.int 1))) .nil (.var 5) [4, 5]))
 .skip) .skip)
 (.seq (.ret (.ite (.cmp .eq (.var 1) (.str "extend")) (.lst (.cons (.ix (.var 0) (.int 1)) (.cons (.ix (.var 0) (.int 3)) .nil))) (.lst .nil)))
 .skip))))))))))))⟩
def ns_1 : List PySem.Str := ["term", "word", "branch", "clause", "_", "part"]
/-- with_parts(term, parts) -/
def fn_2 : Fd := ⟨2, 10,
 (.seq (.set 2 (.ix (.var 0) (.int 0)))
 (.seq (.ite (.cmp .mem (.var 2) (.tup (.cons (.str "lam") (.cons (.str "raise") (.cons (.str "ref") (.cons (.str "get") (.cons (.str "fst") (.cons (.str "snd") .nil)))))))) (.seq (.ret (.op .add (.sl (.var 0) .nil (.cons (.neg (.int 1)) .nil)) (.tup (.cons (.ix (.var 1) (.int 0)) .nil))))
 .skip) .skip)
 (.seq (.ite (.cmp .mem (.var 2) (.tup (.cons (.str "app") (.cons (.str "pair") (.cons (.str "set") (.cons (.str "if") .nil)))))) (.seq (.ret (.op .add (.tup (.cons (.var 2) .nil)) (.bi "tuple" (.cons (.var 1) .nil))))
 .skip) .skip)
 (.seq (.ite (.cmp .mem (.var 2) (.tup (.cons (.str "let") (.cons (.str "op") .nil)))) (.seq (.ret (.op .add (.sl (.var 0) .nil (.cons (.int 2) .nil)) (.bi "tuple" (.cons (.var 1) .nil))))
 .skip) .skip)
 (.seq (.ite (.cmp .eq (.var 2) (.str "fix")) (.seq (.ret (.op .add (.sl (.var 0) .nil (.cons (.int 3) .nil)) (.tup (.cons (.ix (.var 1) (.int 0)) .nil))))
 .skip) .skip)
 (.seq (.ite (.cmp .eq (.var 2) (.str "con")) (.seq (.ret (.op .add (.sl (.var 0) .nil (.cons (.int 2) .nil)) (.tup (.cons (.bi "tuple" (.cons (.var 1) .nil)) .nil))))
 .skip) .skip)
 (.seq (.ite (.cmp .eq (.var 2) (.str "match")) (.seq (.set 3 (.lc (.tu (.cons (.nm 5) (.cons (.nm 6) .nil))) (.zip (.ix (.var 0) (.int 2)) (.sl (.var 1) (.cons (.int 1) .nil) .nil)) .nil (.op .add (.sl (.var 5) .nil (.cons (.int 2) .nil)) (.tup (.cons (.var 6) .nil))) [5, 6]))
 (.seq (.ret (.tup (.cons (.var 2) (.cons (.ix (.var 1) (.int 0)) (.cons (.bi "tuple" (.cons (.var 3) .nil)) .nil)))))
 .skip)) .skip)
 (.seq (.ite (.cmp .eq (.var 2) (.str "try")) (.seq (.ret (.tup (.cons (.var 2) (.cons (.ix (.var 1) (.int 0)) (.cons (.ix (.var 0) (.int 2)) (.cons (.ix (.var 1) (.int 1)) .nil))))))
 .skip) .skip)
 (.seq (.ite (.cmp .mem (.var 2) (.tup (.cons (.str "perform") (.cons (.str "field") .nil)))) (.seq (.ret (.ite (.cmp .eq (.var 2) (.str "perform")) (.tup (.cons (.var 2) (.cons (.ix (.var 0) (.int 1)) (.cons (.ix (.var 1) (.int 0)) .nil)))) (.tup (.cons (.var 2) (.cons (.ix (.var 1) (.int 0)) (.cons (.ix (.var 0) (.int 2)) .nil))))))
 .skip) .skip)
 (.seq (.ite (.cmp .eq (.var 2) (.str "handle")) (.seq (.set 4 (.lc (.tu (.cons (.nm 7) (.cons (.nm 6) .nil))) (.zip (.ix (.var 0) (.int 4)) (.sl (.var 1) (.cons (.int 2) .nil) .nil)) .nil (.op .add (.sl (.var 7) .nil (.cons (.int 3) .nil)) (.tup (.cons (.var 6) .nil))) [7, 6]))
 (.seq (.ret (.tup (.cons (.var 2) (.cons (.ix (.var 1) (.int 0)) (.cons (.ix (.var 0) (.int 2)) (.cons (.ix (.var 1) (.int 1)) (.cons (.bi "tuple" (.cons (.var 4) .nil)) .nil)))))))
 .skip)) .skip)
 (.seq (.ite (.cmp .eq (.var 2) (.str "record")) (.seq (.ret (.tup (.cons (.var 2) (.cons (.bi "tuple" (.cons (.lc (.tu (.cons (.tu (.cons (.nm 8) (.cons (.nm 9) .nil))) (.cons (.nm 6) .nil))) (.zip (.ix (.var 0) (.int 1)) (.var 1)) .nil (.tup (.cons (.var 8) (.cons (.var 6) .nil))) [8, 9, 6]) .nil)) .nil))))
 .skip) .skip)
 (.seq (.ret (.ite (.cmp .eq (.var 2) (.str "extend")) (.tup (.cons (.var 2) (.cons (.ix (.var 1) (.int 0)) (.cons (.ix (.var 0) (.int 2)) (.cons (.ix (.var 1) (.int 1)) .nil))))) (.var 0)))
 .skip))))))))))))⟩
def ns_2 : List PySem.Str := ["term", "parts", "word", "branches", "clauses", "branch", "part", "clause", "label", "_"]
/-- bound_in(term, index) -/
def fn_3 : Fd := ⟨2, 3,
 (.seq (.set 2 (.ix (.var 0) (.int 0)))
 (.seq (.ite (.cmp .eq (.var 2) (.str "lam")) (.seq (.ret (.lst (.cons (.ix (.var 0) (.int 1)) .nil)))
 .skip) .skip)
 (.seq (.ite (.cmp .eq (.var 2) (.str "fix")) (.seq (.ret (.lst (.cons (.ix (.var 0) (.int 1)) (.cons (.ix (.var 0) (.int 2)) .nil))))
 .skip) .skip)
 (.seq (.ite (.and (.cmp .eq (.var 2) (.str "let")) (.cmp .eq (.var 1) (.int 1))) (.seq (.ret (.lst (.cons (.ix (.var 0) (.int 1)) .nil)))
 .skip) .skip)
 (.seq (.ite (.and (.cmp .eq (.var 2) (.str "match")) (.cmp .gt (.var 1) (.int 0))) (.seq (.ret (.bi "list" (.cons (.ix (.ix (.ix (.var 0) (.int 2)) (.op .sub (.var 1) (.int 1))) (.int 1)) .nil)))
 .skip) .skip)
 (.seq (.ite (.and (.cmp .eq (.var 2) (.str "try")) (.cmp .eq (.var 1) (.int 1))) (.seq (.ret (.lst (.cons (.ix (.var 0) (.int 2)) .nil)))
 .skip) .skip)
 (.seq (.ite (.and (.cmp .eq (.var 2) (.str "handle")) (.cmp .gt (.var 1) (.int 0))) (.seq (.ret (.ite (.cmp .eq (.var 1) (.int 1)) (.lst (.cons (.ix (.var 0) (.int 2)) .nil)) (.bi "list" (.cons (.sl (.ix (.ix (.var 0) (.int 4)) (.op .sub (.var 1) (.int 2))) (.cons (.int 1) .nil) (.cons (.int 3) .nil)) .nil))))
 .skip) .skip)
 (.seq (.ret (.lst .nil))
 .skip))))))))⟩
def ns_3 : List PySem.Str := ["term", "index", "word"]
/-- free_names(term) -/
def fn_4 : Fd := ⟨1, 6,
 (.seq (.ite (.cmp .eq (.ix (.var 0) (.int 0)) (.str "var")) (.seq (.ret (.dct (.cons (.ix (.var 0) (.int 1)) (.cons (.bl true) .nil))))
 .skip) .skip)
 (.seq (.set 1 (.dct .nil))
 (.seq (.for (.tu (.cons (.nm 2) (.cons (.nm 3) .nil))) (.enm (.call "parts_of" (.cons (.var 0) .nil))) (.seq (.set 4 (.call "free_names" (.cons (.var 3) .nil)))
 (.seq (.for (.nm 5) (.wk (.call "bound_in" (.cons (.var 0) (.cons (.var 2) .nil)))) (.seq (.ex (.mth "pop" (.var 4) (.cons (.var 5) (.cons .non .nil))))
 .skip))
 (.seq (.ex (.mth "update" (.var 1) (.cons (.var 4) .nil)))
 .skip))))
 (.seq (.ret (.var 1))
 .skip))))⟩
def ns_4 : List PySem.Str := ["term", "found", "index", "part", "inner", "name"]
/-- put_in(term, values) -/
def fn_5 : Fd := ⟨2, 8,
 (.seq (.ite (.cmp .eq (.ix (.var 0) (.int 0)) (.str "var")) (.seq (.ret (.mth "get" (.var 1) (.cons (.ix (.var 0) (.int 1)) (.cons (.var 0) .nil))))
 .skip) .skip)
 (.seq (.ite (.or (.cmp .eq (.ix (.var 0) (.int 0)) (.str "kont")) (.not (.var 1))) (.seq (.ret (.var 0))
 .skip) .skip)
 (.seq (.set 2 (.lst .nil))
 (.seq (.for (.tu (.cons (.nm 3) (.cons (.nm 4) .nil))) (.enm (.call "parts_of" (.cons (.var 0) .nil))) (.seq (.set 5 (.call "bound_in" (.cons (.var 0) (.cons (.var 3) .nil))))
 (.seq (.set 6 (.dc (.nm 7) (.wk (.var 1)) (.cons (.cmp .nmem (.var 7) (.var 5)) .nil) (.var 7) (.ix (.var 1) (.var 7)) [7]))
 (.seq (.ex (.mth "append" (.var 2) (.cons (.call "put_in" (.cons (.var 4) (.cons (.var 6) .nil))) .nil)))
 .skip))))
 (.seq (.ret (.call "with_parts" (.cons (.var 0) (.cons (.var 2) .nil))))
 .skip)))))⟩
def ns_5 : List PySem.Str := ["term", "values", "parts", "index", "part", "bound", "inner", "name"]
/-- size(term) -/
def fn_6 : Fd := ⟨1, 2,
 (.seq (.ret (.op .add (.int 1) (.bi "sum" (.cons (.lc (.nm 1) (.wk (.call "parts_of" (.cons (.var 0) .nil))) .nil (.call "size" (.cons (.var 1) .nil)) [1]) .nil))))
 .skip)⟩
def ns_6 : List PySem.Str := ["term", "part"]
/-- part_at(term, path) -/
def fn_7 : Fd := ⟨2, 4,
 (.seq (.for (.nm 2) (.wk (.var 1)) (.seq (.set 3 (.call "parts_of" (.cons (.var 0) .nil)))
 (.seq (.ite (.not (.chn .le .lt (.int 0) (.var 2) (.bi "len" (.cons (.var 3) .nil)))) (.seq (.ret .non)
 .skip) .skip)
 (.seq (.set 0 (.ix (.var 3) (.var 2)))
 .skip))))
 (.seq (.ret (.var 0))
 .skip))⟩
def ns_7 : List PySem.Str := ["term", "path", "index", "parts"]
/-- with_part(term, path, part) -/
def fn_8 : Fd := ⟨3, 4,
 (.seq (.ite (.not (.var 1)) (.seq (.ret (.var 2))
 .skip) .skip)
 (.seq (.set 3 (.call "parts_of" (.cons (.var 0) .nil)))
 (.seq (.sub (.var 3) (.ix (.var 1) (.int 0)) (.call "with_part" (.cons (.ix (.var 3) (.ix (.var 1) (.int 0))) (.cons (.sl (.var 1) (.cons (.int 1) .nil) .nil) (.cons (.var 2) .nil)))))
 (.seq (.ret (.call "with_parts" (.cons (.var 0) (.cons (.var 3) .nil))))
 .skip))))⟩
def ns_8 : List PySem.Str := ["term", "path", "part", "parts"]
/-- paths_of(term) -/
def fn_9 : Fd := ⟨1, 5,
 (.seq (.set 1 (.lst (.cons (.tup .nil) .nil)))
 (.seq (.for (.tu (.cons (.nm 2) (.cons (.nm 3) .nil))) (.enm (.call "parts_of" (.cons (.var 0) .nil))) (.seq (.ex (.mth "extend" (.var 1) (.cons (.lc (.nm 4) (.wk (.call "paths_of" (.cons (.var 3) .nil))) .nil (.op .add (.tup (.cons (.var 2) .nil)) (.var 4)) [4]) .nil)))
 .skip))
 (.seq (.ret (.var 1))
 .skip)))⟩
def ns_9 : List PySem.Str := ["term", "found", "index", "part", "path"]
/-- _law_tape(script) -/
def fn_11 : Fd := ⟨1, 4,
 (.seq (.set 1 (.lc (.nm 3) (.wk (.var 0)) .nil (.bi "abs" (.cons (.bi "int" (.cons (.var 3) .nil)) .nil)) [3]))
 (.seq (.set 2 (.int 7))
 (.seq (.for (.nm 3) (.wk (.var 1)) (.seq (.set 2 (.op .mod (.bi "int" (.cons (.op .add (.op .mul (.var 2) (.int 31)) (.var 3)) .nil)) (.int 2147483647)))
 .skip))
 (.seq (.ret (.dct (.cons (.str "cells") (.cons (.var 1) (.cons (.str "at") (.cons (.int 0) (.cons (.str "left") (.cons (.int 0) (.cons (.str "seed") (.cons (.var 2) (.cons (.str "salt") (.cons (.int 0) .nil))))))))))))
 .skip))))⟩
def ns_11 : List PySem.Str := ["script", "cells", "seed", "cell"]
/-- _law_take(tape, many) -/
def fn_12 : Fd := ⟨2, 4,
 (.seq (.ite (.and (.cmp .eq (.ix (.var 0) (.str "left")) (.int 0)) (.cmp .lt (.ix (.var 0) (.str "at")) (.bi "len" (.cons (.ix (.var 0) (.str "cells")) .nil)))) (.seq (.sub (.var 0) (.str "left") (.ix (.ix (.var 0) (.str "cells")) (.ix (.var 0) (.str "at"))))
 (.seq (.sub (.var 0) (.str "at") (.op .add (.ix (.var 0) (.str "at")) (.int 1)))
 .skip)) .skip)
 (.seq (.ite (.cmp .gt (.ix (.var 0) (.str "left")) (.int 0)) (.seq (.set 2 (.op .mod (.bi "int" (.cons (.ix (.var 0) (.str "left")) .nil)) (.var 1)))
 (.seq (.sub (.var 0) (.str "left") (.op .fdiv (.ix (.var 0) (.str "left")) (.var 1)))
 (.seq (.ret (.var 2))
 .skip))) .skip)
 (.seq (.sub (.var 0) (.str "salt") (.op .add (.ix (.var 0) (.str "salt")) (.int 1)))
 (.seq (.set 3 (.op .mod (.bi "int" (.cons (.op .add (.op .mul (.ix (.var 0) (.str "seed")) (.int 48271)) (.op .mul (.ix (.var 0) (.str "salt")) (.int 69621))) .nil)) (.int 2147483647)))
 (.seq (.set 3 (.op .mod (.bi "int" (.cons (.op .add (.op .add (.op .mul (.var 3) (.var 3)) (.op .mul (.ix (.var 0) (.str "salt")) (.int 40692))) (.int 12345)) .nil)) (.int 2147483399)))
 (.seq (.ret (.op .mod (.bi "int" (.cons (.var 3) .nil)) (.var 1)))
 .skip))))))⟩
def ns_12 : List PySem.Str := ["tape", "many", "drawn", "mixed"]
/-- _law_is_integer(actual) -/
def fn_13 : Fd := ⟨1, 1,
 (.seq (.ret (.and (.bi "isinstance" (.cons (.var 0) (.cons (.gl "int") .nil))) (.not (.bi "isinstance" (.cons (.var 0) (.cons (.gl "bool") .nil))))))
 .skip)⟩
def ns_13 : List PySem.Str := ["actual"]
/-- _law_same_items(actual, expected) -/
def fn_14 : Fd := ⟨2, 3,
 (.seq (.ite (.cmp .ne (.bi "len" (.cons (.var 0) .nil)) (.bi "len" (.cons (.var 1) .nil))) (.seq (.ret (.bl false))
 .skip) .skip)
 (.seq (.for (.nm 2) (.rng (.cons (.bi "len" (.cons (.var 1) .nil)) .nil)) (.seq (.ite (.not (.call "_law_same" (.cons (.ix (.var 0) (.var 2)) (.cons (.ix (.var 1) (.var 2)) .nil)))) (.seq (.ret (.bl false))
 .skip) .skip)
 .skip))
 (.seq (.ret (.bl true))
 .skip)))⟩
def ns_14 : List PySem.Str := ["actual", "expected", "k"]
/-- _law_same(actual, expected) -/
def fn_15 : Fd := ⟨2, 3,
 (.seq (.ite (.cmp .is (.var 1) .non) (.seq (.ret (.cmp .is (.var 0) .non))
 .skip) .skip)
 (.seq (.ite (.bi "isinstance" (.cons (.var 1) (.cons (.gl "bool") .nil))) (.seq (.ret (.and (.bi "isinstance" (.cons (.var 0) (.cons (.gl "bool") .nil))) (.cmp .eq (.var 0) (.var 1))))
 .skip) .skip)
 (.seq (.ite (.bi "isinstance" (.cons (.var 1) (.cons (.gl "int") .nil))) (.seq (.ret (.and (.call "_law_is_integer" (.cons (.var 0) .nil)) (.cmp .eq (.var 0) (.var 1))))
 .skip) .skip)
 (.seq (.ite (.bi "isinstance" (.cons (.var 1) (.cons (.gl "str") .nil))) (.seq (.ret (.and (.bi "isinstance" (.cons (.var 0) (.cons (.gl "str") .nil))) (.cmp .eq (.var 0) (.var 1))))
 .skip) .skip)
 (.seq (.ite (.bi "isinstance" (.cons (.var 1) (.cons (.gl "tuple") .nil))) (.seq (.ret (.and (.bi "isinstance" (.cons (.var 0) (.cons (.gl "tuple") .nil))) (.call "_law_same_items" (.cons (.var 0) (.cons (.var 1) .nil)))))
 .skip) .skip)
 (.seq (.ite (.bi "isinstance" (.cons (.var 1) (.cons (.gl "list") .nil))) (.seq (.ret (.and (.bi "isinstance" (.cons (.var 0) (.cons (.gl "list") .nil))) (.call "_law_same_items" (.cons (.var 0) (.cons (.var 1) .nil)))))
 .skip) .skip)
 (.seq (.ite (.or (.not (.bi "isinstance" (.cons (.var 0) (.cons (.gl "dict") .nil)))) (.cmp .ne (.bi "len" (.cons (.var 0) .nil)) (.bi "len" (.cons (.var 1) .nil)))) (.seq (.ret (.bl false))
 .skip) .skip)
 (.seq (.for (.nm 2) (.wk (.var 1)) (.seq (.ite (.or (.cmp .nmem (.var 2) (.var 0)) (.not (.call "_law_same" (.cons (.ix (.var 0) (.var 2)) (.cons (.ix (.var 1) (.var 2)) .nil))))) (.seq (.ret (.bl false))
 .skip) .skip)
 .skip))
 (.seq (.for (.nm 2) (.wk (.var 0)) (.seq (.ite (.bi "isinstance" (.cons (.var 2) (.cons (.gl "bool") .nil))) (.seq (.ret (.bl false))
 .skip) .skip)
 .skip))
 (.seq (.ret (.bl true))
 .skip))))))))))⟩
def ns_15 : List PySem.Str := ["actual", "expected", "key"]
/-- _law_leaf(tape, names) -/
def fn_16 : Fd := ⟨2, 4,
 (.seq (.set 2 (.op .add (.op .add (.lst (.cons (.tup (.cons (.str "int") (.cons (.call "_law_take" (.cons (.var 0) (.cons (.int 4) .nil))) .nil))) (.cons (.tup (.cons (.str "bool") (.cons (.cmp .eq (.call "_law_take" (.cons (.var 0) (.cons (.int 2) .nil))) (.int 0)) .nil))) (.cons (.tup (.cons (.str "unit") .nil)) (.cons (.tup (.cons (.str "con") (.cons (.str "Nil") (.cons (.tup .nil) .nil)))) (.cons (.tup (.cons (.str "int") (.cons (.int 4294967295) .nil))) .nil)))))) (.lc (.nm 3) (.wk (.var 1)) .nil (.tup (.cons (.str "var") (.cons (.var 3) .nil))) [3])) (.lc (.nm 3) (.wk (.var 1)) .nil (.tup (.cons (.str "var") (.cons (.var 3) .nil))) [3])))
 (.seq (.ret (.ix (.var 2) (.call "_law_take" (.cons (.var 0) (.cons (.bi "len" (.cons (.var 2) .nil)) .nil)))))
 .skip))⟩
def ns_16 : List PySem.Str := ["tape", "names", "ones", "name"]
/-- _law_effect(tape, names, depth) -/
def fn_17 : Fd := ⟨3, 10,
 (.seq (.set 3 (.call "_law_take" (.cons (.var 0) (.cons (.int 9) .nil))))
 (.seq (.set 4 (.call "_law_program" (.cons (.var 0) (.cons (.var 1) (.cons (.op .sub (.var 2) (.int 1)) .nil)))))
 (.seq (.ite (.cmp .eq (.var 3) (.int 0)) (.seq (.ret (.tup (.cons (.str "ref") (.cons (.var 4) .nil))))
 .skip) .skip)
 (.seq (.ite (.cmp .eq (.var 3) (.int 1)) (.seq (.ret (.tup (.cons (.str "let") (.cons (.str "c") (.cons (.tup (.cons (.str "ref") (.cons (.var 4) .nil))) (.cons (.call "_law_program" (.cons (.var 0) (.cons (.op .add (.var 1) (.lst (.cons (.str "c") .nil))) (.cons (.op .sub (.var 2) (.int 1)) .nil)))) .nil))))))
 .skip) .skip)
 (.seq (.ite (.cmp .eq (.var 3) (.int 2)) (.seq (.ret (.tup (.cons (.str "get") (.cons (.ite (.cmp .mem (.str "c") (.var 1)) (.tup (.cons (.str "var") (.cons (.str "c") .nil))) (.var 4)) .nil))))
 .skip) .skip)
 (.seq (.ite (.cmp .eq (.var 3) (.int 3)) (.seq (.ret (.tup (.cons (.str "set") (.cons (.ite (.cmp .mem (.str "c") (.var 1)) (.tup (.cons (.str "var") (.cons (.str "c") .nil))) (.var 4)) (.cons (.call "_law_program" (.cons (.var 0) (.cons (.var 1) (.cons (.op .sub (.var 2) (.int 1)) .nil)))) .nil)))))
 .skip) .skip)
 (.seq (.ite (.cmp .eq (.var 3) (.int 4)) (.seq (.ret (.tup (.cons (.str "raise") (.cons (.var 4) .nil))))
 .skip) .skip)
 (.seq (.ite (.cmp .eq (.var 3) (.int 5)) (.seq (.ret (.tup (.cons (.str "try") (.cons (.var 4) (.cons (.str "e") (.cons (.call "_law_program" (.cons (.var 0) (.cons (.op .add (.var 1) (.lst (.cons (.str "e") .nil))) (.cons (.op .sub (.var 2) (.int 1)) .nil)))) .nil))))))
 .skip) .skip)
 (.seq (.ite (.cmp .eq (.var 3) (.int 6)) (.seq (.ret (.tup (.cons (.str "perform") (.cons (.ix (.lst (.cons (.str "ask") (.cons (.str "flip") (.cons (.str "put") .nil)))) (.call "_law_take" (.cons (.var 0) (.cons (.int 3) .nil)))) (.cons (.var 4) .nil)))))
 .skip) .skip)
 (.seq (.set 5 (.lst .nil))
 (.seq (.for (.nm 6) (.wk (.lst (.cons (.str "ask") (.cons (.str "flip") (.cons (.str "put") .nil))))) (.seq (.ite (.cmp .eq (.call "_law_take" (.cons (.var 0) (.cons (.int 2) .nil))) (.int 0)) (.seq (.set 7 (.call "_law_program" (.cons (.var 0) (.cons (.op .add (.var 1) (.lst (.cons (.str "a") (.cons (.str "k") .nil)))) (.cons (.op .sub (.var 2) (.int 1)) .nil)))))
 (.seq (.set 8 (.ix (.dct (.cons (.str "ask") (.cons (.tup (.cons (.str "var") (.cons (.str "a") .nil))) (.cons (.str "flip") (.cons (.tup (.cons (.str "bool") (.cons (.cmp .eq (.call "_law_take" (.cons (.var 0) (.cons (.int 2) .nil))) (.int 0)) .nil))) (.cons (.str "put") (.cons (.tup (.cons (.str "unit") .nil)) .nil))))))) (.var 6)))
 (.seq (.set 9 (.tup (.cons (.str "app") (.cons (.tup (.cons (.str "var") (.cons (.str "k") .nil))) (.cons (.ix (.lst (.cons (.var 8) (.cons (.call "_law_leaf" (.cons (.var 0) (.cons (.op .add (.var 1) (.lst (.cons (.str "a") .nil))) .nil))) .nil))) (.op .fdiv (.call "_law_take" (.cons (.var 0) (.cons (.int 4) .nil))) (.int 3))) .nil)))))
 (.seq (.ex (.mth "append" (.var 5) (.cons (.tup (.cons (.var 6) (.cons (.str "a") (.cons (.str "k") (.cons (.ix (.lst (.cons (.var 9) (.cons (.var 9) (.cons (.var 7) (.cons (.tup (.cons (.str "let") (.cons (.str "u") (.cons (.var 9) (.cons (.var 7) .nil))))) (.cons (.tup (.cons (.str "pair") (.cons (.var 9) (.cons (.var 9) .nil)))) .nil)))))) (.call "_law_take" (.cons (.var 0) (.cons (.int 5) .nil)))) .nil))))) .nil)))
 .skip)))) .skip)
 .skip))
 (.seq (.ret (.tup (.cons (.str "handle") (.cons (.var 4) (.cons (.str "r") (.cons (.ite (.cmp .eq (.call "_law_take" (.cons (.var 0) (.cons (.int 2) .nil))) (.int 0)) (.call "_law_program" (.cons (.var 0) (.cons (.op .add (.var 1) (.lst (.cons (.str "r") .nil))) (.cons (.int 0) .nil)))) (.tup (.cons (.str "var") (.cons (.str "r") .nil)))) (.cons (.bi "tuple" (.cons (.var 5) .nil)) .nil)))))))
 .skip))))))))))))⟩
def ns_17 : List PySem.Str := ["tape", "names", "depth", "kind", "part", "clauses", "own", "body", "answer", "again"]
/-- _law_shape(tape, names, depth) -/
def fn_18 : Fd := ⟨3, 6,
 (.seq (.set 3 (.call "_law_take" (.cons (.var 0) (.cons (.int 9) .nil))))
 (.seq (.asg (.tu (.cons (.nm 4) (.cons (.nm 5) .nil))) (.tup (.cons (.call "_law_program" (.cons (.var 0) (.cons (.var 1) (.cons (.op .sub (.var 2) (.int 1)) .nil)))) (.cons (.call "_law_program" (.cons (.var 0) (.cons (.var 1) (.cons (.op .sub (.var 2) (.int 1)) .nil)))) .nil))))
 (.seq (.ite (.cmp .eq (.var 3) (.int 0)) (.seq (.ret (.tup (.cons (.str "pair") (.cons (.var 4) (.cons (.var 5) .nil)))))
 .skip) .skip)
 (.seq (.ite (.cmp .eq (.var 3) (.int 1)) (.seq (.ret (.tup (.cons (.ix (.lst (.cons (.str "fst") (.cons (.str "snd") .nil))) (.call "_law_take" (.cons (.var 0) (.cons (.int 2) .nil)))) (.cons (.ite (.cmp .eq (.call "_law_take" (.cons (.var 0) (.cons (.int 2) .nil))) (.int 0)) (.tup (.cons (.str "pair") (.cons (.var 4) (.cons (.var 5) .nil)))) (.var 4)) .nil))))
 .skip) .skip)
 (.seq (.ite (.cmp .eq (.var 3) (.int 2)) (.seq (.ret (.tup (.cons (.str "con") (.cons (.str "Cons") (.cons (.tup (.cons (.var 4) (.cons (.ite (.cmp .eq (.call "_law_take" (.cons (.var 0) (.cons (.int 2) .nil))) (.int 0)) (.tup (.cons (.str "con") (.cons (.str "Nil") (.cons (.tup .nil) .nil)))) (.var 5)) .nil))) .nil)))))
 .skip) .skip)
 (.seq (.ite (.cmp .eq (.var 3) (.int 3)) (.seq (.ret (.tup (.cons (.str "match") (.cons (.var 4) (.cons (.tup (.cons (.tup (.cons (.str "Nil") (.cons (.tup .nil) (.cons (.var 5) .nil)))) (.cons (.tup (.cons (.str "Cons") (.cons (.tup (.cons (.str "h") (.cons (.str "t") .nil))) (.cons (.call "_law_program" (.cons (.var 0) (.cons (.op .add (.var 1) (.lst (.cons (.str "h") (.cons (.str "t") .nil)))) (.cons (.op .sub (.var 2) (.int 1)) .nil)))) .nil)))) .nil))) .nil)))))
 .skip) .skip)
 (.seq (.ite (.cmp .eq (.var 3) (.int 4)) (.seq (.ret (.tup (.cons (.str "record") (.cons (.tup (.cons (.tup (.cons (.str "l") (.cons (.var 4) .nil))) (.cons (.tup (.cons (.str "m") (.cons (.var 5) .nil))) .nil))) .nil))))
 .skip) .skip)
 (.seq (.ite (.cmp .eq (.var 3) (.int 5)) (.seq (.ret (.tup (.cons (.str "field") (.cons (.ite (.cmp .eq (.call "_law_take" (.cons (.var 0) (.cons (.int 2) .nil))) (.int 0)) (.tup (.cons (.str "record") (.cons (.tup (.cons (.tup (.cons (.str "m") (.cons (.var 5) .nil))) (.cons (.tup (.cons (.str "l") (.cons (.var 4) .nil))) .nil))) .nil))) (.var 4)) (.cons (.ix (.lst (.cons (.str "l") (.cons (.str "m") .nil))) (.call "_law_take" (.cons (.var 0) (.cons (.int 2) .nil)))) .nil)))))
 .skip) .skip)
 (.seq (.ite (.cmp .eq (.var 3) (.int 6)) (.seq (.ret (.tup (.cons (.str "extend") (.cons (.ite (.cmp .eq (.call "_law_take" (.cons (.var 0) (.cons (.int 2) .nil))) (.int 0)) (.tup (.cons (.str "record") (.cons (.tup (.cons (.tup (.cons (.str "m") (.cons (.var 4) .nil))) .nil)) .nil))) (.var 4)) (.cons (.ix (.lst (.cons (.str "l") (.cons (.str "m") .nil))) (.call "_law_take" (.cons (.var 0) (.cons (.int 2) .nil)))) (.cons (.var 5) .nil))))))
 .skip) .skip)
 (.seq (.ite (.cmp .eq (.var 3) (.int 7)) (.seq (.ret (.tup (.cons (.str "con") (.cons (.str "Yes") (.cons (.tup (.cons (.tup (.cons (.str "pair") (.cons (.var 4) (.cons (.var 5) .nil)))) .nil)) .nil)))))
 .skip) .skip)
 (.seq (.ret (.tup (.cons (.str "match") (.cons (.var 4) (.cons (.tup (.cons (.tup (.cons (.str "No") (.cons (.tup .nil) (.cons (.var 5) .nil)))) (.cons (.tup (.cons (.str "Yes") (.cons (.tup (.cons (.str "q") .nil)) (.cons (.call "_law_program" (.cons (.var 0) (.cons (.op .add (.var 1) (.lst (.cons (.str "q") .nil))) (.cons (.op .sub (.var 2) (.int 1)) .nil)))) .nil)))) .nil))) .nil)))))
 .skip)))))))))))⟩
def ns_18 : List PySem.Str := ["tape", "names", "depth", "kind", "part", "other"]
/-- _law_program(tape, names, depth) -/
def fn_19 : Fd := ⟨3, 6,
 (.seq (.ite (.or (.cmp .le (.var 2) (.int 0)) (.cmp .eq (.call "_law_take" (.cons (.var 0) (.cons (.int 7) .nil))) (.int 0))) (.seq (.ret (.call "_law_leaf" (.cons (.var 0) (.cons (.var 1) .nil))))
 .skip) .skip)
 (.seq (.set 3 (.call "_law_take" (.cons (.var 0) (.cons (.int 12) .nil))))
 (.seq (.set 4 (.ix (.lst (.cons (.str "x") (.cons (.str "y") (.cons (.str "z") .nil)))) (.call "_law_take" (.cons (.var 0) (.cons (.int 3) .nil)))))
 (.seq (.ite (.cmp .lt (.var 3) (.int 2)) (.seq (.ret (.call "_law_effect" (.cons (.var 0) (.cons (.var 1) (.cons (.var 2) .nil)))))
 .skip) .skip)
 (.seq (.ite (.cmp .lt (.var 3) (.int 4)) (.seq (.ret (.call "_law_shape" (.cons (.var 0) (.cons (.var 1) (.cons (.var 2) .nil)))))
 .skip) .skip)
 (.seq (.ite (.cmp .eq (.var 3) (.int 4)) (.seq (.ret (.tup (.cons (.str "lam") (.cons (.var 4) (.cons (.call "_law_program" (.cons (.var 0) (.cons (.op .add (.var 1) (.lst (.cons (.var 4) .nil))) (.cons (.op .sub (.var 2) (.int 1)) .nil)))) .nil)))))
 .skip) .skip)
 (.seq (.ite (.cmp .eq (.var 3) (.int 5)) (.seq (.set 5 (.call "_law_program" (.cons (.var 0) (.cons (.op .add (.var 1) (.lst (.cons (.str "f") (.cons (.var 4) .nil)))) (.cons (.op .sub (.var 2) (.int 1)) .nil)))))
 (.seq (.ret (.tup (.cons (.str "fix") (.cons (.str "f") (.cons (.var 4) (.cons (.tup (.cons (.str "if") (.cons (.tup (.cons (.str "op") (.cons (.str "<") (.cons (.tup (.cons (.str "var") (.cons (.var 4) .nil))) (.cons (.tup (.cons (.str "int") (.cons (.int 1) .nil))) .nil))))) (.cons (.call "_law_program" (.cons (.var 0) (.cons (.op .add (.var 1) (.lst (.cons (.var 4) .nil))) (.cons (.op .sub (.var 2) (.int 1)) .nil)))) (.cons (.ix (.lst (.cons (.tup (.cons (.str "app") (.cons (.tup (.cons (.str "var") (.cons (.str "f") .nil))) (.cons (.tup (.cons (.str "op") (.cons (.str "-") (.cons (.tup (.cons (.str "var") (.cons (.var 4) .nil))) (.cons (.tup (.cons (.str "int") (.cons (.int 1) .nil))) .nil))))) .nil)))) (.cons (.var 5) .nil))) (.call "_law_take" (.cons (.var 0) (.cons (.int 2) .nil)))) .nil))))) .nil))))))
 .skip)) .skip)
 (.seq (.ite (.cmp .lt (.var 3) (.int 8)) (.seq (.ret (.tup (.cons (.str "let") (.cons (.var 4) (.cons (.call "_law_program" (.cons (.var 0) (.cons (.var 1) (.cons (.op .sub (.var 2) (.int 1)) .nil)))) (.cons (.call "_law_program" (.cons (.var 0) (.cons (.op .add (.var 1) (.lst (.cons (.var 4) .nil))) (.cons (.op .sub (.var 2) (.int 1)) .nil)))) .nil))))))
 .skip) .skip)
 (.seq (.ite (.cmp .eq (.var 3) (.int 8)) (.seq (.ret (.tup (.cons (.str "app") (.cons (.ite (.cmp .eq (.call "_law_take" (.cons (.var 0) (.cons (.int 2) .nil))) (.int 0)) (.tup (.cons (.str "lam") (.cons (.var 4) (.cons (.call "_law_program" (.cons (.var 0) (.cons (.op .add (.var 1) (.lst (.cons (.var 4) .nil))) (.cons (.op .sub (.var 2) (.int 1)) .nil)))) .nil)))) (.call "_law_program" (.cons (.var 0) (.cons (.var 1) (.cons (.op .sub (.var 2) (.int 1)) .nil))))) (.cons (.call "_law_program" (.cons (.var 0) (.cons (.var 1) (.cons (.op .sub (.var 2) (.int 1)) .nil)))) .nil)))))
 .skip) .skip)
 (.seq (.ite (.cmp .eq (.var 3) (.int 9)) (.seq (.ret (.tup (.cons (.str "if") (.cons (.tup (.cons (.str "op") (.cons (.str "<") (.cons (.call "_law_program" (.cons (.var 0) (.cons (.var 1) (.cons (.op .sub (.var 2) (.int 2)) .nil)))) (.cons (.call "_law_program" (.cons (.var 0) (.cons (.var 1) (.cons (.op .sub (.var 2) (.int 2)) .nil)))) .nil))))) (.cons (.call "_law_program" (.cons (.var 0) (.cons (.var 1) (.cons (.op .sub (.var 2) (.int 1)) .nil)))) (.cons (.call "_law_program" (.cons (.var 0) (.cons (.var 1) (.cons (.op .sub (.var 2) (.int 1)) .nil)))) .nil))))))
 .skip) .skip)
 (.seq (.ite (.cmp .eq (.var 3) (.int 10)) (.seq (.ret (.tup (.cons (.str "op") (.cons (.ix (.lst (.cons (.str "+") (.cons (.str "-") (.cons (.str "*") (.cons (.str "==") (.cons (.str "<") .nil)))))) (.call "_law_take" (.cons (.var 0) (.cons (.int 5) .nil)))) (.cons (.call "_law_program" (.cons (.var 0) (.cons (.var 1) (.cons (.op .sub (.var 2) (.int 1)) .nil)))) (.cons (.call "_law_program" (.cons (.var 0) (.cons (.var 1) (.cons (.op .sub (.var 2) (.int 1)) .nil)))) .nil))))))
 .skip) .skip)
 (.seq (.ret (.tup (.cons (.str "if") (.cons (.call "_law_program" (.cons (.var 0) (.cons (.var 1) (.cons (.op .sub (.var 2) (.int 1)) .nil)))) (.cons (.call "_law_program" (.cons (.var 0) (.cons (.var 1) (.cons (.op .sub (.var 2) (.int 1)) .nil)))) (.cons (.call "_law_program" (.cons (.var 0) (.cons (.var 1) (.cons (.op .sub (.var 2) (.int 1)) .nil)))) .nil))))))
 .skip))))))))))))⟩
def ns_19 : List PySem.Str := ["tape", "names", "depth", "kind", "name", "body"]
/-- _law_parts(t) -/
def fn_20 : Fd := ⟨1, 8,
 (.seq (.set 1 (.ix (.var 0) (.int 0)))
 (.seq (.ite (.cmp .mem (.var 1) (.tup (.cons (.str "int") (.cons (.str "bool") (.cons (.str "unit") (.cons (.str "var") (.cons (.str "hole") .nil))))))) (.seq (.ret (.lst .nil))
 .skip) .skip)
 (.seq (.ite (.cmp .mem (.var 1) (.tup (.cons (.str "lam") (.cons (.str "fix") .nil)))) (.seq (.ret (.lst (.cons (.ix (.var 0) (.neg (.int 1))) .nil)))
 .skip) .skip)
 (.seq (.ite (.cmp .mem (.var 1) (.tup (.cons (.str "let") (.cons (.str "op") .nil)))) (.seq (.ret (.lst (.cons (.ix (.var 0) (.int 2)) (.cons (.ix (.var 0) (.int 3)) .nil))))
 .skip) .skip)
 (.seq (.ite (.cmp .eq (.var 1) (.str "con")) (.seq (.ret (.bi "list" (.cons (.ix (.var 0) (.int 2)) .nil)))
 .skip) .skip)
 (.seq (.ite (.cmp .eq (.var 1) (.str "record")) (.seq (.ret (.lc (.tu (.cons (.nm 2) (.cons (.nm 3) .nil))) (.wk (.ix (.var 0) (.int 1))) .nil (.var 3) [2, 3]))
 .skip) .skip)
 (.seq (.ite (.cmp .eq (.var 1) (.str "match")) (.seq (.ret (.op .add (.lst (.cons (.ix (.var 0) (.int 1)) .nil)) (.lc (.tu (.cons (.nm 4) (.cons (.nm 5) (.cons (.nm 6) .nil)))) (.wk (.ix (.var 0) (.int 2))) .nil (.var 6) [4, 5, 6])))
 .skip) .skip)
 (.seq (.ite (.or (.cmp .eq (.var 1) (.str "try")) (.cmp .eq (.var 1) (.str "extend"))) (.seq (.ret (.lst (.cons (.ix (.var 0) (.int 1)) (.cons (.ix (.var 0) (.int 3)) .nil))))
 .skip) .skip)
 (.seq (.ite (.cmp .eq (.var 1) (.str "handle")) (.seq (.ret (.op .add (.lst (.cons (.ix (.var 0) (.int 1)) (.cons (.ix (.var 0) (.int 3)) .nil))) (.lc (.nm 7) (.wk (.ix (.var 0) (.int 4))) .nil (.ix (.var 7) (.int 3)) [7])))
 .skip) .skip)
 (.seq (.ite (.cmp .eq (.var 1) (.str "perform")) (.seq (.ret (.lst (.cons (.ix (.var 0) (.int 2)) .nil)))
 .skip) .skip)
 (.seq (.ret (.ite (.cmp .eq (.var 1) (.str "field")) (.lst (.cons (.ix (.var 0) (.int 1)) .nil)) (.bi "list" (.cons (.sl (.var 0) (.cons (.int 1) .nil) .nil) .nil))))
 .skip)))))))))))⟩
def ns_20 : List PySem.Str := ["t", "word", "label", "part", "case", "names", "body", "clause"]
/-- _law_bound(t, k) -/
def fn_21 : Fd := ⟨2, 3,
 (.seq (.set 2 (.ix (.var 0) (.int 0)))
 (.seq (.ite (.cmp .mem (.var 2) (.tup (.cons (.str "lam") (.cons (.str "fix") .nil)))) (.seq (.ret (.bi "list" (.cons (.sl (.var 0) (.cons (.int 1) .nil) (.cons (.neg (.int 1)) .nil)) .nil)))
 .skip) .skip)
 (.seq (.ite (.cmp .eq (.var 2) (.str "let")) (.seq (.ret (.ite (.cmp .eq (.var 1) (.int 1)) (.lst (.cons (.ix (.var 0) (.int 1)) .nil)) (.lst .nil)))
 .skip) .skip)
 (.seq (.ite (.cmp .eq (.var 2) (.str "match")) (.seq (.ret (.ite (.cmp .gt (.var 1) (.int 0)) (.bi "list" (.cons (.ix (.ix (.ix (.var 0) (.int 2)) (.op .sub (.var 1) (.int 1))) (.int 1)) .nil)) (.lst .nil)))
 .skip) .skip)
 (.seq (.ite (.cmp .eq (.var 2) (.str "try")) (.seq (.ret (.ite (.cmp .eq (.var 1) (.int 1)) (.lst (.cons (.ix (.var 0) (.int 2)) .nil)) (.lst .nil)))
 .skip) .skip)
 (.seq (.ite (.and (.cmp .eq (.var 2) (.str "handle")) (.cmp .gt (.var 1) (.int 0))) (.seq (.ret (.ite (.cmp .eq (.var 1) (.int 1)) (.lst (.cons (.ix (.var 0) (.int 2)) .nil)) (.bi "list" (.cons (.sl (.ix (.ix (.var 0) (.int 4)) (.op .sub (.var 1) (.int 2))) (.cons (.int 1) .nil) (.cons (.int 3) .nil)) .nil))))
 .skip) .skip)
 (.seq (.ret (.lst .nil))
 .skip)))))))⟩
def ns_21 : List PySem.Str := ["t", "k", "word"]
/-- _law_with(t, parts) -/
def fn_22 : Fd := ⟨2, 4,
 (.seq (.set 2 (.ix (.var 0) (.int 0)))
 (.seq (.ite (.cmp .mem (.var 2) (.tup (.cons (.str "int") (.cons (.str "bool") (.cons (.str "unit") (.cons (.str "var") (.cons (.str "hole") .nil))))))) (.seq (.ret (.var 0))
 .skip) .skip)
 (.seq (.ite (.cmp .mem (.var 2) (.tup (.cons (.str "lam") (.cons (.str "fix") .nil)))) (.seq (.ret (.op .add (.sl (.var 0) .nil (.cons (.neg (.int 1)) .nil)) (.tup (.cons (.ix (.var 1) (.int 0)) .nil))))
 .skip) .skip)
 (.seq (.ite (.cmp .mem (.var 2) (.tup (.cons (.str "let") (.cons (.str "op") (.cons (.str "perform") .nil))))) (.seq (.ret (.op .add (.sl (.var 0) .nil (.cons (.int 2) .nil)) (.bi "tuple" (.cons (.var 1) .nil))))
 .skip) .skip)
 (.seq (.ite (.cmp .eq (.var 2) (.str "con")) (.seq (.ret (.op .add (.sl (.var 0) .nil (.cons (.int 2) .nil)) (.tup (.cons (.bi "tuple" (.cons (.var 1) .nil)) .nil))))
 .skip) .skip)
 (.seq (.ite (.cmp .eq (.var 2) (.str "record")) (.seq (.ret (.tup (.cons (.var 2) (.cons (.bi "tuple" (.cons (.lc (.nm 3) (.rng (.cons (.bi "len" (.cons (.var 1) .nil)) .nil)) .nil (.tup (.cons (.ix (.ix (.ix (.var 0) (.int 1)) (.var 3)) (.int 0)) (.cons (.ix (.var 1) (.var 3)) .nil))) [3]) .nil)) .nil))))
 .skip) .skip)
 (.seq (.ite (.cmp .eq (.var 2) (.str "match")) (.seq (.ret (.tup (.cons (.var 2) (.cons (.ix (.var 1) (.int 0)) (.cons (.bi "tuple" (.cons (.lc (.nm 3) (.rng (.cons (.bi "len" (.cons (.ix (.var 0) (.int 2)) .nil)) .nil)) .nil (.op .add (.sl (.ix (.ix (.var 0) (.int 2)) (.var 3)) .nil (.cons (.int 2) .nil)) (.tup (.cons (.ix (.var 1) (.op .add (.var 3) (.int 1))) .nil))) [3]) .nil)) .nil)))))
 .skip) .skip)
 (.seq (.ite (.cmp .mem (.var 2) (.tup (.cons (.str "try") (.cons (.str "extend") .nil)))) (.seq (.ret (.tup (.cons (.var 2) (.cons (.ix (.var 1) (.int 0)) (.cons (.ix (.var 0) (.int 2)) (.cons (.ix (.var 1) (.int 1)) .nil))))))
 .skip) .skip)
 (.seq (.ite (.cmp .eq (.var 2) (.str "handle")) (.seq (.ret (.tup (.cons (.var 2) (.cons (.ix (.var 1) (.int 0)) (.cons (.ix (.var 0) (.int 2)) (.cons (.ix (.var 1) (.int 1)) (.cons (.bi "tuple" (.cons (.lc (.nm 3) (.rng (.cons (.bi "len" (.cons (.ix (.var 0) (.int 4)) .nil)) .nil)) .nil (.op .add (.sl (.ix (.ix (.var 0) (.int 4)) (.var 3)) .nil (.cons (.int 3) .nil)) (.tup (.cons (.ix (.var 1) (.op .add (.var 3) (.int 2))) .nil))) [3]) .nil)) .nil)))))))
 .skip) .skip)
 (.seq (.ret (.ite (.cmp .eq (.var 2) (.str "field")) (.tup (.cons (.var 2) (.cons (.ix (.var 1) (.int 0)) (.cons (.ix (.var 0) (.int 2)) .nil)))) (.op .add (.tup (.cons (.var 2) .nil)) (.bi "tuple" (.cons (.var 1) .nil)))))
 .skip))))))))))⟩
def ns_22 : List PySem.Str := ["t", "parts", "word", "k"]
/-- _law_paths(t) -/
def fn_23 : Fd := ⟨1, 5,
 (.seq (.set 1 (.lst (.cons (.tup .nil) .nil)))
 (.seq (.set 2 (.call "_law_parts" (.cons (.var 0) .nil)))
 (.seq (.for (.nm 3) (.rng (.cons (.bi "len" (.cons (.var 2) .nil)) .nil)) (.seq (.set 1 (.op .add (.var 1) (.lc (.nm 4) (.wk (.call "_law_paths" (.cons (.ix (.var 2) (.var 3)) .nil))) .nil (.op .add (.tup (.cons (.var 3) .nil)) (.var 4)) [4])))
 .skip))
 (.seq (.ret (.var 1))
 .skip))))⟩
def ns_23 : List PySem.Str := ["t", "found", "parts", "k", "path"]
/-- _law_at(t, path) -/
def fn_24 : Fd := ⟨2, 3,
 (.seq (.for (.nm 2) (.wk (.var 1)) (.seq (.set 0 (.ix (.call "_law_parts" (.cons (.var 0) .nil)) (.var 2)))
 .skip))
 (.seq (.ret (.var 0))
 .skip))⟩
def ns_24 : List PySem.Str := ["t", "path", "k"]
/-- _law_set(t, path, new) -/
def fn_25 : Fd := ⟨3, 4,
 (.seq (.ite (.cmp .eq (.var 1) (.tup .nil)) (.seq (.ret (.var 2))
 .skip) .skip)
 (.seq (.set 3 (.call "_law_parts" (.cons (.var 0) .nil)))
 (.seq (.sub (.var 3) (.ix (.var 1) (.int 0)) (.call "_law_set" (.cons (.ix (.var 3) (.ix (.var 1) (.int 0))) (.cons (.sl (.var 1) (.cons (.int 1) .nil) .nil) (.cons (.var 2) .nil)))))
 (.seq (.ret (.call "_law_with" (.cons (.var 0) (.cons (.var 3) .nil))))
 .skip))))⟩
def ns_25 : List PySem.Str := ["t", "path", "new", "parts"]
/-- _law_free(t) -/
def fn_26 : Fd := ⟨1, 5,
 (.seq (.ite (.cmp .eq (.ix (.var 0) (.int 0)) (.str "var")) (.seq (.ret (.lst (.cons (.ix (.var 0) (.int 1)) .nil)))
 .skip) .skip)
 (.seq (.set 1 (.lst .nil))
 (.seq (.set 2 (.call "_law_parts" (.cons (.var 0) .nil)))
 (.seq (.for (.nm 3) (.rng (.cons (.bi "len" (.cons (.var 2) .nil)) .nil)) (.seq (.set 1 (.op .add (.var 1) (.lc (.nm 4) (.wk (.call "_law_free" (.cons (.ix (.var 2) (.var 3)) .nil))) (.cons (.and (.cmp .nmem (.var 4) (.call "_law_bound" (.cons (.var 0) (.cons (.var 3) .nil)))) (.cmp .nmem (.var 4) (.var 1))) .nil) (.var 4) [4])))
 .skip))
 (.seq (.ret (.var 1))
 .skip)))))⟩
def ns_26 : List PySem.Str := ["t", "found", "parts", "k", "name"]
/-- _law_put(t, values) -/
def fn_27 : Fd := ⟨2, 7,
 (.seq (.ite (.cmp .eq (.ix (.var 0) (.int 0)) (.str "var")) (.seq (.ret (.mth "get" (.var 1) (.cons (.ix (.var 0) (.int 1)) (.cons (.var 0) .nil))))
 .skip) .skip)
 (.seq (.set 2 (.call "_law_parts" (.cons (.var 0) .nil)))
 (.seq (.set 3 (.lst .nil))
 (.seq (.for (.nm 4) (.rng (.cons (.bi "len" (.cons (.var 2) .nil)) .nil)) (.seq (.set 5 (.bi "dict" (.cons (.var 1) .nil)))
 (.seq (.for (.nm 6) (.wk (.call "_law_bound" (.cons (.var 0) (.cons (.var 4) .nil)))) (.seq (.ex (.mth "pop" (.var 5) (.cons (.var 6) (.cons .non .nil))))
 .skip))
 (.seq (.ex (.mth "append" (.var 3) (.cons (.call "_law_put" (.cons (.ix (.var 2) (.var 4)) (.cons (.var 5) .nil))) .nil)))
 .skip))))
 (.seq (.ret (.call "_law_with" (.cons (.var 0) (.cons (.var 3) .nil))))
 .skip)))))⟩
def ns_27 : List PySem.Str := ["t", "values", "parts", "made", "k", "inner", "name"]
/-- law(script) -/
def fn_28 : Fd := ⟨1, 8,
 (.seq (.set 1 (.call "_law_tape" (.cons (.var 0) .nil)))
 (.seq (.for (.nm 2) (.rng (.cons (.int 4) .nil)) (.seq (.set 3 (.call "_law_program" (.cons (.var 1) (.cons (.lst (.cons (.str "x") (.cons (.str "c") (.cons (.str "w") .nil)))) (.cons (.int 4) .nil)))))
 (.seq (.set 4 (.call "_law_paths" (.cons (.var 3) .nil)))
 (.seq (.ite (.or (.not (.call "_law_same" (.cons (.call "parts_of" (.cons (.var 3) .nil)) (.cons (.call "_law_parts" (.cons (.var 3) .nil)) .nil)))) (.or (.not (.call "_law_same" (.cons (.call "paths_of" (.cons (.var 3) .nil)) (.cons (.var 4) .nil)))) (.cmp .ne (.call "size" (.cons (.var 3) .nil)) (.bi "len" (.cons (.var 4) .nil))))) (.seq (.ret (.bl false))
 .skip) .skip)
 (.seq (.ite (.not (.call "_law_same" (.cons (.bi "sorted" (.cons (.call "free_names" (.cons (.var 3) .nil)) .nil)) (.cons (.bi "sorted" (.cons (.call "_law_free" (.cons (.var 3) .nil)) .nil)) .nil)))) (.seq (.ret (.bl false))
 .skip) .skip)
 (.seq (.set 5 (.ix (.var 4) (.call "_law_take" (.cons (.var 1) (.cons (.bi "len" (.cons (.var 4) .nil)) .nil)))))
 (.seq (.set 6 (.call "_law_program" (.cons (.var 1) (.cons (.lst (.cons (.str "y") .nil)) (.cons (.int 1) .nil)))))
 (.seq (.ite (.or (.not (.call "_law_same" (.cons (.call "part_at" (.cons (.var 3) (.cons (.var 5) .nil))) (.cons (.call "_law_at" (.cons (.var 3) (.cons (.var 5) .nil))) .nil)))) (.or (.cmp .isnt (.call "part_at" (.cons (.var 3) (.cons (.op .add (.var 5) (.tup (.cons (.int 9) .nil))) .nil))) .non) (.not (.call "_law_same" (.cons (.call "with_part" (.cons (.var 3) (.cons (.var 5) (.cons (.var 6) .nil)))) (.cons (.call "_law_set" (.cons (.var 3) (.cons (.var 5) (.cons (.var 6) .nil)))) .nil)))))) (.seq (.ret (.bl false))
 .skip) .skip)
 (.seq (.set 7 (.dct (.cons (.str "x") (.cons (.tup (.cons (.str "int") (.cons (.int 5) .nil))) (.cons (.str "w") (.cons (.tup (.cons (.str "lam") (.cons (.str "x") (.cons (.tup (.cons (.str "var") (.cons (.str "x") .nil))) .nil)))) (.cons (.str "h") (.cons (.tup (.cons (.str "unit") .nil)) (.cons (.str "k") (.cons (.tup (.cons (.str "bool") (.cons (.bl true) .nil))) .nil))))))))))
 (.seq (.ite (.or (.not (.call "_law_same" (.cons (.call "put_in" (.cons (.var 3) (.cons (.var 7) .nil))) (.cons (.call "_law_put" (.cons (.var 3) (.cons (.var 7) .nil))) .nil)))) (.cmp .ne (.call "put_in" (.cons (.var 3) (.cons (.dct .nil) .nil))) (.var 3))) (.seq (.ret (.bl false))
 .skip) .skip)
 .skip))))))))))
 (.seq (.ret (.bl true))
 .skip)))⟩
def ns_28 : List PySem.Str := ["script", "tape", "turn", "t", "every", "path", "new", "values"]
def pg : Pg := fun f => match f with
  | "parts_of" => some fn_1
  | "with_parts" => some fn_2
  | "bound_in" => some fn_3
  | "free_names" => some fn_4
  | "put_in" => some fn_5
  | "size" => some fn_6
  | "part_at" => some fn_7
  | "with_part" => some fn_8
  | "paths_of" => some fn_9
  | "_law_tape" => some fn_11
  | "_law_take" => some fn_12
  | "_law_is_integer" => some fn_13
  | "_law_same_items" => some fn_14
  | "_law_same" => some fn_15
  | "_law_leaf" => some fn_16
  | "_law_effect" => some fn_17
  | "_law_shape" => some fn_18
  | "_law_program" => some fn_19
  | "_law_parts" => some fn_20
  | "_law_bound" => some fn_21
  | "_law_with" => some fn_22
  | "_law_paths" => some fn_23
  | "_law_at" => some fn_24
  | "_law_set" => some fn_25
  | "_law_free" => some fn_26
  | "_law_put" => some fn_27
  | "law" => some fn_28
  | _ => none
end K01

/-! ## K01P -/
namespace K01
open Ev
/-- a part's own data -/
inductive Kd where
  | int (i : Int) | bool (b : Bool) | unit | var (x : String) | nil
  | lam (x : String) | raise | ref | get | fst | snd | fix (x : String) | perform (o : String) | field (l : String) | yes | rec1 (l : String)
  | app | pair | set | lett (x : String) | op (o : String) | tryy | extend (l : String) | cons | rec2 (l m : String) | h0
  | iff | mtl | mto | h1 (o : String) | h2 (o p : String) | h3 (o p q : String)
def ar : Kd → Nat
  | .int _ | .bool _ | .unit | .var _ | .nil => 0
  | .lam _ | .raise | .ref | .get | .fst | .snd | .fix _ | .perform _ | .field _ | .yes | .rec1 _ => 1
  | .app | .pair | .set | .lett _ | .op _ | .tryy | .extend _ | .cons | .rec2 _ _ | .h0 => 2
  | .iff | .mtl | .mto | .h1 _ => 3
  | .h2 _ _ => 4
  | .h3 _ _ _ => 5
def g0 (ps : List D) : D := ps.getD 0 .non
def g1 (ps : List D) : D := ps.getD 1 .non
def g2 (ps : List D) : D := ps.getD 2 .non
def g3 (ps : List D) : D := ps.getD 3 .non
def g4 (ps : List D) : D := ps.getD 4 .non
def cz (o : String) (d : D) : D := .tup [.str o, .str "a", .str "k", d]
def mk : Kd → List D → D
  | .int i, _ => .tup [.str "int", .int i]
  | .bool b, _ => .tup [.str "bool", .bl b]
  | .unit, _ => .tup [.str "unit"]
  | .var x, _ => .tup [.str "var", .str x]
  | .nil, _ => .tup [.str "con", .str "Nil", .tup []]
  | .lam x, ps => .tup [.str "lam", .str x, g0 ps]
  | .raise, ps => .tup [.str "raise", g0 ps]
  | .ref, ps => .tup [.str "ref", g0 ps]
  | .get, ps => .tup [.str "get", g0 ps]
  | .fst, ps => .tup [.str "fst", g0 ps]
  | .snd, ps => .tup [.str "snd", g0 ps]
  | .fix x, ps => .tup [.str "fix", .str "f", .str x, g0 ps]
  | .perform o, ps => .tup [.str "perform", .str o, g0 ps]
  | .field l, ps => .tup [.str "field", g0 ps, .str l]
  | .yes, ps => .tup [.str "con", .str "Yes", .tup [g0 ps]]
  | .rec1 l, ps => .tup [.str "record", .tup [.tup [.str l, g0 ps]]]
  | .app, ps => .tup [.str "app", g0 ps, g1 ps]
  | .pair, ps => .tup [.str "pair", g0 ps, g1 ps]
  | .set, ps => .tup [.str "set", g0 ps, g1 ps]
  | .lett x, ps => .tup [.str "let", .str x, g0 ps, g1 ps]
  | .op o, ps => .tup [.str "op", .str o, g0 ps, g1 ps]
  | .tryy, ps => .tup [.str "try", g0 ps, .str "e", g1 ps]
  | .extend l, ps => .tup [.str "extend", g0 ps, .str l, g1 ps]
  | .cons, ps => .tup [.str "con", .str "Cons", .tup [g0 ps, g1 ps]]
  | .rec2 l m, ps => .tup [.str "record", .tup [.tup [.str l, g0 ps], .tup [.str m, g1 ps]]]
  | .h0, ps => .tup [.str "handle", g0 ps, .str "r", g1 ps, .tup []]
  | .iff, ps => .tup [.str "if", g0 ps, g1 ps, g2 ps]
  | .mtl, ps => .tup [.str "match", g0 ps, .tup [.tup [.str "Nil", .tup [], g1 ps], .tup [.str "Cons", .tup [.str "h", .str "t"], g2 ps]]]
  | .mto, ps => .tup [.str "match", g0 ps, .tup [.tup [.str "No", .tup [], g1 ps], .tup [.str "Yes", .tup [.str "q"], g2 ps]]]
  | .h1 o, ps => .tup [.str "handle", g0 ps, .str "r", g1 ps, .tup [cz o (g2 ps)]]
  | .h2 o p, ps => .tup [.str "handle", g0 ps, .str "r", g1 ps, .tup [cz o (g2 ps), cz p (g3 ps)]]
  | .h3 o p q, ps => .tup [.str "handle", g0 ps, .str "r", g1 ps, .tup [cz o (g2 ps), cz p (g3 ps), cz q (g4 ps)]]
/-- the names that a part binds -/
def bd : Kd → Nat → List String
  | .lam x, _ => [x]
  | .fix x, _ => ["f", x]
  | .lett x, i => if i = 1 then [x] else []
  | .mtl, i => if i = 2 then ["h", "t"] else []
  | .mto, i => if i = 2 then ["q"] else []
  | .tryy, i => if i = 1 then ["e"] else []
  | .h0, i => if i = 1 then ["r"] else []
  | .h1 _, i => if i = 0 then [] else if i = 1 then ["r"] else ["a", "k"]
  | .h2 _ _, i => if i = 0 then [] else if i = 1 then ["r"] else ["a", "k"]
  | .h3 _ _ _, i => if i = 0 then [] else if i = 1 then ["r"] else ["a", "k"]
  | _, _ => []
/-- a new list with these items -/
def NL (A : AH) (r : Res D) (xs : List D) : Prop := wR r fun d A' => ∃ B, Kp A B ∧ d = .ref B.length ∧ A' = B ++ [.lst xs]
theorem NL.at0 {A : AH} {r : Res D} {xs : List D} (h : r = .ok (.ref A.length) (A ++ [.lst xs])) : NL A r xs := wR_eq h ⟨A, .refl, rfl, rfl⟩
variable {N n : Nat} {A : AH}
/-- two lists, one behind the other -/
theorem nl_cat (k : Nat) {f : String} {fd : Fd} {ds : List D} {F' : Fr} {xs ys : List D} (hf : pg f = some fd) (hl : ds.length = fd.np) (h1 : sx (callF pg N n) N fd.body (startF fd ds) A = sx (callF pg N n) N (drp k fd.body) F' A)
    (h2 : isIteR (drp k fd.body) = true) (h3 : tru (ev (callF pg N n) (iteC (drp k fd.body)) F' A) = .ok true A)
    (h4 : ev (callF pg N n) (iteR (drp k fd.body)) F' A = opB ((A ++ [AO.lst xs]) ++ [AO.lst ys]) .add (.ref A.length) (.ref (A ++ [AO.lst xs]).length)) (hz : xs.length + ys.length ≤ PySem.sizeLine) : NL A (callF pg N (n + 1) f ds A) (xs ++ ys) := by
  show wR _ _
  rw [wR_call hf hl]
  exact ret_at k h1 h2 h3 (wR_eq (h4.trans (opB_cat hz)) ⟨_, Kp.refl.app.app, rfl, rfl⟩)
end K01
namespace K01
open Ev
variable {N n : Nat} {A : AH}
theorem pp_spec : ∀ (k : Kd) (ds : List D), ds.length = ar k → NL A (callF pg N (n + 1) "parts_of" [mk k ds] A) ds
  | .int i, [], _ => .at0 (by kernel_rfl)
  | .bool b, [], _ => .at0 (by kernel_rfl)
  | .unit, [], _ => .at0 (by kernel_rfl)
  | .var x, [], _ => .at0 (by kernel_rfl)
  | .nil, [], _ => .at0 (by kernel_rfl)
  | .lam x, [a], _ => .at0 (by kernel_rfl)
  | .raise, [a], _ => .at0 (by kernel_rfl)
  | .ref, [a], _ => .at0 (by kernel_rfl)
  | .get, [a], _ => .at0 (by kernel_rfl)
  | .fst, [a], _ => .at0 (by kernel_rfl)
  | .snd, [a], _ => .at0 (by kernel_rfl)
  | .fix x, [a], _ => .at0 (by kernel_rfl)
  | .perform o, [a], _ => .at0 (by kernel_rfl)
  | .field l, [a], _ => .at0 (by kernel_rfl)
  | .yes, [a], _ => .at0 (by kernel_rfl)
  | .rec1 l, [a], _ => .at0 (by kernel_rfl)
  | .app, [a, b], _ => .at0 (by kernel_rfl)
  | .pair, [a, b], _ => .at0 (by kernel_rfl)
  | .set, [a, b], _ => .at0 (by kernel_rfl)
  | .lett x, [a, b], _ => .at0 (by kernel_rfl)
  | .op o, [a, b], _ => .at0 (by kernel_rfl)
  | .tryy, [a, b], _ => .at0 (by kernel_rfl)
  | .extend l, [a, b], _ => .at0 (by kernel_rfl)
  | .cons, [a, b], _ => .at0 (by kernel_rfl)
  | .rec2 l m, [a, b], _ => .at0 (by kernel_rfl)
  | .h0, [a, b], _ => nl_cat 9 (f := "parts_of") (fd := fn_1) (xs := [a, b]) (ys := []) (F' := [some (mk (.h0) [a, b]), some (.str "handle"), none, none, none, none]) rfl rfl (by kernel_rfl) (by kernel_rfl) (by kernel_rfl) (by kernel_rfl) (by rw [PySem.sizeLine_eq]; simp)
  | .iff, [a, b, c], _ => .at0 (by kernel_rfl)
  | .mtl, [a, b, c], _ => nl_cat 6 (f := "parts_of") (fd := fn_1) (xs := [a]) (ys := [b, c]) (F' := [some (mk (.mtl) [a, b, c]), some (.str "match"), none, none, none, none]) rfl rfl (by kernel_rfl) (by kernel_rfl) (by kernel_rfl) (by kernel_rfl) (by rw [PySem.sizeLine_eq]; simp)
  | .mto, [a, b, c], _ => nl_cat 6 (f := "parts_of") (fd := fn_1) (xs := [a]) (ys := [b, c]) (F' := [some (mk (.mto) [a, b, c]), some (.str "match"), none, none, none, none]) rfl rfl (by kernel_rfl) (by kernel_rfl) (by kernel_rfl) (by kernel_rfl) (by rw [PySem.sizeLine_eq]; simp)
  | .h1 o, [a, b, c], _ => nl_cat 9 (f := "parts_of") (fd := fn_1) (xs := [a, b]) (ys := [c]) (F' := [some (mk (.h1 o) [a, b, c]), some (.str "handle"), none, none, none, none]) rfl rfl (by kernel_rfl) (by kernel_rfl) (by kernel_rfl) (by kernel_rfl) (by rw [PySem.sizeLine_eq]; simp)
  | .h2 o p, [a, b, c, d], _ => nl_cat 9 (f := "parts_of") (fd := fn_1) (xs := [a, b]) (ys := [c, d]) (F' := [some (mk (.h2 o p) [a, b, c, d]), some (.str "handle"), none, none, none, none]) rfl rfl (by kernel_rfl) (by kernel_rfl) (by kernel_rfl) (by kernel_rfl) (by rw [PySem.sizeLine_eq]; simp)
  | .h3 o p q, [a, b, c, d, e], _ => nl_cat 9 (f := "parts_of") (fd := fn_1) (xs := [a, b]) (ys := [c, d, e]) (F' := [some (mk (.h3 o p q) [a, b, c, d, e]), some (.str "handle"), none, none, none, none]) rfl rfl (by kernel_rfl) (by kernel_rfl) (by kernel_rfl) (by kernel_rfl) (by rw [PySem.sizeLine_eq]; simp)
theorem lp_spec : ∀ (k : Kd) (ds : List D), ds.length = ar k → NL A (callF pg N (n + 1) "_law_parts" [mk k ds] A) ds
  | .int i, [], _ => .at0 (by kernel_rfl)
  | .bool b, [], _ => .at0 (by kernel_rfl)
  | .unit, [], _ => .at0 (by kernel_rfl)
  | .var x, [], _ => .at0 (by kernel_rfl)
  | .nil, [], _ => .at0 (by kernel_rfl)
  | .lam x, [a], _ => .at0 (by kernel_rfl)
  | .raise, [a], _ => .at0 (by kernel_rfl)
  | .ref, [a], _ => .at0 (by kernel_rfl)
  | .get, [a], _ => .at0 (by kernel_rfl)
  | .fst, [a], _ => .at0 (by kernel_rfl)
  | .snd, [a], _ => .at0 (by kernel_rfl)
  | .fix x, [a], _ => .at0 (by kernel_rfl)
  | .perform o, [a], _ => .at0 (by kernel_rfl)
  | .field l, [a], _ => .at0 (by kernel_rfl)
  | .yes, [a], _ => .at0 (by kernel_rfl)
  | .rec1 l, [a], _ => .at0 (by kernel_rfl)
  | .app, [a, b], _ => .at0 (by kernel_rfl)
  | .pair, [a, b], _ => .at0 (by kernel_rfl)
  | .set, [a, b], _ => .at0 (by kernel_rfl)
  | .lett x, [a, b], _ => .at0 (by kernel_rfl)
  | .op o, [a, b], _ => .at0 (by kernel_rfl)
  | .tryy, [a, b], _ => .at0 (by kernel_rfl)
  | .extend l, [a, b], _ => .at0 (by kernel_rfl)
  | .cons, [a, b], _ => .at0 (by kernel_rfl)
  | .rec2 l m, [a, b], _ => .at0 (by kernel_rfl)
  | .h0, [a, b], _ => nl_cat 8 (f := "_law_parts") (fd := fn_20) (xs := [a, b]) (ys := []) (F' := [some (mk (.h0) [a, b]), some (.str "handle"), none, none, none, none, none, none]) rfl rfl (by kernel_rfl) (by kernel_rfl) (by kernel_rfl) (by kernel_rfl) (by rw [PySem.sizeLine_eq]; simp)
  | .iff, [a, b, c], _ => .at0 (by kernel_rfl)
  | .mtl, [a, b, c], _ => nl_cat 6 (f := "_law_parts") (fd := fn_20) (xs := [a]) (ys := [b, c]) (F' := [some (mk (.mtl) [a, b, c]), some (.str "match"), none, none, none, none, none, none]) rfl rfl (by kernel_rfl) (by kernel_rfl) (by kernel_rfl) (by kernel_rfl) (by rw [PySem.sizeLine_eq]; simp)
  | .mto, [a, b, c], _ => nl_cat 6 (f := "_law_parts") (fd := fn_20) (xs := [a]) (ys := [b, c]) (F' := [some (mk (.mto) [a, b, c]), some (.str "match"), none, none, none, none, none, none]) rfl rfl (by kernel_rfl) (by kernel_rfl) (by kernel_rfl) (by kernel_rfl) (by rw [PySem.sizeLine_eq]; simp)
  | .h1 o, [a, b, c], _ => nl_cat 8 (f := "_law_parts") (fd := fn_20) (xs := [a, b]) (ys := [c]) (F' := [some (mk (.h1 o) [a, b, c]), some (.str "handle"), none, none, none, none, none, none]) rfl rfl (by kernel_rfl) (by kernel_rfl) (by kernel_rfl) (by kernel_rfl) (by rw [PySem.sizeLine_eq]; simp)
  | .h2 o p, [a, b, c, d], _ => nl_cat 8 (f := "_law_parts") (fd := fn_20) (xs := [a, b]) (ys := [c, d]) (F' := [some (mk (.h2 o p) [a, b, c, d]), some (.str "handle"), none, none, none, none, none, none]) rfl rfl (by kernel_rfl) (by kernel_rfl) (by kernel_rfl) (by kernel_rfl) (by rw [PySem.sizeLine_eq]; simp)
  | .h3 o p q, [a, b, c, d, e], _ => nl_cat 8 (f := "_law_parts") (fd := fn_20) (xs := [a, b]) (ys := [c, d, e]) (F' := [some (mk (.h3 o p q) [a, b, c, d, e]), some (.str "handle"), none, none, none, none, none, none]) rfl rfl (by kernel_rfl) (by kernel_rfl) (by kernel_rfl) (by kernel_rfl) (by rw [PySem.sizeLine_eq]; simp)
end K01

/-! ## K01B -/
namespace K01
open Ev
variable {N n : Nat} {A : AH}
theorem pb_spec : ∀ (k : Kd) (ds : List D) (i : Nat), ds.length = ar k → i < ar k → NL A (callF pg N (n + 1) "bound_in" [mk k ds, .int i] A) ((bd k i).map .str)
  | .int i, [], u_, _, h => absurd h (Nat.not_lt_zero u_)
  | .bool b, [], u_, _, h => absurd h (Nat.not_lt_zero u_)
  | .unit, [], u_, _, h => absurd h (Nat.not_lt_zero u_)
  | .var x, [], u_, _, h => absurd h (Nat.not_lt_zero u_)
  | .nil, [], u_, _, h => absurd h (Nat.not_lt_zero u_)
  | .lam x, [a], u_, _, h => .at0 (by kernel_rfl)
  | .raise, [a], u_, _, h => .at0 (by kernel_rfl)
  | .ref, [a], u_, _, h => .at0 (by kernel_rfl)
  | .get, [a], u_, _, h => .at0 (by kernel_rfl)
  | .fst, [a], u_, _, h => .at0 (by kernel_rfl)
  | .snd, [a], u_, _, h => .at0 (by kernel_rfl)
  | .fix x, [a], u_, _, h => .at0 (by kernel_rfl)
  | .perform o, [a], u_, _, h => .at0 (by kernel_rfl)
  | .field l, [a], u_, _, h => .at0 (by kernel_rfl)
  | .yes, [a], u_, _, h => .at0 (by kernel_rfl)
  | .rec1 l, [a], u_, _, h => .at0 (by kernel_rfl)
  | .app, [a, b], u_, _, h => .at0 (by kernel_rfl)
  | .pair, [a, b], u_, _, h => .at0 (by kernel_rfl)
  | .set, [a, b], u_, _, h => .at0 (by kernel_rfl)
  | .lett x, [a, b], 0, _, h => .at0 (by kernel_rfl)
  | .lett x, [a, b], 1, _, h => .at0 (by kernel_rfl)
  | .lett x, [a, b], j + 2, _, h => absurd h (by show ¬ j + 2 < 2; omega)
  | .op o, [a, b], u_, _, h => .at0 (by kernel_rfl)
  | .tryy, [a, b], 0, _, h => .at0 (by kernel_rfl)
  | .tryy, [a, b], 1, _, h => .at0 (by kernel_rfl)
  | .tryy, [a, b], j + 2, _, h => absurd h (by show ¬ j + 2 < 2; omega)
  | .extend l, [a, b], u_, _, h => .at0 (by kernel_rfl)
  | .cons, [a, b], u_, _, h => .at0 (by kernel_rfl)
  | .rec2 l m, [a, b], u_, _, h => .at0 (by kernel_rfl)
  | .h0, [a, b], 0, _, h => .at0 (by kernel_rfl)
  | .h0, [a, b], 1, _, h => .at0 (by kernel_rfl)
  | .h0, [a, b], j + 2, _, h => absurd h (by show ¬ j + 2 < 2; omega)
  | .iff, [a, b, c], u_, _, h => .at0 (by kernel_rfl)
  | .mtl, [a, b, c], 0, _, h => .at0 (by kernel_rfl)
  | .mtl, [a, b, c], 1, _, h => .at0 (by kernel_rfl)
  | .mtl, [a, b, c], 2, _, h => .at0 (by kernel_rfl)
  | .mtl, [a, b, c], j + 3, _, h => absurd h (by show ¬ j + 3 < 3; omega)
  | .mto, [a, b, c], 0, _, h => .at0 (by kernel_rfl)
  | .mto, [a, b, c], 1, _, h => .at0 (by kernel_rfl)
  | .mto, [a, b, c], 2, _, h => .at0 (by kernel_rfl)
  | .mto, [a, b, c], j + 3, _, h => absurd h (by show ¬ j + 3 < 3; omega)
  | .h1 o, [a, b, c], 0, _, h => .at0 (by kernel_rfl)
  | .h1 o, [a, b, c], 1, _, h => .at0 (by kernel_rfl)
  | .h1 o, [a, b, c], 2, _, h => .at0 (by kernel_rfl)
  | .h1 o, [a, b, c], j + 3, _, h => absurd h (by show ¬ j + 3 < 3; omega)
  | .h2 o p, [a, b, c, d], 0, _, h => .at0 (by kernel_rfl)
  | .h2 o p, [a, b, c, d], 1, _, h => .at0 (by kernel_rfl)
  | .h2 o p, [a, b, c, d], 2, _, h => .at0 (by kernel_rfl)
  | .h2 o p, [a, b, c, d], 3, _, h => .at0 (by kernel_rfl)
  | .h2 o p, [a, b, c, d], j + 4, _, h => absurd h (by show ¬ j + 4 < 4; omega)
  | .h3 o p q, [a, b, c, d, e], 0, _, h => .at0 (by kernel_rfl)
  | .h3 o p q, [a, b, c, d, e], 1, _, h => .at0 (by kernel_rfl)
  | .h3 o p q, [a, b, c, d, e], 2, _, h => .at0 (by kernel_rfl)
  | .h3 o p q, [a, b, c, d, e], 3, _, h => .at0 (by kernel_rfl)
  | .h3 o p q, [a, b, c, d, e], 4, _, h => .at0 (by kernel_rfl)
  | .h3 o p q, [a, b, c, d, e], j + 5, _, h => absurd h (by show ¬ j + 5 < 5; omega)
theorem lb_spec : ∀ (k : Kd) (ds : List D) (i : Nat), ds.length = ar k → i < ar k → NL A (callF pg N (n + 1) "_law_bound" [mk k ds, .int i] A) ((bd k i).map .str)
  | .int i, [], u_, _, h => absurd h (Nat.not_lt_zero u_)
  | .bool b, [], u_, _, h => absurd h (Nat.not_lt_zero u_)
  | .unit, [], u_, _, h => absurd h (Nat.not_lt_zero u_)
  | .var x, [], u_, _, h => absurd h (Nat.not_lt_zero u_)
  | .nil, [], u_, _, h => absurd h (Nat.not_lt_zero u_)
  | .lam x, [a], u_, _, h => .at0 (by kernel_rfl)
  | .raise, [a], u_, _, h => .at0 (by kernel_rfl)
  | .ref, [a], u_, _, h => .at0 (by kernel_rfl)
  | .get, [a], u_, _, h => .at0 (by kernel_rfl)
  | .fst, [a], u_, _, h => .at0 (by kernel_rfl)
  | .snd, [a], u_, _, h => .at0 (by kernel_rfl)
  | .fix x, [a], u_, _, h => .at0 (by kernel_rfl)
  | .perform o, [a], u_, _, h => .at0 (by kernel_rfl)
  | .field l, [a], u_, _, h => .at0 (by kernel_rfl)
  | .yes, [a], u_, _, h => .at0 (by kernel_rfl)
  | .rec1 l, [a], u_, _, h => .at0 (by kernel_rfl)
  | .app, [a, b], u_, _, h => .at0 (by kernel_rfl)
  | .pair, [a, b], u_, _, h => .at0 (by kernel_rfl)
  | .set, [a, b], u_, _, h => .at0 (by kernel_rfl)
  | .lett x, [a, b], 0, _, h => .at0 (by kernel_rfl)
  | .lett x, [a, b], 1, _, h => .at0 (by kernel_rfl)
  | .lett x, [a, b], j + 2, _, h => absurd h (by show ¬ j + 2 < 2; omega)
  | .op o, [a, b], u_, _, h => .at0 (by kernel_rfl)
  | .tryy, [a, b], 0, _, h => .at0 (by kernel_rfl)
  | .tryy, [a, b], 1, _, h => .at0 (by kernel_rfl)
  | .tryy, [a, b], j + 2, _, h => absurd h (by show ¬ j + 2 < 2; omega)
  | .extend l, [a, b], u_, _, h => .at0 (by kernel_rfl)
  | .cons, [a, b], u_, _, h => .at0 (by kernel_rfl)
  | .rec2 l m, [a, b], u_, _, h => .at0 (by kernel_rfl)
  | .h0, [a, b], 0, _, h => .at0 (by kernel_rfl)
  | .h0, [a, b], 1, _, h => .at0 (by kernel_rfl)
  | .h0, [a, b], j + 2, _, h => absurd h (by show ¬ j + 2 < 2; omega)
  | .iff, [a, b, c], u_, _, h => .at0 (by kernel_rfl)
  | .mtl, [a, b, c], 0, _, h => .at0 (by kernel_rfl)
  | .mtl, [a, b, c], 1, _, h => .at0 (by kernel_rfl)
  | .mtl, [a, b, c], 2, _, h => .at0 (by kernel_rfl)
  | .mtl, [a, b, c], j + 3, _, h => absurd h (by show ¬ j + 3 < 3; omega)
  | .mto, [a, b, c], 0, _, h => .at0 (by kernel_rfl)
  | .mto, [a, b, c], 1, _, h => .at0 (by kernel_rfl)
  | .mto, [a, b, c], 2, _, h => .at0 (by kernel_rfl)
  | .mto, [a, b, c], j + 3, _, h => absurd h (by show ¬ j + 3 < 3; omega)
  | .h1 o, [a, b, c], 0, _, h => .at0 (by kernel_rfl)
  | .h1 o, [a, b, c], 1, _, h => .at0 (by kernel_rfl)
  | .h1 o, [a, b, c], 2, _, h => .at0 (by kernel_rfl)
  | .h1 o, [a, b, c], j + 3, _, h => absurd h (by show ¬ j + 3 < 3; omega)
  | .h2 o p, [a, b, c, d], 0, _, h => .at0 (by kernel_rfl)
  | .h2 o p, [a, b, c, d], 1, _, h => .at0 (by kernel_rfl)
  | .h2 o p, [a, b, c, d], 2, _, h => .at0 (by kernel_rfl)
  | .h2 o p, [a, b, c, d], 3, _, h => .at0 (by kernel_rfl)
  | .h2 o p, [a, b, c, d], j + 4, _, h => absurd h (by show ¬ j + 4 < 4; omega)
  | .h3 o p q, [a, b, c, d, e], 0, _, h => .at0 (by kernel_rfl)
  | .h3 o p q, [a, b, c, d, e], 1, _, h => .at0 (by kernel_rfl)
  | .h3 o p q, [a, b, c, d, e], 2, _, h => .at0 (by kernel_rfl)
  | .h3 o p q, [a, b, c, d, e], 3, _, h => .at0 (by kernel_rfl)
  | .h3 o p q, [a, b, c, d, e], 4, _, h => .at0 (by kernel_rfl)
  | .h3 o p q, [a, b, c, d, e], j + 5, _, h => absurd h (by show ¬ j + 5 < 5; omega)
end K01

/-! ## K01W -/
namespace K01
open Ev
variable {N n : Nat} {A : AH}
theorem rng1 : rngD 0 1 = [.int 0] := rfl
theorem rng2 : rngD 0 2 = [.int 0, .int 1] := rfl
theorem rng3 : rngD 0 3 = [.int 0, .int 1, .int 2] := rfl
theorem rng0 : rngD 0 0 = [] := rfl
theorem pw_int {i_ : Int} {z : Nat} (h : A[z]? = some (.lst [])) : wR (callF pg N (n + 1) "with_parts" [mk (.int i_) [], .ref z] A) (fun r_ A' => r_ = mk (.int i_) [] ∧ Kp A A') := by
  have hJ : ∀ J : AH, (A ++ J)[z]? = some (.lst []) := fun J => by rw [List.getElem?_append_left (List.getElem?_eq_some_iff.mp h).1]; exact h
  have hz : z < A.length := (List.getElem?_eq_some_iff.mp h).1
  rw [wR_call (fd := fn_2) rfl rfl]
  exact ret_end 11 (F' := [some (mk (.int i_) []), some (.ref z), some (.str "int"), none, none, none, none, none, none, none]) (by kernel_rfl) rfl (wR_eq (a := mk (.int i_) []) (A := A) (by kernel_rfl) ⟨rfl, Kp.refl⟩)
theorem pw_bool {b_ : Bool} {z : Nat} (h : A[z]? = some (.lst [])) : wR (callF pg N (n + 1) "with_parts" [mk (.bool b_) [], .ref z] A) (fun r_ A' => r_ = mk (.bool b_) [] ∧ Kp A A') := by
  have hJ : ∀ J : AH, (A ++ J)[z]? = some (.lst []) := fun J => by rw [List.getElem?_append_left (List.getElem?_eq_some_iff.mp h).1]; exact h
  have hz : z < A.length := (List.getElem?_eq_some_iff.mp h).1
  rw [wR_call (fd := fn_2) rfl rfl]
  exact ret_end 11 (F' := [some (mk (.bool b_) []), some (.ref z), some (.str "bool"), none, none, none, none, none, none, none]) (by kernel_rfl) rfl (wR_eq (a := mk (.bool b_) []) (A := A) (by kernel_rfl) ⟨rfl, Kp.refl⟩)
theorem pw_unit {z : Nat} (h : A[z]? = some (.lst [])) : wR (callF pg N (n + 1) "with_parts" [mk (.unit) [], .ref z] A) (fun r_ A' => r_ = mk (.unit) [] ∧ Kp A A') := by
  have hJ : ∀ J : AH, (A ++ J)[z]? = some (.lst []) := fun J => by rw [List.getElem?_append_left (List.getElem?_eq_some_iff.mp h).1]; exact h
  have hz : z < A.length := (List.getElem?_eq_some_iff.mp h).1
  rw [wR_call (fd := fn_2) rfl rfl]
  exact ret_end 11 (F' := [some (mk (.unit) []), some (.ref z), some (.str "unit"), none, none, none, none, none, none, none]) (by kernel_rfl) rfl (wR_eq (a := mk (.unit) []) (A := A) (by kernel_rfl) ⟨rfl, Kp.refl⟩)
theorem pw_var {x_ : String} {z : Nat} (h : A[z]? = some (.lst [])) : wR (callF pg N (n + 1) "with_parts" [mk (.var x_) [], .ref z] A) (fun r_ A' => r_ = mk (.var x_) [] ∧ Kp A A') := by
  have hJ : ∀ J : AH, (A ++ J)[z]? = some (.lst []) := fun J => by rw [List.getElem?_append_left (List.getElem?_eq_some_iff.mp h).1]; exact h
  have hz : z < A.length := (List.getElem?_eq_some_iff.mp h).1
  rw [wR_call (fd := fn_2) rfl rfl]
  exact ret_end 11 (F' := [some (mk (.var x_) []), some (.ref z), some (.str "var"), none, none, none, none, none, none, none]) (by kernel_rfl) rfl (wR_eq (a := mk (.var x_) []) (A := A) (by kernel_rfl) ⟨rfl, Kp.refl⟩)
theorem pw_nil {z : Nat} (h : A[z]? = some (.lst [])) : wR (callF pg N (n + 1) "with_parts" [mk (.nil) [], .ref z] A) (fun r_ A' => r_ = mk (.nil) [] ∧ Kp A A') := by
  have hJ : ∀ J : AH, (A ++ J)[z]? = some (.lst []) := fun J => by rw [List.getElem?_append_left (List.getElem?_eq_some_iff.mp h).1]; exact h
  have hz : z < A.length := (List.getElem?_eq_some_iff.mp h).1
  rw [wR_call (fd := fn_2) rfl rfl]
  refine ite_at 5 (F' := [some (mk (.nil) []), some (.ref z), some (.str "con"), none, none, none, none, none, none, none]) (by kernel_rfl) (by kernel_rfl) (by kernel_rfl) ?_
  simp [drp, fn_2, iteA, ev, evs, evo, evw, evc, wkZip, wkOf, wkRng, rng0, rng1, rng2, rng3, small, zipD, unlR, unlockA, lockA, lcL, gOk, asgT, asgTs, nox, bnd, ofO, wR_ok, wR_some, wR_bnd, wS_seq, wS_set, wS_ret, fset, wipeF, opI, opS, cutD, opB, seqL, dctL, h, hJ, biF, biTuple, biLen, L2.atI, L2.ixN, HT.sIx, mk, cz, g0, g1, g2, g3, g4, PySem.sizeLine_eq, Kp.refl, Kp.app]
theorem pw_lam {x_ : String} {p0 a : D} {z : Nat} (h : A[z]? = some (.lst [a])) : wR (callF pg N (n + 1) "with_parts" [mk (.lam x_) [p0], .ref z] A) (fun r_ A' => r_ = mk (.lam x_) [a] ∧ Kp A A') := by
  have hJ : ∀ J : AH, (A ++ J)[z]? = some (.lst [a]) := fun J => by rw [List.getElem?_append_left (List.getElem?_eq_some_iff.mp h).1]; exact h
  have hz : z < A.length := (List.getElem?_eq_some_iff.mp h).1
  rw [wR_call (fd := fn_2) rfl rfl]
  refine ite_at 1 (F' := [some (mk (.lam x_) [p0]), some (.ref z), some (.str "lam"), none, none, none, none, none, none, none]) (by kernel_rfl) (by kernel_rfl) (by kernel_rfl) ?_
  simp [drp, fn_2, iteA, ev, evs, evo, evw, evc, wkZip, wkOf, wkRng, rng0, rng1, rng2, rng3, small, zipD, unlR, unlockA, lockA, lcL, gOk, asgT, asgTs, nox, bnd, ofO, wR_ok, wR_some, wR_bnd, wS_seq, wS_set, wS_ret, fset, wipeF, opI, opS, cutD, opB, seqL, dctL, h, hJ, biF, biTuple, biLen, L2.atI, L2.ixN, HT.sIx, mk, cz, g0, g1, g2, g3, g4, PySem.sizeLine_eq, Kp.refl, Kp.app]
theorem pw_raise {p0 a : D} {z : Nat} (h : A[z]? = some (.lst [a])) : wR (callF pg N (n + 1) "with_parts" [mk (.raise) [p0], .ref z] A) (fun r_ A' => r_ = mk (.raise) [a] ∧ Kp A A') := by
  have hJ : ∀ J : AH, (A ++ J)[z]? = some (.lst [a]) := fun J => by rw [List.getElem?_append_left (List.getElem?_eq_some_iff.mp h).1]; exact h
  have hz : z < A.length := (List.getElem?_eq_some_iff.mp h).1
  rw [wR_call (fd := fn_2) rfl rfl]
  refine ite_at 1 (F' := [some (mk (.raise) [p0]), some (.ref z), some (.str "raise"), none, none, none, none, none, none, none]) (by kernel_rfl) (by kernel_rfl) (by kernel_rfl) ?_
  simp [drp, fn_2, iteA, ev, evs, evo, evw, evc, wkZip, wkOf, wkRng, rng0, rng1, rng2, rng3, small, zipD, unlR, unlockA, lockA, lcL, gOk, asgT, asgTs, nox, bnd, ofO, wR_ok, wR_some, wR_bnd, wS_seq, wS_set, wS_ret, fset, wipeF, opI, opS, cutD, opB, seqL, dctL, h, hJ, biF, biTuple, biLen, L2.atI, L2.ixN, HT.sIx, mk, cz, g0, g1, g2, g3, g4, PySem.sizeLine_eq, Kp.refl, Kp.app]
theorem pw_ref {p0 a : D} {z : Nat} (h : A[z]? = some (.lst [a])) : wR (callF pg N (n + 1) "with_parts" [mk (.ref) [p0], .ref z] A) (fun r_ A' => r_ = mk (.ref) [a] ∧ Kp A A') := by
  have hJ : ∀ J : AH, (A ++ J)[z]? = some (.lst [a]) := fun J => by rw [List.getElem?_append_left (List.getElem?_eq_some_iff.mp h).1]; exact h
  have hz : z < A.length := (List.getElem?_eq_some_iff.mp h).1
  rw [wR_call (fd := fn_2) rfl rfl]
  refine ite_at 1 (F' := [some (mk (.ref) [p0]), some (.ref z), some (.str "ref"), none, none, none, none, none, none, none]) (by kernel_rfl) (by kernel_rfl) (by kernel_rfl) ?_
  simp [drp, fn_2, iteA, ev, evs, evo, evw, evc, wkZip, wkOf, wkRng, rng0, rng1, rng2, rng3, small, zipD, unlR, unlockA, lockA, lcL, gOk, asgT, asgTs, nox, bnd, ofO, wR_ok, wR_some, wR_bnd, wS_seq, wS_set, wS_ret, fset, wipeF, opI, opS, cutD, opB, seqL, dctL, h, hJ, biF, biTuple, biLen, L2.atI, L2.ixN, HT.sIx, mk, cz, g0, g1, g2, g3, g4, PySem.sizeLine_eq, Kp.refl, Kp.app]
theorem pw_get {p0 a : D} {z : Nat} (h : A[z]? = some (.lst [a])) : wR (callF pg N (n + 1) "with_parts" [mk (.get) [p0], .ref z] A) (fun r_ A' => r_ = mk (.get) [a] ∧ Kp A A') := by
  have hJ : ∀ J : AH, (A ++ J)[z]? = some (.lst [a]) := fun J => by rw [List.getElem?_append_left (List.getElem?_eq_some_iff.mp h).1]; exact h
  have hz : z < A.length := (List.getElem?_eq_some_iff.mp h).1
  rw [wR_call (fd := fn_2) rfl rfl]
  refine ite_at 1 (F' := [some (mk (.get) [p0]), some (.ref z), some (.str "get"), none, none, none, none, none, none, none]) (by kernel_rfl) (by kernel_rfl) (by kernel_rfl) ?_
  simp [drp, fn_2, iteA, ev, evs, evo, evw, evc, wkZip, wkOf, wkRng, rng0, rng1, rng2, rng3, small, zipD, unlR, unlockA, lockA, lcL, gOk, asgT, asgTs, nox, bnd, ofO, wR_ok, wR_some, wR_bnd, wS_seq, wS_set, wS_ret, fset, wipeF, opI, opS, cutD, opB, seqL, dctL, h, hJ, biF, biTuple, biLen, L2.atI, L2.ixN, HT.sIx, mk, cz, g0, g1, g2, g3, g4, PySem.sizeLine_eq, Kp.refl, Kp.app]
theorem pw_fst {p0 a : D} {z : Nat} (h : A[z]? = some (.lst [a])) : wR (callF pg N (n + 1) "with_parts" [mk (.fst) [p0], .ref z] A) (fun r_ A' => r_ = mk (.fst) [a] ∧ Kp A A') := by
  have hJ : ∀ J : AH, (A ++ J)[z]? = some (.lst [a]) := fun J => by rw [List.getElem?_append_left (List.getElem?_eq_some_iff.mp h).1]; exact h
  have hz : z < A.length := (List.getElem?_eq_some_iff.mp h).1
  rw [wR_call (fd := fn_2) rfl rfl]
  refine ite_at 1 (F' := [some (mk (.fst) [p0]), some (.ref z), some (.str "fst"), none, none, none, none, none, none, none]) (by kernel_rfl) (by kernel_rfl) (by kernel_rfl) ?_
  simp [drp, fn_2, iteA, ev, evs, evo, evw, evc, wkZip, wkOf, wkRng, rng0, rng1, rng2, rng3, small, zipD, unlR, unlockA, lockA, lcL, gOk, asgT, asgTs, nox, bnd, ofO, wR_ok, wR_some, wR_bnd, wS_seq, wS_set, wS_ret, fset, wipeF, opI, opS, cutD, opB, seqL, dctL, h, hJ, biF, biTuple, biLen, L2.atI, L2.ixN, HT.sIx, mk, cz, g0, g1, g2, g3, g4, PySem.sizeLine_eq, Kp.refl, Kp.app]
theorem pw_snd {p0 a : D} {z : Nat} (h : A[z]? = some (.lst [a])) : wR (callF pg N (n + 1) "with_parts" [mk (.snd) [p0], .ref z] A) (fun r_ A' => r_ = mk (.snd) [a] ∧ Kp A A') := by
  have hJ : ∀ J : AH, (A ++ J)[z]? = some (.lst [a]) := fun J => by rw [List.getElem?_append_left (List.getElem?_eq_some_iff.mp h).1]; exact h
  have hz : z < A.length := (List.getElem?_eq_some_iff.mp h).1
  rw [wR_call (fd := fn_2) rfl rfl]
  refine ite_at 1 (F' := [some (mk (.snd) [p0]), some (.ref z), some (.str "snd"), none, none, none, none, none, none, none]) (by kernel_rfl) (by kernel_rfl) (by kernel_rfl) ?_
  simp [drp, fn_2, iteA, ev, evs, evo, evw, evc, wkZip, wkOf, wkRng, rng0, rng1, rng2, rng3, small, zipD, unlR, unlockA, lockA, lcL, gOk, asgT, asgTs, nox, bnd, ofO, wR_ok, wR_some, wR_bnd, wS_seq, wS_set, wS_ret, fset, wipeF, opI, opS, cutD, opB, seqL, dctL, h, hJ, biF, biTuple, biLen, L2.atI, L2.ixN, HT.sIx, mk, cz, g0, g1, g2, g3, g4, PySem.sizeLine_eq, Kp.refl, Kp.app]
theorem pw_fix {x_ : String} {p0 a : D} {z : Nat} (h : A[z]? = some (.lst [a])) : wR (callF pg N (n + 1) "with_parts" [mk (.fix x_) [p0], .ref z] A) (fun r_ A' => r_ = mk (.fix x_) [a] ∧ Kp A A') := by
  have hJ : ∀ J : AH, (A ++ J)[z]? = some (.lst [a]) := fun J => by rw [List.getElem?_append_left (List.getElem?_eq_some_iff.mp h).1]; exact h
  have hz : z < A.length := (List.getElem?_eq_some_iff.mp h).1
  rw [wR_call (fd := fn_2) rfl rfl]
  refine ite_at 4 (F' := [some (mk (.fix x_) [p0]), some (.ref z), some (.str "fix"), none, none, none, none, none, none, none]) (by kernel_rfl) (by kernel_rfl) (by kernel_rfl) ?_
  simp [drp, fn_2, iteA, ev, evs, evo, evw, evc, wkZip, wkOf, wkRng, rng0, rng1, rng2, rng3, small, zipD, unlR, unlockA, lockA, lcL, gOk, asgT, asgTs, nox, bnd, ofO, wR_ok, wR_some, wR_bnd, wS_seq, wS_set, wS_ret, fset, wipeF, opI, opS, cutD, opB, seqL, dctL, h, hJ, biF, biTuple, biLen, L2.atI, L2.ixN, HT.sIx, mk, cz, g0, g1, g2, g3, g4, PySem.sizeLine_eq, Kp.refl, Kp.app]
theorem pw_perform {o_ : String} {p0 a : D} {z : Nat} (h : A[z]? = some (.lst [a])) : wR (callF pg N (n + 1) "with_parts" [mk (.perform o_) [p0], .ref z] A) (fun r_ A' => r_ = mk (.perform o_) [a] ∧ Kp A A') := by
  have hJ : ∀ J : AH, (A ++ J)[z]? = some (.lst [a]) := fun J => by rw [List.getElem?_append_left (List.getElem?_eq_some_iff.mp h).1]; exact h
  have hz : z < A.length := (List.getElem?_eq_some_iff.mp h).1
  rw [wR_call (fd := fn_2) rfl rfl]
  have e1 : ∀ A : AH, opC A .eq (.str "perform") (.str "perform") = some true := fun A => by kernel_rfl
  refine ite_at 8 (F' := [some (mk (.perform o_) [p0]), some (.ref z), some (.str "perform"), none, none, none, none, none, none, none]) (by kernel_rfl) (by kernel_rfl) (by kernel_rfl) ?_
  simp [drp, fn_2, iteA, ev, evs, evo, evw, evc, wkZip, wkOf, wkRng, rng0, rng1, rng2, rng3, small, zipD, unlR, unlockA, lockA, lcL, gOk, asgT, asgTs, nox, bnd, ofO, wR_ok, wR_some, wR_bnd, wS_seq, wS_set, wS_ret, fset, wipeF, opI, opS, cutD, opB, seqL, dctL, h, hJ, biF, biTuple, biLen, L2.atI, L2.ixN, HT.sIx, mk, cz, g0, g1, g2, g3, g4, PySem.sizeLine_eq, Kp.refl, Kp.app, tru, truth, e1]
theorem pw_field {l_ : String} {p0 a : D} {z : Nat} (h : A[z]? = some (.lst [a])) : wR (callF pg N (n + 1) "with_parts" [mk (.field l_) [p0], .ref z] A) (fun r_ A' => r_ = mk (.field l_) [a] ∧ Kp A A') := by
  have hJ : ∀ J : AH, (A ++ J)[z]? = some (.lst [a]) := fun J => by rw [List.getElem?_append_left (List.getElem?_eq_some_iff.mp h).1]; exact h
  have hz : z < A.length := (List.getElem?_eq_some_iff.mp h).1
  rw [wR_call (fd := fn_2) rfl rfl]
  have e1 : ∀ A : AH, opC A .eq (.str "field") (.str "perform") = some false := fun A => by kernel_rfl
  refine ite_at 8 (F' := [some (mk (.field l_) [p0]), some (.ref z), some (.str "field"), none, none, none, none, none, none, none]) (by kernel_rfl) (by kernel_rfl) (by kernel_rfl) ?_
  simp [drp, fn_2, iteA, ev, evs, evo, evw, evc, wkZip, wkOf, wkRng, rng0, rng1, rng2, rng3, small, zipD, unlR, unlockA, lockA, lcL, gOk, asgT, asgTs, nox, bnd, ofO, wR_ok, wR_some, wR_bnd, wS_seq, wS_set, wS_ret, fset, wipeF, opI, opS, cutD, opB, seqL, dctL, h, hJ, biF, biTuple, biLen, L2.atI, L2.ixN, HT.sIx, mk, cz, g0, g1, g2, g3, g4, PySem.sizeLine_eq, Kp.refl, Kp.app, tru, truth, e1]
theorem pw_yes {p0 a : D} {z : Nat} (h : A[z]? = some (.lst [a])) : wR (callF pg N (n + 1) "with_parts" [mk (.yes) [p0], .ref z] A) (fun r_ A' => r_ = mk (.yes) [a] ∧ Kp A A') := by
  have hJ : ∀ J : AH, (A ++ J)[z]? = some (.lst [a]) := fun J => by rw [List.getElem?_append_left (List.getElem?_eq_some_iff.mp h).1]; exact h
  have hz : z < A.length := (List.getElem?_eq_some_iff.mp h).1
  rw [wR_call (fd := fn_2) rfl rfl]
  refine ite_at 5 (F' := [some (mk (.yes) [p0]), some (.ref z), some (.str "con"), none, none, none, none, none, none, none]) (by kernel_rfl) (by kernel_rfl) (by kernel_rfl) ?_
  simp [drp, fn_2, iteA, ev, evs, evo, evw, evc, wkZip, wkOf, wkRng, rng0, rng1, rng2, rng3, small, zipD, unlR, unlockA, lockA, lcL, gOk, asgT, asgTs, nox, bnd, ofO, wR_ok, wR_some, wR_bnd, wS_seq, wS_set, wS_ret, fset, wipeF, opI, opS, cutD, opB, seqL, dctL, h, hJ, biF, biTuple, biLen, L2.atI, L2.ixN, HT.sIx, mk, cz, g0, g1, g2, g3, g4, PySem.sizeLine_eq, Kp.refl, Kp.app]
theorem pw_rec1 {l_ : String} {p0 a : D} {z : Nat} (h : A[z]? = some (.lst [a])) : wR (callF pg N (n + 1) "with_parts" [mk (.rec1 l_) [p0], .ref z] A) (fun r_ A' => r_ = mk (.rec1 l_) [a] ∧ Kp A A') := by
  have hJ : ∀ J : AH, (A ++ J)[z]? = some (.lst [a]) := fun J => by rw [List.getElem?_append_left (List.getElem?_eq_some_iff.mp h).1]; exact h
  have hz : z < A.length := (List.getElem?_eq_some_iff.mp h).1
  rw [wR_call (fd := fn_2) rfl rfl]
  refine ite_at 10 (F' := [some (mk (.rec1 l_) [p0]), some (.ref z), some (.str "record"), none, none, none, none, none, none, none]) (by kernel_rfl) (by kernel_rfl) (by kernel_rfl) ?_
  simp [drp, fn_2, iteA, ev, evs, evo, evw, evc, wkZip, wkOf, wkRng, rng0, rng1, rng2, rng3, small, zipD, unlR, unlockA, lockA, lcL, gOk, asgT, asgTs, nox, bnd, ofO, wR_ok, wR_some, wR_bnd, wS_seq, wS_set, wS_ret, fset, wipeF, opI, opS, cutD, opB, seqL, dctL, h, hJ, biF, biTuple, biLen, L2.atI, L2.ixN, HT.sIx, mk, cz, g0, g1, g2, g3, g4, PySem.sizeLine_eq, Kp.refl, Kp.app]
theorem pw_app {p0 p1 a b : D} {z : Nat} (h : A[z]? = some (.lst [a, b])) : wR (callF pg N (n + 1) "with_parts" [mk (.app) [p0, p1], .ref z] A) (fun r_ A' => r_ = mk (.app) [a, b] ∧ Kp A A') := by
  have hJ : ∀ J : AH, (A ++ J)[z]? = some (.lst [a, b]) := fun J => by rw [List.getElem?_append_left (List.getElem?_eq_some_iff.mp h).1]; exact h
  have hz : z < A.length := (List.getElem?_eq_some_iff.mp h).1
  rw [wR_call (fd := fn_2) rfl rfl]
  refine ite_at 2 (F' := [some (mk (.app) [p0, p1]), some (.ref z), some (.str "app"), none, none, none, none, none, none, none]) (by kernel_rfl) (by kernel_rfl) (by kernel_rfl) ?_
  simp [drp, fn_2, iteA, ev, evs, evo, evw, evc, wkZip, wkOf, wkRng, rng0, rng1, rng2, rng3, small, zipD, unlR, unlockA, lockA, lcL, gOk, asgT, asgTs, nox, bnd, ofO, wR_ok, wR_some, wR_bnd, wS_seq, wS_set, wS_ret, fset, wipeF, opI, opS, cutD, opB, seqL, dctL, h, hJ, biF, biTuple, biLen, L2.atI, L2.ixN, HT.sIx, mk, cz, g0, g1, g2, g3, g4, PySem.sizeLine_eq, Kp.refl, Kp.app]
theorem pw_pair {p0 p1 a b : D} {z : Nat} (h : A[z]? = some (.lst [a, b])) : wR (callF pg N (n + 1) "with_parts" [mk (.pair) [p0, p1], .ref z] A) (fun r_ A' => r_ = mk (.pair) [a, b] ∧ Kp A A') := by
  have hJ : ∀ J : AH, (A ++ J)[z]? = some (.lst [a, b]) := fun J => by rw [List.getElem?_append_left (List.getElem?_eq_some_iff.mp h).1]; exact h
  have hz : z < A.length := (List.getElem?_eq_some_iff.mp h).1
  rw [wR_call (fd := fn_2) rfl rfl]
  refine ite_at 2 (F' := [some (mk (.pair) [p0, p1]), some (.ref z), some (.str "pair"), none, none, none, none, none, none, none]) (by kernel_rfl) (by kernel_rfl) (by kernel_rfl) ?_
  simp [drp, fn_2, iteA, ev, evs, evo, evw, evc, wkZip, wkOf, wkRng, rng0, rng1, rng2, rng3, small, zipD, unlR, unlockA, lockA, lcL, gOk, asgT, asgTs, nox, bnd, ofO, wR_ok, wR_some, wR_bnd, wS_seq, wS_set, wS_ret, fset, wipeF, opI, opS, cutD, opB, seqL, dctL, h, hJ, biF, biTuple, biLen, L2.atI, L2.ixN, HT.sIx, mk, cz, g0, g1, g2, g3, g4, PySem.sizeLine_eq, Kp.refl, Kp.app]
theorem pw_set {p0 p1 a b : D} {z : Nat} (h : A[z]? = some (.lst [a, b])) : wR (callF pg N (n + 1) "with_parts" [mk (.set) [p0, p1], .ref z] A) (fun r_ A' => r_ = mk (.set) [a, b] ∧ Kp A A') := by
  have hJ : ∀ J : AH, (A ++ J)[z]? = some (.lst [a, b]) := fun J => by rw [List.getElem?_append_left (List.getElem?_eq_some_iff.mp h).1]; exact h
  have hz : z < A.length := (List.getElem?_eq_some_iff.mp h).1
  rw [wR_call (fd := fn_2) rfl rfl]
  refine ite_at 2 (F' := [some (mk (.set) [p0, p1]), some (.ref z), some (.str "set"), none, none, none, none, none, none, none]) (by kernel_rfl) (by kernel_rfl) (by kernel_rfl) ?_
  simp [drp, fn_2, iteA, ev, evs, evo, evw, evc, wkZip, wkOf, wkRng, rng0, rng1, rng2, rng3, small, zipD, unlR, unlockA, lockA, lcL, gOk, asgT, asgTs, nox, bnd, ofO, wR_ok, wR_some, wR_bnd, wS_seq, wS_set, wS_ret, fset, wipeF, opI, opS, cutD, opB, seqL, dctL, h, hJ, biF, biTuple, biLen, L2.atI, L2.ixN, HT.sIx, mk, cz, g0, g1, g2, g3, g4, PySem.sizeLine_eq, Kp.refl, Kp.app]
theorem pw_lett {x_ : String} {p0 p1 a b : D} {z : Nat} (h : A[z]? = some (.lst [a, b])) : wR (callF pg N (n + 1) "with_parts" [mk (.lett x_) [p0, p1], .ref z] A) (fun r_ A' => r_ = mk (.lett x_) [a, b] ∧ Kp A A') := by
  have hJ : ∀ J : AH, (A ++ J)[z]? = some (.lst [a, b]) := fun J => by rw [List.getElem?_append_left (List.getElem?_eq_some_iff.mp h).1]; exact h
  have hz : z < A.length := (List.getElem?_eq_some_iff.mp h).1
  rw [wR_call (fd := fn_2) rfl rfl]
  refine ite_at 3 (F' := [some (mk (.lett x_) [p0, p1]), some (.ref z), some (.str "let"), none, none, none, none, none, none, none]) (by kernel_rfl) (by kernel_rfl) (by kernel_rfl) ?_
  simp [drp, fn_2, iteA, ev, evs, evo, evw, evc, wkZip, wkOf, wkRng, rng0, rng1, rng2, rng3, small, zipD, unlR, unlockA, lockA, lcL, gOk, asgT, asgTs, nox, bnd, ofO, wR_ok, wR_some, wR_bnd, wS_seq, wS_set, wS_ret, fset, wipeF, opI, opS, cutD, opB, seqL, dctL, h, hJ, biF, biTuple, biLen, L2.atI, L2.ixN, HT.sIx, mk, cz, g0, g1, g2, g3, g4, PySem.sizeLine_eq, Kp.refl, Kp.app]
theorem pw_op {o_ : String} {p0 p1 a b : D} {z : Nat} (h : A[z]? = some (.lst [a, b])) : wR (callF pg N (n + 1) "with_parts" [mk (.op o_) [p0, p1], .ref z] A) (fun r_ A' => r_ = mk (.op o_) [a, b] ∧ Kp A A') := by
  have hJ : ∀ J : AH, (A ++ J)[z]? = some (.lst [a, b]) := fun J => by rw [List.getElem?_append_left (List.getElem?_eq_some_iff.mp h).1]; exact h
  have hz : z < A.length := (List.getElem?_eq_some_iff.mp h).1
  rw [wR_call (fd := fn_2) rfl rfl]
  refine ite_at 3 (F' := [some (mk (.op o_) [p0, p1]), some (.ref z), some (.str "op"), none, none, none, none, none, none, none]) (by kernel_rfl) (by kernel_rfl) (by kernel_rfl) ?_
  simp [drp, fn_2, iteA, ev, evs, evo, evw, evc, wkZip, wkOf, wkRng, rng0, rng1, rng2, rng3, small, zipD, unlR, unlockA, lockA, lcL, gOk, asgT, asgTs, nox, bnd, ofO, wR_ok, wR_some, wR_bnd, wS_seq, wS_set, wS_ret, fset, wipeF, opI, opS, cutD, opB, seqL, dctL, h, hJ, biF, biTuple, biLen, L2.atI, L2.ixN, HT.sIx, mk, cz, g0, g1, g2, g3, g4, PySem.sizeLine_eq, Kp.refl, Kp.app]
theorem pw_tryy {p0 p1 a b : D} {z : Nat} (h : A[z]? = some (.lst [a, b])) : wR (callF pg N (n + 1) "with_parts" [mk (.tryy) [p0, p1], .ref z] A) (fun r_ A' => r_ = mk (.tryy) [a, b] ∧ Kp A A') := by
  have hJ : ∀ J : AH, (A ++ J)[z]? = some (.lst [a, b]) := fun J => by rw [List.getElem?_append_left (List.getElem?_eq_some_iff.mp h).1]; exact h
  have hz : z < A.length := (List.getElem?_eq_some_iff.mp h).1
  rw [wR_call (fd := fn_2) rfl rfl]
  refine ite_at 7 (F' := [some (mk (.tryy) [p0, p1]), some (.ref z), some (.str "try"), none, none, none, none, none, none, none]) (by kernel_rfl) (by kernel_rfl) (by kernel_rfl) ?_
  simp [drp, fn_2, iteA, ev, evs, evo, evw, evc, wkZip, wkOf, wkRng, rng0, rng1, rng2, rng3, small, zipD, unlR, unlockA, lockA, lcL, gOk, asgT, asgTs, nox, bnd, ofO, wR_ok, wR_some, wR_bnd, wS_seq, wS_set, wS_ret, fset, wipeF, opI, opS, cutD, opB, seqL, dctL, h, hJ, biF, biTuple, biLen, L2.atI, L2.ixN, HT.sIx, mk, cz, g0, g1, g2, g3, g4, PySem.sizeLine_eq, Kp.refl, Kp.app]
theorem pw_extend {l_ : String} {p0 p1 a b : D} {z : Nat} (h : A[z]? = some (.lst [a, b])) : wR (callF pg N (n + 1) "with_parts" [mk (.extend l_) [p0, p1], .ref z] A) (fun r_ A' => r_ = mk (.extend l_) [a, b] ∧ Kp A A') := by
  have hJ : ∀ J : AH, (A ++ J)[z]? = some (.lst [a, b]) := fun J => by rw [List.getElem?_append_left (List.getElem?_eq_some_iff.mp h).1]; exact h
  have hz : z < A.length := (List.getElem?_eq_some_iff.mp h).1
  rw [wR_call (fd := fn_2) rfl rfl]
  have e1 : ∀ A : AH, opC A .eq (.str "extend") (.str "extend") = some true := fun A => by kernel_rfl
  refine ret_end 11 (F' := [some (mk (.extend l_) [p0, p1]), some (.ref z), some (.str "extend"), none, none, none, none, none, none, none]) (by kernel_rfl) rfl ?_
  simp [ev, evs, evo, evw, evc, wkZip, wkOf, wkRng, rng0, rng1, rng2, rng3, small, zipD, unlR, unlockA, lockA, lcL, gOk, asgT, asgTs, nox, bnd, ofO, wR_ok, wR_some, wR_bnd, wS_seq, wS_set, wS_ret, fset, wipeF, opI, opS, cutD, opB, seqL, dctL, h, hJ, biF, biTuple, biLen, L2.atI, L2.ixN, HT.sIx, mk, cz, g0, g1, g2, g3, g4, PySem.sizeLine_eq, Kp.refl, Kp.app, tru, truth, e1]
theorem pw_cons {p0 p1 a b : D} {z : Nat} (h : A[z]? = some (.lst [a, b])) : wR (callF pg N (n + 1) "with_parts" [mk (.cons) [p0, p1], .ref z] A) (fun r_ A' => r_ = mk (.cons) [a, b] ∧ Kp A A') := by
  have hJ : ∀ J : AH, (A ++ J)[z]? = some (.lst [a, b]) := fun J => by rw [List.getElem?_append_left (List.getElem?_eq_some_iff.mp h).1]; exact h
  have hz : z < A.length := (List.getElem?_eq_some_iff.mp h).1
  rw [wR_call (fd := fn_2) rfl rfl]
  refine ite_at 5 (F' := [some (mk (.cons) [p0, p1]), some (.ref z), some (.str "con"), none, none, none, none, none, none, none]) (by kernel_rfl) (by kernel_rfl) (by kernel_rfl) ?_
  simp [drp, fn_2, iteA, ev, evs, evo, evw, evc, wkZip, wkOf, wkRng, rng0, rng1, rng2, rng3, small, zipD, unlR, unlockA, lockA, lcL, gOk, asgT, asgTs, nox, bnd, ofO, wR_ok, wR_some, wR_bnd, wS_seq, wS_set, wS_ret, fset, wipeF, opI, opS, cutD, opB, seqL, dctL, h, hJ, biF, biTuple, biLen, L2.atI, L2.ixN, HT.sIx, mk, cz, g0, g1, g2, g3, g4, PySem.sizeLine_eq, Kp.refl, Kp.app]
theorem pw_rec2 {l_ : String} {m_ : String} {p0 p1 a b : D} {z : Nat} (h : A[z]? = some (.lst [a, b])) : wR (callF pg N (n + 1) "with_parts" [mk (.rec2 l_ m_) [p0, p1], .ref z] A) (fun r_ A' => r_ = mk (.rec2 l_ m_) [a, b] ∧ Kp A A') := by
  have hJ : ∀ J : AH, (A ++ J)[z]? = some (.lst [a, b]) := fun J => by rw [List.getElem?_append_left (List.getElem?_eq_some_iff.mp h).1]; exact h
  have hz : z < A.length := (List.getElem?_eq_some_iff.mp h).1
  rw [wR_call (fd := fn_2) rfl rfl]
  refine ite_at 10 (F' := [some (mk (.rec2 l_ m_) [p0, p1]), some (.ref z), some (.str "record"), none, none, none, none, none, none, none]) (by kernel_rfl) (by kernel_rfl) (by kernel_rfl) ?_
  simp [drp, fn_2, iteA, ev, evs, evo, evw, evc, wkZip, wkOf, wkRng, rng0, rng1, rng2, rng3, small, zipD, unlR, unlockA, lockA, lcL, gOk, asgT, asgTs, nox, bnd, ofO, wR_ok, wR_some, wR_bnd, wS_seq, wS_set, wS_ret, fset, wipeF, opI, opS, cutD, opB, seqL, dctL, h, hJ, biF, biTuple, biLen, L2.atI, L2.ixN, HT.sIx, mk, cz, g0, g1, g2, g3, g4, PySem.sizeLine_eq, Kp.refl, Kp.app]
theorem pw_h0 {p0 p1 a b : D} {z : Nat} (h : A[z]? = some (.lst [a, b])) : wR (callF pg N (n + 1) "with_parts" [mk (.h0) [p0, p1], .ref z] A) (fun r_ A' => r_ = mk (.h0) [a, b] ∧ Kp A A') := by
  have hJ : ∀ J : AH, (A ++ J)[z]? = some (.lst [a, b]) := fun J => by rw [List.getElem?_append_left (List.getElem?_eq_some_iff.mp h).1]; exact h
  have hz : z < A.length := (List.getElem?_eq_some_iff.mp h).1
  rw [wR_call (fd := fn_2) rfl rfl]
  refine ite_at 9 (F' := [some (mk (.h0) [p0, p1]), some (.ref z), some (.str "handle"), none, none, none, none, none, none, none]) (by kernel_rfl) (by kernel_rfl) (by kernel_rfl) ?_
  simp [drp, fn_2, iteA, ev, evs, evo, evw, evc, wkZip, wkOf, wkRng, rng0, rng1, rng2, rng3, small, zipD, unlR, unlockA, lockA, lcL, gOk, asgT, asgTs, nox, bnd, ofO, wR_ok, wR_some, wR_bnd, wS_seq, wS_set, wS_ret, fset, wipeF, opI, opS, cutD, opB, seqL, dctL, h, hJ, biF, biTuple, biLen, L2.atI, L2.ixN, HT.sIx, mk, cz, g0, g1, g2, g3, g4, PySem.sizeLine_eq, Kp.refl, Kp.app]
theorem pw_iff {p0 p1 p2 a b c : D} {z : Nat} (h : A[z]? = some (.lst [a, b, c])) : wR (callF pg N (n + 1) "with_parts" [mk (.iff) [p0, p1, p2], .ref z] A) (fun r_ A' => r_ = mk (.iff) [a, b, c] ∧ Kp A A') := by
  have hJ : ∀ J : AH, (A ++ J)[z]? = some (.lst [a, b, c]) := fun J => by rw [List.getElem?_append_left (List.getElem?_eq_some_iff.mp h).1]; exact h
  have hz : z < A.length := (List.getElem?_eq_some_iff.mp h).1
  rw [wR_call (fd := fn_2) rfl rfl]
  refine ite_at 2 (F' := [some (mk (.iff) [p0, p1, p2]), some (.ref z), some (.str "if"), none, none, none, none, none, none, none]) (by kernel_rfl) (by kernel_rfl) (by kernel_rfl) ?_
  simp [drp, fn_2, iteA, ev, evs, evo, evw, evc, wkZip, wkOf, wkRng, rng0, rng1, rng2, rng3, small, zipD, unlR, unlockA, lockA, lcL, gOk, asgT, asgTs, nox, bnd, ofO, wR_ok, wR_some, wR_bnd, wS_seq, wS_set, wS_ret, fset, wipeF, opI, opS, cutD, opB, seqL, dctL, h, hJ, biF, biTuple, biLen, L2.atI, L2.ixN, HT.sIx, mk, cz, g0, g1, g2, g3, g4, PySem.sizeLine_eq, Kp.refl, Kp.app]
theorem pw_mtl {p0 p1 p2 a b c : D} {z : Nat} (h : A[z]? = some (.lst [a, b, c])) : wR (callF pg N (n + 1) "with_parts" [mk (.mtl) [p0, p1, p2], .ref z] A) (fun r_ A' => r_ = mk (.mtl) [a, b, c] ∧ Kp A A') := by
  have hJ : ∀ J : AH, (A ++ J)[z]? = some (.lst [a, b, c]) := fun J => by rw [List.getElem?_append_left (List.getElem?_eq_some_iff.mp h).1]; exact h
  have hz : z < A.length := (List.getElem?_eq_some_iff.mp h).1
  rw [wR_call (fd := fn_2) rfl rfl]
  refine ite_at 6 (F' := [some (mk (.mtl) [p0, p1, p2]), some (.ref z), some (.str "match"), none, none, none, none, none, none, none]) (by kernel_rfl) (by kernel_rfl) (by kernel_rfl) ?_
  simp [drp, fn_2, iteA, ev, evs, evo, evw, evc, wkZip, wkOf, wkRng, rng0, rng1, rng2, rng3, small, zipD, unlR, unlockA, lockA, lcL, gOk, asgT, asgTs, nox, bnd, ofO, wR_ok, wR_some, wR_bnd, wS_seq, wS_set, wS_ret, fset, wipeF, opI, opS, cutD, opB, seqL, dctL, h, hJ, biF, biTuple, biLen, L2.atI, L2.ixN, HT.sIx, mk, cz, g0, g1, g2, g3, g4, PySem.sizeLine_eq, Kp.refl, Kp.app]
theorem pw_mto {p0 p1 p2 a b c : D} {z : Nat} (h : A[z]? = some (.lst [a, b, c])) : wR (callF pg N (n + 1) "with_parts" [mk (.mto) [p0, p1, p2], .ref z] A) (fun r_ A' => r_ = mk (.mto) [a, b, c] ∧ Kp A A') := by
  have hJ : ∀ J : AH, (A ++ J)[z]? = some (.lst [a, b, c]) := fun J => by rw [List.getElem?_append_left (List.getElem?_eq_some_iff.mp h).1]; exact h
  have hz : z < A.length := (List.getElem?_eq_some_iff.mp h).1
  rw [wR_call (fd := fn_2) rfl rfl]
  refine ite_at 6 (F' := [some (mk (.mto) [p0, p1, p2]), some (.ref z), some (.str "match"), none, none, none, none, none, none, none]) (by kernel_rfl) (by kernel_rfl) (by kernel_rfl) ?_
  simp [drp, fn_2, iteA, ev, evs, evo, evw, evc, wkZip, wkOf, wkRng, rng0, rng1, rng2, rng3, small, zipD, unlR, unlockA, lockA, lcL, gOk, asgT, asgTs, nox, bnd, ofO, wR_ok, wR_some, wR_bnd, wS_seq, wS_set, wS_ret, fset, wipeF, opI, opS, cutD, opB, seqL, dctL, h, hJ, biF, biTuple, biLen, L2.atI, L2.ixN, HT.sIx, mk, cz, g0, g1, g2, g3, g4, PySem.sizeLine_eq, Kp.refl, Kp.app]
theorem pw_h1 {o_ : String} {p0 p1 p2 a b c : D} {z : Nat} (h : A[z]? = some (.lst [a, b, c])) : wR (callF pg N (n + 1) "with_parts" [mk (.h1 o_) [p0, p1, p2], .ref z] A) (fun r_ A' => r_ = mk (.h1 o_) [a, b, c] ∧ Kp A A') := by
  have hJ : ∀ J : AH, (A ++ J)[z]? = some (.lst [a, b, c]) := fun J => by rw [List.getElem?_append_left (List.getElem?_eq_some_iff.mp h).1]; exact h
  have hz : z < A.length := (List.getElem?_eq_some_iff.mp h).1
  rw [wR_call (fd := fn_2) rfl rfl]
  refine ite_at 9 (F' := [some (mk (.h1 o_) [p0, p1, p2]), some (.ref z), some (.str "handle"), none, none, none, none, none, none, none]) (by kernel_rfl) (by kernel_rfl) (by kernel_rfl) ?_
  simp [drp, fn_2, iteA, ev, evs, evo, evw, evc, wkZip, wkOf, wkRng, rng0, rng1, rng2, rng3, small, zipD, unlR, unlockA, lockA, lcL, gOk, asgT, asgTs, nox, bnd, ofO, wR_ok, wR_some, wR_bnd, wS_seq, wS_set, wS_ret, fset, wipeF, opI, opS, cutD, opB, seqL, dctL, h, hJ, biF, biTuple, biLen, L2.atI, L2.ixN, HT.sIx, mk, cz, g0, g1, g2, g3, g4, PySem.sizeLine_eq, Kp.refl, Kp.app]
theorem pw_h2 {o_ : String} {p_ : String} {p0 p1 p2 p3 a b c d : D} {z : Nat} (h : A[z]? = some (.lst [a, b, c, d])) : wR (callF pg N (n + 1) "with_parts" [mk (.h2 o_ p_) [p0, p1, p2, p3], .ref z] A) (fun r_ A' => r_ = mk (.h2 o_ p_) [a, b, c, d] ∧ Kp A A') := by
  have hJ : ∀ J : AH, (A ++ J)[z]? = some (.lst [a, b, c, d]) := fun J => by rw [List.getElem?_append_left (List.getElem?_eq_some_iff.mp h).1]; exact h
  have hz : z < A.length := (List.getElem?_eq_some_iff.mp h).1
  rw [wR_call (fd := fn_2) rfl rfl]
  refine ite_at 9 (F' := [some (mk (.h2 o_ p_) [p0, p1, p2, p3]), some (.ref z), some (.str "handle"), none, none, none, none, none, none, none]) (by kernel_rfl) (by kernel_rfl) (by kernel_rfl) ?_
  simp [drp, fn_2, iteA, ev, evs, evo, evw, evc, wkZip, wkOf, wkRng, rng0, rng1, rng2, rng3, small, zipD, unlR, unlockA, lockA, lcL, gOk, asgT, asgTs, nox, bnd, ofO, wR_ok, wR_some, wR_bnd, wS_seq, wS_set, wS_ret, fset, wipeF, opI, opS, cutD, opB, seqL, dctL, h, hJ, biF, biTuple, biLen, L2.atI, L2.ixN, HT.sIx, mk, cz, g0, g1, g2, g3, g4, PySem.sizeLine_eq, Kp.refl, Kp.app]
theorem pw_h3 {o_ : String} {p_ : String} {q_ : String} {p0 p1 p2 p3 p4 a b c d e : D} {z : Nat} (h : A[z]? = some (.lst [a, b, c, d, e])) : wR (callF pg N (n + 1) "with_parts" [mk (.h3 o_ p_ q_) [p0, p1, p2, p3, p4], .ref z] A) (fun r_ A' => r_ = mk (.h3 o_ p_ q_) [a, b, c, d, e] ∧ Kp A A') := by
  have hJ : ∀ J : AH, (A ++ J)[z]? = some (.lst [a, b, c, d, e]) := fun J => by rw [List.getElem?_append_left (List.getElem?_eq_some_iff.mp h).1]; exact h
  have hz : z < A.length := (List.getElem?_eq_some_iff.mp h).1
  rw [wR_call (fd := fn_2) rfl rfl]
  refine ite_at 9 (F' := [some (mk (.h3 o_ p_ q_) [p0, p1, p2, p3, p4]), some (.ref z), some (.str "handle"), none, none, none, none, none, none, none]) (by kernel_rfl) (by kernel_rfl) (by kernel_rfl) ?_
  simp [drp, fn_2, iteA, ev, evs, evo, evw, evc, wkZip, wkOf, wkRng, rng0, rng1, rng2, rng3, small, zipD, unlR, unlockA, lockA, lcL, gOk, asgT, asgTs, nox, bnd, ofO, wR_ok, wR_some, wR_bnd, wS_seq, wS_set, wS_ret, fset, wipeF, opI, opS, cutD, opB, seqL, dctL, h, hJ, biF, biTuple, biLen, L2.atI, L2.ixN, HT.sIx, mk, cz, g0, g1, g2, g3, g4, PySem.sizeLine_eq, Kp.refl, Kp.app]
theorem pw_spec : ∀ (k : Kd) (ds es : List D) (z : Nat), ds.length = ar k → es.length = ar k → A[z]? = some (.lst es) → wR (callF pg N (n + 1) "with_parts" [mk k ds, .ref z] A) (fun r_ A' => r_ = mk k es ∧ Kp A A')
  | .int i, [], [], z, _, _, h => pw_int h
  | .bool b, [], [], z, _, _, h => pw_bool h
  | .unit, [], [], z, _, _, h => pw_unit h
  | .var x, [], [], z, _, _, h => pw_var h
  | .nil, [], [], z, _, _, h => pw_nil h
  | .lam x, [p0], [a], z, _, _, h => pw_lam h
  | .raise, [p0], [a], z, _, _, h => pw_raise h
  | .ref, [p0], [a], z, _, _, h => pw_ref h
  | .get, [p0], [a], z, _, _, h => pw_get h
  | .fst, [p0], [a], z, _, _, h => pw_fst h
  | .snd, [p0], [a], z, _, _, h => pw_snd h
  | .fix x, [p0], [a], z, _, _, h => pw_fix h
  | .perform o, [p0], [a], z, _, _, h => pw_perform h
  | .field l, [p0], [a], z, _, _, h => pw_field h
  | .yes, [p0], [a], z, _, _, h => pw_yes h
  | .rec1 l, [p0], [a], z, _, _, h => pw_rec1 h
  | .app, [p0, p1], [a, b], z, _, _, h => pw_app h
  | .pair, [p0, p1], [a, b], z, _, _, h => pw_pair h
  | .set, [p0, p1], [a, b], z, _, _, h => pw_set h
  | .lett x, [p0, p1], [a, b], z, _, _, h => pw_lett h
  | .op o, [p0, p1], [a, b], z, _, _, h => pw_op h
  | .tryy, [p0, p1], [a, b], z, _, _, h => pw_tryy h
  | .extend l, [p0, p1], [a, b], z, _, _, h => pw_extend h
  | .cons, [p0, p1], [a, b], z, _, _, h => pw_cons h
  | .rec2 l m, [p0, p1], [a, b], z, _, _, h => pw_rec2 h
  | .h0, [p0, p1], [a, b], z, _, _, h => pw_h0 h
  | .iff, [p0, p1, p2], [a, b, c], z, _, _, h => pw_iff h
  | .mtl, [p0, p1, p2], [a, b, c], z, _, _, h => pw_mtl h
  | .mto, [p0, p1, p2], [a, b, c], z, _, _, h => pw_mto h
  | .h1 o, [p0, p1, p2], [a, b, c], z, _, _, h => pw_h1 h
  | .h2 o p, [p0, p1, p2, p3], [a, b, c, d], z, _, _, h => pw_h2 h
  | .h3 o p q, [p0, p1, p2, p3, p4], [a, b, c, d, e], z, _, _, h => pw_h3 h
theorem lw_int {i_ : Int} {z : Nat} (h : A[z]? = some (.lst [])) : wR (callF pg N (n + 1) "_law_with" [mk (.int i_) [], .ref z] A) (fun r_ A' => r_ = mk (.int i_) [] ∧ Kp A A') := by
  have hJ : ∀ J : AH, (A ++ J)[z]? = some (.lst []) := fun J => by rw [List.getElem?_append_left (List.getElem?_eq_some_iff.mp h).1]; exact h
  have hz : z < A.length := (List.getElem?_eq_some_iff.mp h).1
  rw [wR_call (fd := fn_22) rfl rfl]
  exact ret_at 1 (F' := [some (mk (.int i_) []), some (.ref z), some (.str "int"), none]) (by kernel_rfl) (by kernel_rfl) (by kernel_rfl) (wR_eq (a := mk (.int i_) []) (A := A) (by kernel_rfl) ⟨rfl, Kp.refl⟩)
theorem lw_bool {b_ : Bool} {z : Nat} (h : A[z]? = some (.lst [])) : wR (callF pg N (n + 1) "_law_with" [mk (.bool b_) [], .ref z] A) (fun r_ A' => r_ = mk (.bool b_) [] ∧ Kp A A') := by
  have hJ : ∀ J : AH, (A ++ J)[z]? = some (.lst []) := fun J => by rw [List.getElem?_append_left (List.getElem?_eq_some_iff.mp h).1]; exact h
  have hz : z < A.length := (List.getElem?_eq_some_iff.mp h).1
  rw [wR_call (fd := fn_22) rfl rfl]
  exact ret_at 1 (F' := [some (mk (.bool b_) []), some (.ref z), some (.str "bool"), none]) (by kernel_rfl) (by kernel_rfl) (by kernel_rfl) (wR_eq (a := mk (.bool b_) []) (A := A) (by kernel_rfl) ⟨rfl, Kp.refl⟩)
theorem lw_unit {z : Nat} (h : A[z]? = some (.lst [])) : wR (callF pg N (n + 1) "_law_with" [mk (.unit) [], .ref z] A) (fun r_ A' => r_ = mk (.unit) [] ∧ Kp A A') := by
  have hJ : ∀ J : AH, (A ++ J)[z]? = some (.lst []) := fun J => by rw [List.getElem?_append_left (List.getElem?_eq_some_iff.mp h).1]; exact h
  have hz : z < A.length := (List.getElem?_eq_some_iff.mp h).1
  rw [wR_call (fd := fn_22) rfl rfl]
  exact ret_at 1 (F' := [some (mk (.unit) []), some (.ref z), some (.str "unit"), none]) (by kernel_rfl) (by kernel_rfl) (by kernel_rfl) (wR_eq (a := mk (.unit) []) (A := A) (by kernel_rfl) ⟨rfl, Kp.refl⟩)
theorem lw_var {x_ : String} {z : Nat} (h : A[z]? = some (.lst [])) : wR (callF pg N (n + 1) "_law_with" [mk (.var x_) [], .ref z] A) (fun r_ A' => r_ = mk (.var x_) [] ∧ Kp A A') := by
  have hJ : ∀ J : AH, (A ++ J)[z]? = some (.lst []) := fun J => by rw [List.getElem?_append_left (List.getElem?_eq_some_iff.mp h).1]; exact h
  have hz : z < A.length := (List.getElem?_eq_some_iff.mp h).1
  rw [wR_call (fd := fn_22) rfl rfl]
  exact ret_at 1 (F' := [some (mk (.var x_) []), some (.ref z), some (.str "var"), none]) (by kernel_rfl) (by kernel_rfl) (by kernel_rfl) (wR_eq (a := mk (.var x_) []) (A := A) (by kernel_rfl) ⟨rfl, Kp.refl⟩)
theorem lw_nil {z : Nat} (h : A[z]? = some (.lst [])) : wR (callF pg N (n + 1) "_law_with" [mk (.nil) [], .ref z] A) (fun r_ A' => r_ = mk (.nil) [] ∧ Kp A A') := by
  have hJ : ∀ J : AH, (A ++ J)[z]? = some (.lst []) := fun J => by rw [List.getElem?_append_left (List.getElem?_eq_some_iff.mp h).1]; exact h
  have hz : z < A.length := (List.getElem?_eq_some_iff.mp h).1
  rw [wR_call (fd := fn_22) rfl rfl]
  refine ite_at 4 (F' := [some (mk (.nil) []), some (.ref z), some (.str "con"), none]) (by kernel_rfl) (by kernel_rfl) (by kernel_rfl) ?_
  simp [drp, fn_22, iteA, ev, evs, evo, evw, evc, wkZip, wkOf, wkRng, rng0, rng1, rng2, rng3, small, zipD, unlR, unlockA, lockA, lcL, gOk, asgT, asgTs, nox, bnd, ofO, wR_ok, wR_some, wR_bnd, wS_seq, wS_set, wS_ret, fset, wipeF, opI, opS, cutD, opB, seqL, dctL, h, hJ, biF, biTuple, biLen, L2.atI, L2.ixN, HT.sIx, mk, cz, g0, g1, g2, g3, g4, PySem.sizeLine_eq, Kp.refl, Kp.app]
theorem lw_lam {x_ : String} {p0 a : D} {z : Nat} (h : A[z]? = some (.lst [a])) : wR (callF pg N (n + 1) "_law_with" [mk (.lam x_) [p0], .ref z] A) (fun r_ A' => r_ = mk (.lam x_) [a] ∧ Kp A A') := by
  have hJ : ∀ J : AH, (A ++ J)[z]? = some (.lst [a]) := fun J => by rw [List.getElem?_append_left (List.getElem?_eq_some_iff.mp h).1]; exact h
  have hz : z < A.length := (List.getElem?_eq_some_iff.mp h).1
  rw [wR_call (fd := fn_22) rfl rfl]
  refine ite_at 2 (F' := [some (mk (.lam x_) [p0]), some (.ref z), some (.str "lam"), none]) (by kernel_rfl) (by kernel_rfl) (by kernel_rfl) ?_
  simp [drp, fn_22, iteA, ev, evs, evo, evw, evc, wkZip, wkOf, wkRng, rng0, rng1, rng2, rng3, small, zipD, unlR, unlockA, lockA, lcL, gOk, asgT, asgTs, nox, bnd, ofO, wR_ok, wR_some, wR_bnd, wS_seq, wS_set, wS_ret, fset, wipeF, opI, opS, cutD, opB, seqL, dctL, h, hJ, biF, biTuple, biLen, L2.atI, L2.ixN, HT.sIx, mk, cz, g0, g1, g2, g3, g4, PySem.sizeLine_eq, Kp.refl, Kp.app]
theorem lw_raise {p0 a : D} {z : Nat} (h : A[z]? = some (.lst [a])) : wR (callF pg N (n + 1) "_law_with" [mk (.raise) [p0], .ref z] A) (fun r_ A' => r_ = mk (.raise) [a] ∧ Kp A A') := by
  have hJ : ∀ J : AH, (A ++ J)[z]? = some (.lst [a]) := fun J => by rw [List.getElem?_append_left (List.getElem?_eq_some_iff.mp h).1]; exact h
  have hz : z < A.length := (List.getElem?_eq_some_iff.mp h).1
  rw [wR_call (fd := fn_22) rfl rfl]
  have e1 : ∀ A : AH, opC A .eq (.str "raise") (.str "field") = some false := fun A => by kernel_rfl
  refine ret_end 9 (F' := [some (mk (.raise) [p0]), some (.ref z), some (.str "raise"), none]) (by kernel_rfl) rfl ?_
  simp [ev, evs, evo, evw, evc, wkZip, wkOf, wkRng, rng0, rng1, rng2, rng3, small, zipD, unlR, unlockA, lockA, lcL, gOk, asgT, asgTs, nox, bnd, ofO, wR_ok, wR_some, wR_bnd, wS_seq, wS_set, wS_ret, fset, wipeF, opI, opS, cutD, opB, seqL, dctL, h, hJ, biF, biTuple, biLen, L2.atI, L2.ixN, HT.sIx, mk, cz, g0, g1, g2, g3, g4, PySem.sizeLine_eq, Kp.refl, Kp.app, tru, truth, e1]
theorem lw_ref {p0 a : D} {z : Nat} (h : A[z]? = some (.lst [a])) : wR (callF pg N (n + 1) "_law_with" [mk (.ref) [p0], .ref z] A) (fun r_ A' => r_ = mk (.ref) [a] ∧ Kp A A') := by
  have hJ : ∀ J : AH, (A ++ J)[z]? = some (.lst [a]) := fun J => by rw [List.getElem?_append_left (List.getElem?_eq_some_iff.mp h).1]; exact h
  have hz : z < A.length := (List.getElem?_eq_some_iff.mp h).1
  rw [wR_call (fd := fn_22) rfl rfl]
  have e1 : ∀ A : AH, opC A .eq (.str "ref") (.str "field") = some false := fun A => by kernel_rfl
  refine ret_end 9 (F' := [some (mk (.ref) [p0]), some (.ref z), some (.str "ref"), none]) (by kernel_rfl) rfl ?_
  simp [ev, evs, evo, evw, evc, wkZip, wkOf, wkRng, rng0, rng1, rng2, rng3, small, zipD, unlR, unlockA, lockA, lcL, gOk, asgT, asgTs, nox, bnd, ofO, wR_ok, wR_some, wR_bnd, wS_seq, wS_set, wS_ret, fset, wipeF, opI, opS, cutD, opB, seqL, dctL, h, hJ, biF, biTuple, biLen, L2.atI, L2.ixN, HT.sIx, mk, cz, g0, g1, g2, g3, g4, PySem.sizeLine_eq, Kp.refl, Kp.app, tru, truth, e1]
theorem lw_get {p0 a : D} {z : Nat} (h : A[z]? = some (.lst [a])) : wR (callF pg N (n + 1) "_law_with" [mk (.get) [p0], .ref z] A) (fun r_ A' => r_ = mk (.get) [a] ∧ Kp A A') := by
  have hJ : ∀ J : AH, (A ++ J)[z]? = some (.lst [a]) := fun J => by rw [List.getElem?_append_left (List.getElem?_eq_some_iff.mp h).1]; exact h
  have hz : z < A.length := (List.getElem?_eq_some_iff.mp h).1
  rw [wR_call (fd := fn_22) rfl rfl]
  have e1 : ∀ A : AH, opC A .eq (.str "get") (.str "field") = some false := fun A => by kernel_rfl
  refine ret_end 9 (F' := [some (mk (.get) [p0]), some (.ref z), some (.str "get"), none]) (by kernel_rfl) rfl ?_
  simp [ev, evs, evo, evw, evc, wkZip, wkOf, wkRng, rng0, rng1, rng2, rng3, small, zipD, unlR, unlockA, lockA, lcL, gOk, asgT, asgTs, nox, bnd, ofO, wR_ok, wR_some, wR_bnd, wS_seq, wS_set, wS_ret, fset, wipeF, opI, opS, cutD, opB, seqL, dctL, h, hJ, biF, biTuple, biLen, L2.atI, L2.ixN, HT.sIx, mk, cz, g0, g1, g2, g3, g4, PySem.sizeLine_eq, Kp.refl, Kp.app, tru, truth, e1]
theorem lw_fst {p0 a : D} {z : Nat} (h : A[z]? = some (.lst [a])) : wR (callF pg N (n + 1) "_law_with" [mk (.fst) [p0], .ref z] A) (fun r_ A' => r_ = mk (.fst) [a] ∧ Kp A A') := by
  have hJ : ∀ J : AH, (A ++ J)[z]? = some (.lst [a]) := fun J => by rw [List.getElem?_append_left (List.getElem?_eq_some_iff.mp h).1]; exact h
  have hz : z < A.length := (List.getElem?_eq_some_iff.mp h).1
  rw [wR_call (fd := fn_22) rfl rfl]
  have e1 : ∀ A : AH, opC A .eq (.str "fst") (.str "field") = some false := fun A => by kernel_rfl
  refine ret_end 9 (F' := [some (mk (.fst) [p0]), some (.ref z), some (.str "fst"), none]) (by kernel_rfl) rfl ?_
  simp [ev, evs, evo, evw, evc, wkZip, wkOf, wkRng, rng0, rng1, rng2, rng3, small, zipD, unlR, unlockA, lockA, lcL, gOk, asgT, asgTs, nox, bnd, ofO, wR_ok, wR_some, wR_bnd, wS_seq, wS_set, wS_ret, fset, wipeF, opI, opS, cutD, opB, seqL, dctL, h, hJ, biF, biTuple, biLen, L2.atI, L2.ixN, HT.sIx, mk, cz, g0, g1, g2, g3, g4, PySem.sizeLine_eq, Kp.refl, Kp.app, tru, truth, e1]
theorem lw_snd {p0 a : D} {z : Nat} (h : A[z]? = some (.lst [a])) : wR (callF pg N (n + 1) "_law_with" [mk (.snd) [p0], .ref z] A) (fun r_ A' => r_ = mk (.snd) [a] ∧ Kp A A') := by
  have hJ : ∀ J : AH, (A ++ J)[z]? = some (.lst [a]) := fun J => by rw [List.getElem?_append_left (List.getElem?_eq_some_iff.mp h).1]; exact h
  have hz : z < A.length := (List.getElem?_eq_some_iff.mp h).1
  rw [wR_call (fd := fn_22) rfl rfl]
  have e1 : ∀ A : AH, opC A .eq (.str "snd") (.str "field") = some false := fun A => by kernel_rfl
  refine ret_end 9 (F' := [some (mk (.snd) [p0]), some (.ref z), some (.str "snd"), none]) (by kernel_rfl) rfl ?_
  simp [ev, evs, evo, evw, evc, wkZip, wkOf, wkRng, rng0, rng1, rng2, rng3, small, zipD, unlR, unlockA, lockA, lcL, gOk, asgT, asgTs, nox, bnd, ofO, wR_ok, wR_some, wR_bnd, wS_seq, wS_set, wS_ret, fset, wipeF, opI, opS, cutD, opB, seqL, dctL, h, hJ, biF, biTuple, biLen, L2.atI, L2.ixN, HT.sIx, mk, cz, g0, g1, g2, g3, g4, PySem.sizeLine_eq, Kp.refl, Kp.app, tru, truth, e1]
theorem lw_fix {x_ : String} {p0 a : D} {z : Nat} (h : A[z]? = some (.lst [a])) : wR (callF pg N (n + 1) "_law_with" [mk (.fix x_) [p0], .ref z] A) (fun r_ A' => r_ = mk (.fix x_) [a] ∧ Kp A A') := by
  have hJ : ∀ J : AH, (A ++ J)[z]? = some (.lst [a]) := fun J => by rw [List.getElem?_append_left (List.getElem?_eq_some_iff.mp h).1]; exact h
  have hz : z < A.length := (List.getElem?_eq_some_iff.mp h).1
  rw [wR_call (fd := fn_22) rfl rfl]
  refine ite_at 2 (F' := [some (mk (.fix x_) [p0]), some (.ref z), some (.str "fix"), none]) (by kernel_rfl) (by kernel_rfl) (by kernel_rfl) ?_
  simp [drp, fn_22, iteA, ev, evs, evo, evw, evc, wkZip, wkOf, wkRng, rng0, rng1, rng2, rng3, small, zipD, unlR, unlockA, lockA, lcL, gOk, asgT, asgTs, nox, bnd, ofO, wR_ok, wR_some, wR_bnd, wS_seq, wS_set, wS_ret, fset, wipeF, opI, opS, cutD, opB, seqL, dctL, h, hJ, biF, biTuple, biLen, L2.atI, L2.ixN, HT.sIx, mk, cz, g0, g1, g2, g3, g4, PySem.sizeLine_eq, Kp.refl, Kp.app]
theorem lw_perform {o_ : String} {p0 a : D} {z : Nat} (h : A[z]? = some (.lst [a])) : wR (callF pg N (n + 1) "_law_with" [mk (.perform o_) [p0], .ref z] A) (fun r_ A' => r_ = mk (.perform o_) [a] ∧ Kp A A') := by
  have hJ : ∀ J : AH, (A ++ J)[z]? = some (.lst [a]) := fun J => by rw [List.getElem?_append_left (List.getElem?_eq_some_iff.mp h).1]; exact h
  have hz : z < A.length := (List.getElem?_eq_some_iff.mp h).1
  rw [wR_call (fd := fn_22) rfl rfl]
  refine ite_at 3 (F' := [some (mk (.perform o_) [p0]), some (.ref z), some (.str "perform"), none]) (by kernel_rfl) (by kernel_rfl) (by kernel_rfl) ?_
  simp [drp, fn_22, iteA, ev, evs, evo, evw, evc, wkZip, wkOf, wkRng, rng0, rng1, rng2, rng3, small, zipD, unlR, unlockA, lockA, lcL, gOk, asgT, asgTs, nox, bnd, ofO, wR_ok, wR_some, wR_bnd, wS_seq, wS_set, wS_ret, fset, wipeF, opI, opS, cutD, opB, seqL, dctL, h, hJ, biF, biTuple, biLen, L2.atI, L2.ixN, HT.sIx, mk, cz, g0, g1, g2, g3, g4, PySem.sizeLine_eq, Kp.refl, Kp.app]
theorem lw_field {l_ : String} {p0 a : D} {z : Nat} (h : A[z]? = some (.lst [a])) : wR (callF pg N (n + 1) "_law_with" [mk (.field l_) [p0], .ref z] A) (fun r_ A' => r_ = mk (.field l_) [a] ∧ Kp A A') := by
  have hJ : ∀ J : AH, (A ++ J)[z]? = some (.lst [a]) := fun J => by rw [List.getElem?_append_left (List.getElem?_eq_some_iff.mp h).1]; exact h
  have hz : z < A.length := (List.getElem?_eq_some_iff.mp h).1
  rw [wR_call (fd := fn_22) rfl rfl]
  have e1 : ∀ A : AH, opC A .eq (.str "field") (.str "field") = some true := fun A => by kernel_rfl
  refine ret_end 9 (F' := [some (mk (.field l_) [p0]), some (.ref z), some (.str "field"), none]) (by kernel_rfl) rfl ?_
  simp [ev, evs, evo, evw, evc, wkZip, wkOf, wkRng, rng0, rng1, rng2, rng3, small, zipD, unlR, unlockA, lockA, lcL, gOk, asgT, asgTs, nox, bnd, ofO, wR_ok, wR_some, wR_bnd, wS_seq, wS_set, wS_ret, fset, wipeF, opI, opS, cutD, opB, seqL, dctL, h, hJ, biF, biTuple, biLen, L2.atI, L2.ixN, HT.sIx, mk, cz, g0, g1, g2, g3, g4, PySem.sizeLine_eq, Kp.refl, Kp.app, tru, truth, e1]
theorem lw_yes {p0 a : D} {z : Nat} (h : A[z]? = some (.lst [a])) : wR (callF pg N (n + 1) "_law_with" [mk (.yes) [p0], .ref z] A) (fun r_ A' => r_ = mk (.yes) [a] ∧ Kp A A') := by
  have hJ : ∀ J : AH, (A ++ J)[z]? = some (.lst [a]) := fun J => by rw [List.getElem?_append_left (List.getElem?_eq_some_iff.mp h).1]; exact h
  have hz : z < A.length := (List.getElem?_eq_some_iff.mp h).1
  rw [wR_call (fd := fn_22) rfl rfl]
  refine ite_at 4 (F' := [some (mk (.yes) [p0]), some (.ref z), some (.str "con"), none]) (by kernel_rfl) (by kernel_rfl) (by kernel_rfl) ?_
  simp [drp, fn_22, iteA, ev, evs, evo, evw, evc, wkZip, wkOf, wkRng, rng0, rng1, rng2, rng3, small, zipD, unlR, unlockA, lockA, lcL, gOk, asgT, asgTs, nox, bnd, ofO, wR_ok, wR_some, wR_bnd, wS_seq, wS_set, wS_ret, fset, wipeF, opI, opS, cutD, opB, seqL, dctL, h, hJ, biF, biTuple, biLen, L2.atI, L2.ixN, HT.sIx, mk, cz, g0, g1, g2, g3, g4, PySem.sizeLine_eq, Kp.refl, Kp.app]
theorem lw_rec1 {l_ : String} {p0 a : D} {z : Nat} (h : A[z]? = some (.lst [a])) : wR (callF pg N (n + 1) "_law_with" [mk (.rec1 l_) [p0], .ref z] A) (fun r_ A' => r_ = mk (.rec1 l_) [a] ∧ Kp A A') := by
  have hJ : ∀ J : AH, (A ++ J)[z]? = some (.lst [a]) := fun J => by rw [List.getElem?_append_left (List.getElem?_eq_some_iff.mp h).1]; exact h
  have hz : z < A.length := (List.getElem?_eq_some_iff.mp h).1
  rw [wR_call (fd := fn_22) rfl rfl]
  refine ite_at 5 (F' := [some (mk (.rec1 l_) [p0]), some (.ref z), some (.str "record"), none]) (by kernel_rfl) (by kernel_rfl) (by kernel_rfl) ?_
  simp [drp, fn_22, iteA, ev, evs, evo, evw, evc, wkZip, wkOf, wkRng, rng0, rng1, rng2, rng3, small, zipD, unlR, unlockA, lockA, lcL, gOk, asgT, asgTs, nox, bnd, ofO, wR_ok, wR_some, wR_bnd, wS_seq, wS_set, wS_ret, fset, wipeF, opI, opS, cutD, opB, seqL, dctL, h, hJ, biF, biTuple, biLen, L2.atI, L2.ixN, HT.sIx, mk, cz, g0, g1, g2, g3, g4, PySem.sizeLine_eq, Kp.refl, Kp.app]
theorem lw_app {p0 p1 a b : D} {z : Nat} (h : A[z]? = some (.lst [a, b])) : wR (callF pg N (n + 1) "_law_with" [mk (.app) [p0, p1], .ref z] A) (fun r_ A' => r_ = mk (.app) [a, b] ∧ Kp A A') := by
  have hJ : ∀ J : AH, (A ++ J)[z]? = some (.lst [a, b]) := fun J => by rw [List.getElem?_append_left (List.getElem?_eq_some_iff.mp h).1]; exact h
  have hz : z < A.length := (List.getElem?_eq_some_iff.mp h).1
  rw [wR_call (fd := fn_22) rfl rfl]
  have e1 : ∀ A : AH, opC A .eq (.str "app") (.str "field") = some false := fun A => by kernel_rfl
  refine ret_end 9 (F' := [some (mk (.app) [p0, p1]), some (.ref z), some (.str "app"), none]) (by kernel_rfl) rfl ?_
  simp [ev, evs, evo, evw, evc, wkZip, wkOf, wkRng, rng0, rng1, rng2, rng3, small, zipD, unlR, unlockA, lockA, lcL, gOk, asgT, asgTs, nox, bnd, ofO, wR_ok, wR_some, wR_bnd, wS_seq, wS_set, wS_ret, fset, wipeF, opI, opS, cutD, opB, seqL, dctL, h, hJ, biF, biTuple, biLen, L2.atI, L2.ixN, HT.sIx, mk, cz, g0, g1, g2, g3, g4, PySem.sizeLine_eq, Kp.refl, Kp.app, tru, truth, e1]
theorem lw_pair {p0 p1 a b : D} {z : Nat} (h : A[z]? = some (.lst [a, b])) : wR (callF pg N (n + 1) "_law_with" [mk (.pair) [p0, p1], .ref z] A) (fun r_ A' => r_ = mk (.pair) [a, b] ∧ Kp A A') := by
  have hJ : ∀ J : AH, (A ++ J)[z]? = some (.lst [a, b]) := fun J => by rw [List.getElem?_append_left (List.getElem?_eq_some_iff.mp h).1]; exact h
  have hz : z < A.length := (List.getElem?_eq_some_iff.mp h).1
  rw [wR_call (fd := fn_22) rfl rfl]
  have e1 : ∀ A : AH, opC A .eq (.str "pair") (.str "field") = some false := fun A => by kernel_rfl
  refine ret_end 9 (F' := [some (mk (.pair) [p0, p1]), some (.ref z), some (.str "pair"), none]) (by kernel_rfl) rfl ?_
  simp [ev, evs, evo, evw, evc, wkZip, wkOf, wkRng, rng0, rng1, rng2, rng3, small, zipD, unlR, unlockA, lockA, lcL, gOk, asgT, asgTs, nox, bnd, ofO, wR_ok, wR_some, wR_bnd, wS_seq, wS_set, wS_ret, fset, wipeF, opI, opS, cutD, opB, seqL, dctL, h, hJ, biF, biTuple, biLen, L2.atI, L2.ixN, HT.sIx, mk, cz, g0, g1, g2, g3, g4, PySem.sizeLine_eq, Kp.refl, Kp.app, tru, truth, e1]
theorem lw_set {p0 p1 a b : D} {z : Nat} (h : A[z]? = some (.lst [a, b])) : wR (callF pg N (n + 1) "_law_with" [mk (.set) [p0, p1], .ref z] A) (fun r_ A' => r_ = mk (.set) [a, b] ∧ Kp A A') := by
  have hJ : ∀ J : AH, (A ++ J)[z]? = some (.lst [a, b]) := fun J => by rw [List.getElem?_append_left (List.getElem?_eq_some_iff.mp h).1]; exact h
  have hz : z < A.length := (List.getElem?_eq_some_iff.mp h).1
  rw [wR_call (fd := fn_22) rfl rfl]
  have e1 : ∀ A : AH, opC A .eq (.str "set") (.str "field") = some false := fun A => by kernel_rfl
  refine ret_end 9 (F' := [some (mk (.set) [p0, p1]), some (.ref z), some (.str "set"), none]) (by kernel_rfl) rfl ?_
  simp [ev, evs, evo, evw, evc, wkZip, wkOf, wkRng, rng0, rng1, rng2, rng3, small, zipD, unlR, unlockA, lockA, lcL, gOk, asgT, asgTs, nox, bnd, ofO, wR_ok, wR_some, wR_bnd, wS_seq, wS_set, wS_ret, fset, wipeF, opI, opS, cutD, opB, seqL, dctL, h, hJ, biF, biTuple, biLen, L2.atI, L2.ixN, HT.sIx, mk, cz, g0, g1, g2, g3, g4, PySem.sizeLine_eq, Kp.refl, Kp.app, tru, truth, e1]
theorem lw_lett {x_ : String} {p0 p1 a b : D} {z : Nat} (h : A[z]? = some (.lst [a, b])) : wR (callF pg N (n + 1) "_law_with" [mk (.lett x_) [p0, p1], .ref z] A) (fun r_ A' => r_ = mk (.lett x_) [a, b] ∧ Kp A A') := by
  have hJ : ∀ J : AH, (A ++ J)[z]? = some (.lst [a, b]) := fun J => by rw [List.getElem?_append_left (List.getElem?_eq_some_iff.mp h).1]; exact h
  have hz : z < A.length := (List.getElem?_eq_some_iff.mp h).1
  rw [wR_call (fd := fn_22) rfl rfl]
  refine ite_at 3 (F' := [some (mk (.lett x_) [p0, p1]), some (.ref z), some (.str "let"), none]) (by kernel_rfl) (by kernel_rfl) (by kernel_rfl) ?_
  simp [drp, fn_22, iteA, ev, evs, evo, evw, evc, wkZip, wkOf, wkRng, rng0, rng1, rng2, rng3, small, zipD, unlR, unlockA, lockA, lcL, gOk, asgT, asgTs, nox, bnd, ofO, wR_ok, wR_some, wR_bnd, wS_seq, wS_set, wS_ret, fset, wipeF, opI, opS, cutD, opB, seqL, dctL, h, hJ, biF, biTuple, biLen, L2.atI, L2.ixN, HT.sIx, mk, cz, g0, g1, g2, g3, g4, PySem.sizeLine_eq, Kp.refl, Kp.app]
theorem lw_op {o_ : String} {p0 p1 a b : D} {z : Nat} (h : A[z]? = some (.lst [a, b])) : wR (callF pg N (n + 1) "_law_with" [mk (.op o_) [p0, p1], .ref z] A) (fun r_ A' => r_ = mk (.op o_) [a, b] ∧ Kp A A') := by
  have hJ : ∀ J : AH, (A ++ J)[z]? = some (.lst [a, b]) := fun J => by rw [List.getElem?_append_left (List.getElem?_eq_some_iff.mp h).1]; exact h
  have hz : z < A.length := (List.getElem?_eq_some_iff.mp h).1
  rw [wR_call (fd := fn_22) rfl rfl]
  refine ite_at 3 (F' := [some (mk (.op o_) [p0, p1]), some (.ref z), some (.str "op"), none]) (by kernel_rfl) (by kernel_rfl) (by kernel_rfl) ?_
  simp [drp, fn_22, iteA, ev, evs, evo, evw, evc, wkZip, wkOf, wkRng, rng0, rng1, rng2, rng3, small, zipD, unlR, unlockA, lockA, lcL, gOk, asgT, asgTs, nox, bnd, ofO, wR_ok, wR_some, wR_bnd, wS_seq, wS_set, wS_ret, fset, wipeF, opI, opS, cutD, opB, seqL, dctL, h, hJ, biF, biTuple, biLen, L2.atI, L2.ixN, HT.sIx, mk, cz, g0, g1, g2, g3, g4, PySem.sizeLine_eq, Kp.refl, Kp.app]
theorem lw_tryy {p0 p1 a b : D} {z : Nat} (h : A[z]? = some (.lst [a, b])) : wR (callF pg N (n + 1) "_law_with" [mk (.tryy) [p0, p1], .ref z] A) (fun r_ A' => r_ = mk (.tryy) [a, b] ∧ Kp A A') := by
  have hJ : ∀ J : AH, (A ++ J)[z]? = some (.lst [a, b]) := fun J => by rw [List.getElem?_append_left (List.getElem?_eq_some_iff.mp h).1]; exact h
  have hz : z < A.length := (List.getElem?_eq_some_iff.mp h).1
  rw [wR_call (fd := fn_22) rfl rfl]
  refine ite_at 7 (F' := [some (mk (.tryy) [p0, p1]), some (.ref z), some (.str "try"), none]) (by kernel_rfl) (by kernel_rfl) (by kernel_rfl) ?_
  simp [drp, fn_22, iteA, ev, evs, evo, evw, evc, wkZip, wkOf, wkRng, rng0, rng1, rng2, rng3, small, zipD, unlR, unlockA, lockA, lcL, gOk, asgT, asgTs, nox, bnd, ofO, wR_ok, wR_some, wR_bnd, wS_seq, wS_set, wS_ret, fset, wipeF, opI, opS, cutD, opB, seqL, dctL, h, hJ, biF, biTuple, biLen, L2.atI, L2.ixN, HT.sIx, mk, cz, g0, g1, g2, g3, g4, PySem.sizeLine_eq, Kp.refl, Kp.app]
theorem lw_extend {l_ : String} {p0 p1 a b : D} {z : Nat} (h : A[z]? = some (.lst [a, b])) : wR (callF pg N (n + 1) "_law_with" [mk (.extend l_) [p0, p1], .ref z] A) (fun r_ A' => r_ = mk (.extend l_) [a, b] ∧ Kp A A') := by
  have hJ : ∀ J : AH, (A ++ J)[z]? = some (.lst [a, b]) := fun J => by rw [List.getElem?_append_left (List.getElem?_eq_some_iff.mp h).1]; exact h
  have hz : z < A.length := (List.getElem?_eq_some_iff.mp h).1
  rw [wR_call (fd := fn_22) rfl rfl]
  refine ite_at 7 (F' := [some (mk (.extend l_) [p0, p1]), some (.ref z), some (.str "extend"), none]) (by kernel_rfl) (by kernel_rfl) (by kernel_rfl) ?_
  simp [drp, fn_22, iteA, ev, evs, evo, evw, evc, wkZip, wkOf, wkRng, rng0, rng1, rng2, rng3, small, zipD, unlR, unlockA, lockA, lcL, gOk, asgT, asgTs, nox, bnd, ofO, wR_ok, wR_some, wR_bnd, wS_seq, wS_set, wS_ret, fset, wipeF, opI, opS, cutD, opB, seqL, dctL, h, hJ, biF, biTuple, biLen, L2.atI, L2.ixN, HT.sIx, mk, cz, g0, g1, g2, g3, g4, PySem.sizeLine_eq, Kp.refl, Kp.app]
theorem lw_cons {p0 p1 a b : D} {z : Nat} (h : A[z]? = some (.lst [a, b])) : wR (callF pg N (n + 1) "_law_with" [mk (.cons) [p0, p1], .ref z] A) (fun r_ A' => r_ = mk (.cons) [a, b] ∧ Kp A A') := by
  have hJ : ∀ J : AH, (A ++ J)[z]? = some (.lst [a, b]) := fun J => by rw [List.getElem?_append_left (List.getElem?_eq_some_iff.mp h).1]; exact h
  have hz : z < A.length := (List.getElem?_eq_some_iff.mp h).1
  rw [wR_call (fd := fn_22) rfl rfl]
  refine ite_at 4 (F' := [some (mk (.cons) [p0, p1]), some (.ref z), some (.str "con"), none]) (by kernel_rfl) (by kernel_rfl) (by kernel_rfl) ?_
  simp [drp, fn_22, iteA, ev, evs, evo, evw, evc, wkZip, wkOf, wkRng, rng0, rng1, rng2, rng3, small, zipD, unlR, unlockA, lockA, lcL, gOk, asgT, asgTs, nox, bnd, ofO, wR_ok, wR_some, wR_bnd, wS_seq, wS_set, wS_ret, fset, wipeF, opI, opS, cutD, opB, seqL, dctL, h, hJ, biF, biTuple, biLen, L2.atI, L2.ixN, HT.sIx, mk, cz, g0, g1, g2, g3, g4, PySem.sizeLine_eq, Kp.refl, Kp.app]
theorem lw_rec2 {l_ : String} {m_ : String} {p0 p1 a b : D} {z : Nat} (h : A[z]? = some (.lst [a, b])) : wR (callF pg N (n + 1) "_law_with" [mk (.rec2 l_ m_) [p0, p1], .ref z] A) (fun r_ A' => r_ = mk (.rec2 l_ m_) [a, b] ∧ Kp A A') := by
  have hJ : ∀ J : AH, (A ++ J)[z]? = some (.lst [a, b]) := fun J => by rw [List.getElem?_append_left (List.getElem?_eq_some_iff.mp h).1]; exact h
  have hz : z < A.length := (List.getElem?_eq_some_iff.mp h).1
  rw [wR_call (fd := fn_22) rfl rfl]
  refine ite_at 5 (F' := [some (mk (.rec2 l_ m_) [p0, p1]), some (.ref z), some (.str "record"), none]) (by kernel_rfl) (by kernel_rfl) (by kernel_rfl) ?_
  simp [drp, fn_22, iteA, ev, evs, evo, evw, evc, wkZip, wkOf, wkRng, rng0, rng1, rng2, rng3, small, zipD, unlR, unlockA, lockA, lcL, gOk, asgT, asgTs, nox, bnd, ofO, wR_ok, wR_some, wR_bnd, wS_seq, wS_set, wS_ret, fset, wipeF, opI, opS, cutD, opB, seqL, dctL, h, hJ, biF, biTuple, biLen, L2.atI, L2.ixN, HT.sIx, mk, cz, g0, g1, g2, g3, g4, PySem.sizeLine_eq, Kp.refl, Kp.app]
theorem lw_h0 {p0 p1 a b : D} {z : Nat} (h : A[z]? = some (.lst [a, b])) : wR (callF pg N (n + 1) "_law_with" [mk (.h0) [p0, p1], .ref z] A) (fun r_ A' => r_ = mk (.h0) [a, b] ∧ Kp A A') := by
  have hJ : ∀ J : AH, (A ++ J)[z]? = some (.lst [a, b]) := fun J => by rw [List.getElem?_append_left (List.getElem?_eq_some_iff.mp h).1]; exact h
  have hz : z < A.length := (List.getElem?_eq_some_iff.mp h).1
  rw [wR_call (fd := fn_22) rfl rfl]
  refine ite_at 8 (F' := [some (mk (.h0) [p0, p1]), some (.ref z), some (.str "handle"), none]) (by kernel_rfl) (by kernel_rfl) (by kernel_rfl) ?_
  simp [drp, fn_22, iteA, ev, evs, evo, evw, evc, wkZip, wkOf, wkRng, rng0, rng1, rng2, rng3, small, zipD, unlR, unlockA, lockA, lcL, gOk, asgT, asgTs, nox, bnd, ofO, wR_ok, wR_some, wR_bnd, wS_seq, wS_set, wS_ret, fset, wipeF, opI, opS, cutD, opB, seqL, dctL, h, hJ, biF, biTuple, biLen, L2.atI, L2.ixN, HT.sIx, mk, cz, g0, g1, g2, g3, g4, PySem.sizeLine_eq, Kp.refl, Kp.app]
theorem lw_iff {p0 p1 p2 a b c : D} {z : Nat} (h : A[z]? = some (.lst [a, b, c])) : wR (callF pg N (n + 1) "_law_with" [mk (.iff) [p0, p1, p2], .ref z] A) (fun r_ A' => r_ = mk (.iff) [a, b, c] ∧ Kp A A') := by
  have hJ : ∀ J : AH, (A ++ J)[z]? = some (.lst [a, b, c]) := fun J => by rw [List.getElem?_append_left (List.getElem?_eq_some_iff.mp h).1]; exact h
  have hz : z < A.length := (List.getElem?_eq_some_iff.mp h).1
  rw [wR_call (fd := fn_22) rfl rfl]
  have e1 : ∀ A : AH, opC A .eq (.str "if") (.str "field") = some false := fun A => by kernel_rfl
  refine ret_end 9 (F' := [some (mk (.iff) [p0, p1, p2]), some (.ref z), some (.str "if"), none]) (by kernel_rfl) rfl ?_
  simp [ev, evs, evo, evw, evc, wkZip, wkOf, wkRng, rng0, rng1, rng2, rng3, small, zipD, unlR, unlockA, lockA, lcL, gOk, asgT, asgTs, nox, bnd, ofO, wR_ok, wR_some, wR_bnd, wS_seq, wS_set, wS_ret, fset, wipeF, opI, opS, cutD, opB, seqL, dctL, h, hJ, biF, biTuple, biLen, L2.atI, L2.ixN, HT.sIx, mk, cz, g0, g1, g2, g3, g4, PySem.sizeLine_eq, Kp.refl, Kp.app, tru, truth, e1]
theorem lw_mtl {p0 p1 p2 a b c : D} {z : Nat} (h : A[z]? = some (.lst [a, b, c])) : wR (callF pg N (n + 1) "_law_with" [mk (.mtl) [p0, p1, p2], .ref z] A) (fun r_ A' => r_ = mk (.mtl) [a, b, c] ∧ Kp A A') := by
  have hJ : ∀ J : AH, (A ++ J)[z]? = some (.lst [a, b, c]) := fun J => by rw [List.getElem?_append_left (List.getElem?_eq_some_iff.mp h).1]; exact h
  have hz : z < A.length := (List.getElem?_eq_some_iff.mp h).1
  rw [wR_call (fd := fn_22) rfl rfl]
  refine ite_at 6 (F' := [some (mk (.mtl) [p0, p1, p2]), some (.ref z), some (.str "match"), none]) (by kernel_rfl) (by kernel_rfl) (by kernel_rfl) ?_
  simp [drp, fn_22, iteA, ev, evs, evo, evw, evc, wkZip, wkOf, wkRng, rng0, rng1, rng2, rng3, small, zipD, unlR, unlockA, lockA, lcL, gOk, asgT, asgTs, nox, bnd, ofO, wR_ok, wR_some, wR_bnd, wS_seq, wS_set, wS_ret, fset, wipeF, opI, opS, cutD, opB, seqL, dctL, h, hJ, biF, biTuple, biLen, L2.atI, L2.ixN, HT.sIx, mk, cz, g0, g1, g2, g3, g4, PySem.sizeLine_eq, Kp.refl, Kp.app]
theorem lw_mto {p0 p1 p2 a b c : D} {z : Nat} (h : A[z]? = some (.lst [a, b, c])) : wR (callF pg N (n + 1) "_law_with" [mk (.mto) [p0, p1, p2], .ref z] A) (fun r_ A' => r_ = mk (.mto) [a, b, c] ∧ Kp A A') := by
  have hJ : ∀ J : AH, (A ++ J)[z]? = some (.lst [a, b, c]) := fun J => by rw [List.getElem?_append_left (List.getElem?_eq_some_iff.mp h).1]; exact h
  have hz : z < A.length := (List.getElem?_eq_some_iff.mp h).1
  rw [wR_call (fd := fn_22) rfl rfl]
  refine ite_at 6 (F' := [some (mk (.mto) [p0, p1, p2]), some (.ref z), some (.str "match"), none]) (by kernel_rfl) (by kernel_rfl) (by kernel_rfl) ?_
  simp [drp, fn_22, iteA, ev, evs, evo, evw, evc, wkZip, wkOf, wkRng, rng0, rng1, rng2, rng3, small, zipD, unlR, unlockA, lockA, lcL, gOk, asgT, asgTs, nox, bnd, ofO, wR_ok, wR_some, wR_bnd, wS_seq, wS_set, wS_ret, fset, wipeF, opI, opS, cutD, opB, seqL, dctL, h, hJ, biF, biTuple, biLen, L2.atI, L2.ixN, HT.sIx, mk, cz, g0, g1, g2, g3, g4, PySem.sizeLine_eq, Kp.refl, Kp.app]
theorem lw_h1 {o_ : String} {p0 p1 p2 a b c : D} {z : Nat} (h : A[z]? = some (.lst [a, b, c])) : wR (callF pg N (n + 1) "_law_with" [mk (.h1 o_) [p0, p1, p2], .ref z] A) (fun r_ A' => r_ = mk (.h1 o_) [a, b, c] ∧ Kp A A') := by
  have hJ : ∀ J : AH, (A ++ J)[z]? = some (.lst [a, b, c]) := fun J => by rw [List.getElem?_append_left (List.getElem?_eq_some_iff.mp h).1]; exact h
  have hz : z < A.length := (List.getElem?_eq_some_iff.mp h).1
  rw [wR_call (fd := fn_22) rfl rfl]
  refine ite_at 8 (F' := [some (mk (.h1 o_) [p0, p1, p2]), some (.ref z), some (.str "handle"), none]) (by kernel_rfl) (by kernel_rfl) (by kernel_rfl) ?_
  simp [drp, fn_22, iteA, ev, evs, evo, evw, evc, wkZip, wkOf, wkRng, rng0, rng1, rng2, rng3, small, zipD, unlR, unlockA, lockA, lcL, gOk, asgT, asgTs, nox, bnd, ofO, wR_ok, wR_some, wR_bnd, wS_seq, wS_set, wS_ret, fset, wipeF, opI, opS, cutD, opB, seqL, dctL, h, hJ, biF, biTuple, biLen, L2.atI, L2.ixN, HT.sIx, mk, cz, g0, g1, g2, g3, g4, PySem.sizeLine_eq, Kp.refl, Kp.app]
theorem lw_h2 {o_ : String} {p_ : String} {p0 p1 p2 p3 a b c d : D} {z : Nat} (h : A[z]? = some (.lst [a, b, c, d])) : wR (callF pg N (n + 1) "_law_with" [mk (.h2 o_ p_) [p0, p1, p2, p3], .ref z] A) (fun r_ A' => r_ = mk (.h2 o_ p_) [a, b, c, d] ∧ Kp A A') := by
  have hJ : ∀ J : AH, (A ++ J)[z]? = some (.lst [a, b, c, d]) := fun J => by rw [List.getElem?_append_left (List.getElem?_eq_some_iff.mp h).1]; exact h
  have hz : z < A.length := (List.getElem?_eq_some_iff.mp h).1
  rw [wR_call (fd := fn_22) rfl rfl]
  refine ite_at 8 (F' := [some (mk (.h2 o_ p_) [p0, p1, p2, p3]), some (.ref z), some (.str "handle"), none]) (by kernel_rfl) (by kernel_rfl) (by kernel_rfl) ?_
  simp [drp, fn_22, iteA, ev, evs, evo, evw, evc, wkZip, wkOf, wkRng, rng0, rng1, rng2, rng3, small, zipD, unlR, unlockA, lockA, lcL, gOk, asgT, asgTs, nox, bnd, ofO, wR_ok, wR_some, wR_bnd, wS_seq, wS_set, wS_ret, fset, wipeF, opI, opS, cutD, opB, seqL, dctL, h, hJ, biF, biTuple, biLen, L2.atI, L2.ixN, HT.sIx, mk, cz, g0, g1, g2, g3, g4, PySem.sizeLine_eq, Kp.refl, Kp.app]
theorem lw_h3 {o_ : String} {p_ : String} {q_ : String} {p0 p1 p2 p3 p4 a b c d e : D} {z : Nat} (h : A[z]? = some (.lst [a, b, c, d, e])) : wR (callF pg N (n + 1) "_law_with" [mk (.h3 o_ p_ q_) [p0, p1, p2, p3, p4], .ref z] A) (fun r_ A' => r_ = mk (.h3 o_ p_ q_) [a, b, c, d, e] ∧ Kp A A') := by
  have hJ : ∀ J : AH, (A ++ J)[z]? = some (.lst [a, b, c, d, e]) := fun J => by rw [List.getElem?_append_left (List.getElem?_eq_some_iff.mp h).1]; exact h
  have hz : z < A.length := (List.getElem?_eq_some_iff.mp h).1
  rw [wR_call (fd := fn_22) rfl rfl]
  refine ite_at 8 (F' := [some (mk (.h3 o_ p_ q_) [p0, p1, p2, p3, p4]), some (.ref z), some (.str "handle"), none]) (by kernel_rfl) (by kernel_rfl) (by kernel_rfl) ?_
  simp [drp, fn_22, iteA, ev, evs, evo, evw, evc, wkZip, wkOf, wkRng, rng0, rng1, rng2, rng3, small, zipD, unlR, unlockA, lockA, lcL, gOk, asgT, asgTs, nox, bnd, ofO, wR_ok, wR_some, wR_bnd, wS_seq, wS_set, wS_ret, fset, wipeF, opI, opS, cutD, opB, seqL, dctL, h, hJ, biF, biTuple, biLen, L2.atI, L2.ixN, HT.sIx, mk, cz, g0, g1, g2, g3, g4, PySem.sizeLine_eq, Kp.refl, Kp.app]
theorem lw_spec : ∀ (k : Kd) (ds es : List D) (z : Nat), ds.length = ar k → es.length = ar k → A[z]? = some (.lst es) → wR (callF pg N (n + 1) "_law_with" [mk k ds, .ref z] A) (fun r_ A' => r_ = mk k es ∧ Kp A A')
  | .int i, [], [], z, _, _, h => lw_int h
  | .bool b, [], [], z, _, _, h => lw_bool h
  | .unit, [], [], z, _, _, h => lw_unit h
  | .var x, [], [], z, _, _, h => lw_var h
  | .nil, [], [], z, _, _, h => lw_nil h
  | .lam x, [p0], [a], z, _, _, h => lw_lam h
  | .raise, [p0], [a], z, _, _, h => lw_raise h
  | .ref, [p0], [a], z, _, _, h => lw_ref h
  | .get, [p0], [a], z, _, _, h => lw_get h
  | .fst, [p0], [a], z, _, _, h => lw_fst h
  | .snd, [p0], [a], z, _, _, h => lw_snd h
  | .fix x, [p0], [a], z, _, _, h => lw_fix h
  | .perform o, [p0], [a], z, _, _, h => lw_perform h
  | .field l, [p0], [a], z, _, _, h => lw_field h
  | .yes, [p0], [a], z, _, _, h => lw_yes h
  | .rec1 l, [p0], [a], z, _, _, h => lw_rec1 h
  | .app, [p0, p1], [a, b], z, _, _, h => lw_app h
  | .pair, [p0, p1], [a, b], z, _, _, h => lw_pair h
  | .set, [p0, p1], [a, b], z, _, _, h => lw_set h
  | .lett x, [p0, p1], [a, b], z, _, _, h => lw_lett h
  | .op o, [p0, p1], [a, b], z, _, _, h => lw_op h
  | .tryy, [p0, p1], [a, b], z, _, _, h => lw_tryy h
  | .extend l, [p0, p1], [a, b], z, _, _, h => lw_extend h
  | .cons, [p0, p1], [a, b], z, _, _, h => lw_cons h
  | .rec2 l m, [p0, p1], [a, b], z, _, _, h => lw_rec2 h
  | .h0, [p0, p1], [a, b], z, _, _, h => lw_h0 h
  | .iff, [p0, p1, p2], [a, b, c], z, _, _, h => lw_iff h
  | .mtl, [p0, p1, p2], [a, b, c], z, _, _, h => lw_mtl h
  | .mto, [p0, p1, p2], [a, b, c], z, _, _, h => lw_mto h
  | .h1 o, [p0, p1, p2], [a, b, c], z, _, _, h => lw_h1 h
  | .h2 o p, [p0, p1, p2, p3], [a, b, c, d], z, _, _, h => lw_h2 h
  | .h3 o p q, [p0, p1, p2, p3, p4], [a, b, c, d, e], z, _, _, h => lw_h3 h
end K01

/-! ## K01T -/
namespace K01
open Ev
/-! ### terms -/
inductive Tm where
  | nd (k : Kd) (ps : List Tm)
mutual
def toD : Tm → D
  | .nd k ps => mk k (toDs ps)
def toDs : List Tm → List D
  | [] => []
  | t :: r => toD t :: toDs r
end
mutual
def wf : Tm → Prop
  | .nd k ps => ps.length = ar k ∧ wfs ps
def wfs : List Tm → Prop
  | [] => True
  | t :: r => wf t ∧ wfs r
end
mutual
def nodes : Tm → Nat
  | .nd _ ps => 1 + nodesL ps
def nodesL : List Tm → Nat
  | [] => 0
  | t :: r => nodes t + nodesL r
end
mutual
def ht : Tm → Nat
  | .nd _ ps => 1 + htL ps
def htL : List Tm → Nat
  | [] => 0
  | t :: r => max (ht t) (htL r)
end
theorem toDs_map : ∀ ps : List Tm, toDs ps = ps.map toD
  | [] => rfl
  | t :: r => by rw [toDs, List.map_cons, toDs_map r]
theorem toDs_len (ps : List Tm) : (toDs ps).length = ps.length := by rw [toDs_map, List.length_map]
theorem wfs_mem : ∀ {ps : List Tm}, wfs ps → ∀ p ∈ ps, wf p
  | [], _, p, h => by cases h
  | t :: r, h, p, hp => by
    rcases List.mem_cons.mp hp with rfl | hp
    · exact h.1
    · exact wfs_mem h.2 p hp
theorem ht_mem : ∀ {ps : List Tm} {p : Tm}, p ∈ ps → ht p ≤ htL ps
  | t :: r, p, h => by
    rw [htL]
    rcases List.mem_cons.mp h with rfl | h
    · omega
    · have := ht_mem h; omega
theorem nodes_mem : ∀ {ps : List Tm} {p : Tm}, p ∈ ps → nodes p ≤ nodesL ps
  | t :: r, p, h => by
    rw [nodesL]
    rcases List.mem_cons.mp h with rfl | h
    · omega
    · have := nodes_mem h; omega
theorem ar_le (k : Kd) : ar k ≤ 5 := by cases k <;> simp [ar]
theorem sz : PySem.sizeLine = 16777216 := PySem.sizeLine_eq
variable {N n : Nat} {A : AH}

/-! ### the parts, walked -/
theorem walk_new {f : String} {F : Fr} {i : Nat} {d : D} {ds : List D} {P : Wk → AH → Prop} (hs : NL A (callF pg N n f [d] A) ds) (hF : F[i]? = some (some d))
    (h : ∀ B, Kp A B → P ⟨ds, [(B.length, .lst ds)], none⟩ (B ++ [.lst ds])) : wR (evw (callF pg N n) (.wk (.call f (.cons (.var i) .nil))) F A) P := by
  rw [wR_wk, wR_cl, wR_cons, wR_var hF, wR_nil]
  refine hs.mono fun r A' ⟨B, k, e1, e2⟩ => ?_
  subst e1 e2
  have : wkOf (B ++ [.lst ds]) (.ref B.length) = some ⟨ds, [(B.length, .lst ds)], none⟩ := by simp [wkOf]
  rw [this]
  exact h B k
theorem enum_new {f : String} {F : Fr} {i : Nat} {d : D} {ds : List D} {P : Wk → AH → Prop} (hs : NL A (callF pg N n f [d] A) ds) (hF : F[i]? = some (some d))
    (h : ∀ B, Kp A B → P ⟨enumD 0 ds, [(B.length, .lst ds)], none⟩ (B ++ [.lst ds])) : wR (evw (callF pg N n) (.enm (.call f (.cons (.var i) .nil))) F A) P := by
  rw [wR_enm, wR_cl, wR_cons, wR_var hF, wR_nil]
  refine hs.mono fun r A' ⟨B, k, e1, e2⟩ => ?_
  subst e1 e2
  have : wkEnum (B ++ [.lst ds]) (.ref B.length) = some ⟨enumD 0 ds, [(B.length, .lst ds)], none⟩ := by simp [wkEnum, wkOf]
  rw [this]
  exact h B k
theorem gOk_new {B : AH} {ds : List D} : gOk (B ++ [.lst ds]) [(B.length, .lst ds)] = true := by simp [gOk]

/-! ### size -/
theorem intsOf_map (ns : List Nat) : intsOf (ns.map fun (m : Nat) => D.int m) = some (ns.map fun (m : Nat) => (m : Int)) := by
  induction ns with
  | nil => rfl
  | cons m r ih => simp [intsOf, ih]
theorem nodesL_sum (ps : List Tm) : ((ps.map nodes).map fun (m : Nat) => (m : Int)).sum = (nodesL ps : Int) := by
  induction ps with
  | nil => rfl
  | cons t r ih => rw [List.map_cons, List.map_cons, List.sum_cons, ih, nodesL]; omega
theorem fm_some {α β : Type} (f : α → β) (xs : List α) : (xs.map fun x => some (f x)).filterMap id = xs.map f := by
  induction xs with
  | nil => rfl
  | cons x r ih => simp
theorem size_spec : ∀ (n : Nat) (t : Tm) (A : AH), wf t → ht t < n → wR (callF pg N n "size" [toD t] A) (fun r A' => r = .int (nodes t) ∧ Kp A A')
  | 0, t, A, hw, hn => by omega
  | 1, t, A, hw, hn => by cases t; rw [ht] at hn; omega
  | m + 2, .nd k ps, A, hw, hn => by
    rw [wf] at hw
    rw [ht] at hn
    rw [wR_call (fd := fn_6) rfl rfl]
    refine ret_end 0 (F' := [some (mk k (toDs ps)), none]) (by kernel_rfl) rfl ?_
    rw [wR_op]
    show wR (ev (callF pg N (m + 1)) (.bi "sum" _) _ A) _
    rw [wR_bi, wR_cons, wR_lc]
    refine walk_new (pp_spec k (toDs ps) (by rw [toDs_len]; exact hw.1)) rfl fun B kB => ?_
    show wR (bnd _ _) _
    rw [wR_bnd]
    refine lcL_kp ((ps.map fun p => some (D.int (nodes p)))) (by simp [toDs_len]) (by rw [toDs_len, hw.1, sz]; have := ar_le k; omega) gOk_new (fun j d o A' e1 e2 k1 => ?_) fun A' k1 => ?_
    · refine ⟨_, rfl, ?_⟩
      rw [wR_lcB, wR_evc0]
      simp only [if_true]
      rw [toDs_map, List.getElem?_map] at e1
      rw [List.getElem?_map] at e2
      obtain ⟨p, hp, rfl⟩ := Option.map_eq_some_iff.mp e1
      rw [hp] at e2
      cases e2
      have hm := List.mem_of_getElem? hp
      rw [wR_cl, wR_cons, wR_var (d := toD p) rfl, wR_nil]
      refine (size_spec (m + 1) p A' (wfs_mem hw.2 p hm) (by have := ht_mem hm; omega)).mono fun r A'' ⟨h1, h2⟩ => ?_
      subst h1
      exact ⟨rfl, h2⟩
    · rw [wR_ok, wR_nil]
      have e : biF (A' ++ [.lst ((ps.map fun p => some (D.int (nodes p))).filterMap id)]) "sum" [.ref A'.length] = .ok (.int (nodesL ps)) (A' ++ [.lst ((ps.map fun p => some (D.int (nodes p))).filterMap id)]) := by
        rw [fm_some]
        have h1 : intsOf (ps.map fun p => D.int (nodes p)) = some ((ps.map nodes).map fun (m : Nat) => (m : Int)) := by
          have := intsOf_map (ps.map nodes)
          rw [List.map_map] at this
          exact this
        show biSum _ [.ref A'.length] = _
        simp [biSum, seqL, h1]
        have := nodesL_sum ps
        rw [List.map_map] at this
        exact this
      rw [e]
      refine ⟨?_, (kB.trans (Kp.refl.app.trans k1)).app⟩
      rw [nodes]
      show D.int (1 + (nodesL ps : Int)) = _
      congr 1
end K01

/-! ## K01U -/
namespace K01
open Ev
theorem NL.fl {A : AH} {r : Res D} {xs : List D} (h : NL A r xs) : FL A r xs := h.mono fun d A' ⟨B, k, e1, e2⟩ => by
  subst e1 e2
  exact ⟨_, rfl, k.app, k.fresh new_none, new_at⟩
mutual
def paths : Tm → List (List Nat)
  | .nd _ ps => [] :: pathsL 0 ps
def pathsL : Nat → List Tm → List (List Nat)
  | _, [] => []
  | i, t :: r => (paths t).map (i :: ·) ++ pathsL (i + 1) r
end
def pD (p : List Nat) : D := .tup (p.map fun (i : Nat) => D.int i)
mutual
theorem paths_len : ∀ t : Tm, (paths t).length = nodes t
  | .nd k ps => by rw [paths, nodes, List.length_cons, pathsL_len 0 ps]; omega
theorem pathsL_len : ∀ (i : Nat) (ps : List Tm), (pathsL i ps).length = nodesL ps
  | _, [] => rfl
  | i, t :: r => by rw [pathsL, nodesL, List.length_append, List.length_map, paths_len t, pathsL_len (i + 1) r]
end
mutual
theorem path_ht : ∀ (t : Tm) (p : List Nat), p ∈ paths t → p.length < ht t
  | .nd k ps, p, h => by
    rw [paths] at h
    rw [ht]
    rcases List.mem_cons.mp h with rfl | h
    · show 0 < _; omega
    · have := pathL_ht 0 ps p h; omega
theorem pathL_ht : ∀ (i : Nat) (ps : List Tm) (p : List Nat), p ∈ pathsL i ps → p.length ≤ htL ps
  | _, [], p, h => by cases h
  | i, t :: r, p, h => by
    rw [pathsL, List.mem_append] at h
    rw [htL]
    rcases h with h | h
    · obtain ⟨q, hq, rfl⟩ := List.mem_map.mp h
      have := path_ht t q hq
      simp; omega
    · have := pathL_ht (i + 1) r p h; omega
end
theorem pathsL_app : ∀ (i : Nat) (ps : List Tm) (t : Tm), pathsL i (ps ++ [t]) = pathsL i ps ++ (paths t).map (fun p => (i + ps.length) :: p)
  | i, [], t => by simp [pathsL]
  | i, u :: r, t => by
    rw [List.cons_append, pathsL, pathsL, pathsL_app (i + 1) r t, List.append_assoc]
    congr 3
    simp; funext p; congr 1; omega
theorem pathsL_take {ps : List Tm} {i : Nat} {t : Tm} (h : ps[i]? = some t) : pathsL 0 (ps.take (i + 1)) = pathsL 0 (ps.take i) ++ (paths t).map (fun p => i :: p) := by
  have hi : i < ps.length := (List.getElem?_eq_some_iff.mp h).1
  rw [List.take_succ, h]
  show pathsL 0 (ps.take i ++ [t]) = _
  rw [pathsL_app]
  rw [List.length_take, Nat.min_eq_left (by omega), Nat.zero_add]
theorem nodesL_take : ∀ (ps : List Tm) (i : Nat), nodesL (ps.take i) ≤ nodesL ps
  | [], i => by simp [nodesL]
  | t :: r, 0 => by simp [nodesL]
  | t :: r, i + 1 => by rw [List.take_succ_cons, nodesL, nodesL]; have := nodesL_take r i; omega
theorem enumD_get {xs : List D} {k i : Nat} {d : D} (h : (enumD k xs)[i]? = some d) : ∃ y, d = .tup [.int ((k + i : Nat) : Int), y] ∧ xs[i]? = some y := Ev.enum_get h
variable {N n : Nat} {A : AH}
/-- [(index,) + path for path in f(part)] -/
theorem row_paths {cl : String → List D → AH → Res D} {f : String} {F : Fr} {j : Nat} {x : Ex} {d : D} {ix : Nat} {Ps : List (List Nat)} {P : D → AH → Prop} (hF : F[j]? = some (some (.int (ix : Nat)))) (h4 : 4 < F.length) (hj : j ≠ 4)
    (hx : ∀ Q : List D → AH → Prop, Q [d] A → wR (evs cl (.cons x .nil) F A) Q) (hs : FL A (cl f [d] A) (Ps.map pD)) (hz : Ps.length ≤ PySem.sizeLine) (hp : ∀ p ∈ Ps, p.length < 1000)
    (h : ∀ a A', Kp A A' → A[a]? = none → A'[a]? = some (.lst ((Ps.map fun p => ix :: p).map pD)) → P (.ref a) A') :
    wR (ev cl (.lc (.nm 4) (.wk (.call f (.cons x .nil))) .nil (.op .add (.tup (.cons (.var j) .nil)) (.var 4)) [4]) F A) P := by
  rw [wR_lc, wR_wk, wR_cl]
  refine hx _ ?_
  refine hs.walk fun a A1 k1 hn ha => ?_
  show wR (bnd _ _) _
  rw [wR_bnd]
  refine lcL_kp (Ps.map fun p => some (pD (ix :: p))) (by simp) (by simpa using hz) (gOk_one ha) (fun u d' o A' e1 e2 k2 => ?_) fun A' k2 => ?_
  · rw [List.getElem?_map] at e1 e2
    obtain ⟨p, hp', rfl⟩ := Option.map_eq_some_iff.mp e1
    rw [hp'] at e2
    cases e2
    refine ⟨fset (wipeF F [4]) 4 (pD p), rfl, ?_⟩
    rw [wR_lcB, wR_evc0]
    simp only [if_true]
    rw [wR_op]
    have g1 : (fset (wipeF F [4]) 4 (pD p))[j]? = some (some (.int (ix : Nat))) := by
      simp only [fset, wipeF, List.getElem?_set_ne (Ne.symm hj)]; exact hF
    have g2 : (fset (wipeF F [4]) 4 (pD p))[4]? = some (some (pD p)) := by
      simp [fset, wipeF, h4]
    show wR (bnd (evs cl (.cons (.var j) .nil) _ A') _) _
    rw [wR_bnd, wR_cons, wR_var g1, wR_nil]
    show wR (if 1 ≤ PySem.sizeLine then Res.ok (D.tup [.int (ix : Nat)]) A' else .no) _
    rw [if_pos (by rw [sz]; omega), wR_ok, wR_var g2]
    have hl := hp p (List.mem_of_getElem? hp')
    show wR (if 1 + (p.map fun (i : Nat) => D.int i).length ≤ PySem.sizeLine then Res.ok (D.tup ([.int (ix : Nat)] ++ p.map fun (i : Nat) => D.int i)) A' else .no) _
    rw [if_pos (by rw [sz, List.length_map]; omega)]
    exact ⟨rfl, Kp.refl⟩
  · rw [fm_some, wR_ok]
    have k := k1.trans k2
    refine h _ _ k.app (k.fresh new_none) ?_
    rw [List.map_map]
    exact new_at
theorem paths_spec : ∀ (n : Nat) (t : Tm) (A : AH), wf t → ht t < n → n < 1000 → nodes t ≤ PySem.sizeLine → FL A (callF pg N n "paths_of" [toD t] A) ((paths t).map pD)
  | 0, t, A, hw, hn, _, _ => by omega
  | 1, t, A, hw, hn, _, _ => by cases t; rw [ht] at hn; omega
  | m + 2, .nd k ps, A, hw, hn, hN, hz => by
    rw [wf] at hw
    rw [ht] at hn
    rw [nodes] at hz
    show wR _ _
    rw [wR_call (fd := fn_9) rfl rfl]
    show wS (sx _ N fn_9.body [some (mk k (toDs ps)), none, none, none, none] A) _ _ _ _
    rw [fn_9, wS_seq, wS_set]
    show wS (sx _ N _ [some (mk k (toDs ps)), some (.ref A.length), none, none, none] (A ++ [.lst [.tup []]])) _ _ _ _
    rw [wS_seq, wS_for, wR_enm, wR_cl, wR_cons, wR_var (d := mk k (toDs ps)) rfl, wR_nil]
    refine (pp_spec k (toDs ps) (by rw [toDs_len]; exact hw.1)).fl.enum fun b B kB hb1 hb2 => ?_
    have hf0 : B[A.length]? = some (.lst [.tup []]) := kB _ _ new_at
    refine forL_ind (fun i F A' => ∃ x y z, F = [some (mk k (toDs ps)), some (.ref A.length), x, y, z] ∧ Kp A A' ∧ A'[A.length]? = some (.lst (([] :: pathsL 0 (ps.take i)).map pD)) ∧ A'[b]? = some (.lst (toDs ps))) _ 0 _ B
      ⟨none, none, none, rfl, Kp.refl.app.trans kB, hf0, hb2⟩ (fun j d F A' e ⟨x, y, z, eF, k1, h1, h2⟩ => ?_) fun F A' ⟨x, y, z, eF, k1, h1, h2⟩ => ?_
    · subst eF
      refine ⟨gOk_one h2, ?_⟩
      obtain ⟨v, rfl, hv⟩ := enumD_get e
      rw [toDs_map, List.getElem?_map] at hv
      obtain ⟨p, hp, rfl⟩ := Option.map_eq_some_iff.mp hv
      have hm := List.mem_of_getElem? hp
      refine ⟨[some (mk k (toDs ps)), some (.ref A.length), some (.int ((0 + j : Nat) : Int)), some (toD p), z], rfl, ?_⟩
      have hnp := nodes_mem hm
      rw [wS_seq, wS_ex, wR_mth, wR_var (d := .ref A.length) rfl, mkM_lst h1 rfl]
      show wR (evs _ _ _ A') _
      rw [wR_cons]
      refine row_paths (d := toD p) (ix := 0 + j) rfl (by simp) (by decide) (fun Q hQ => ?_) (paths_spec (m + 1) p A' (wfs_mem hw.2 p hm) (by have := ht_mem hm; omega) (by omega) (by omega)) (by rw [paths_len]; omega)
        (fun q hq => by have := path_ht p q hq; have := ht_mem hm; omega) fun a A2 k2 ha1 ha2 => ?_
      · rw [wR_cons, wR_var (d := toD p) rfl, wR_nil]
        exact hQ
      · rw [wR_nil, extend_eq (k2 _ _ h1) ha2 (by
          simp only [List.length_map, List.length_cons, pathsL_len, paths_len]
          have h3 := nodesL_take ps (j + 1)
          have h4 := congrArg List.length (pathsL_take hp)
          simp only [List.length_append, List.length_map, pathsL_len, paths_len] at h4
          rw [Nat.zero_add] at *
          omega), wR_ok, wS_skip]
        have hb : A.length ≠ b := fun e => by
          rw [← e] at hb1
          have := (List.getElem?_eq_none_iff.mp hb1)
          simp at this
          omega
        refine ⟨_, _, _, rfl, (k1.trans k2).set new_none, ?_, set_ne (k2 _ _ h2) hb⟩
        rw [set_at (k2 _ _ h1)]
        rw [Nat.zero_add, pathsL_take hp]
        simp
    · subst eF
      refine ⟨gOk_one h2, ?_⟩
      rw [wS_seq, wS_ret, wR_var (d := .ref A.length) rfl]
      refine ⟨A.length, rfl, k1, new_none, ?_⟩
      rw [Nat.zero_add, Ev.enum_len, toDs_len, List.take_length] at h1
      rw [h1, paths]
end K01

/-! ## K01V -/
namespace K01
open Ev
variable {N n : Nat} {A : AH}
theorem law_paths_spec : ∀ (n : Nat) (t : Tm) (A : AH), wf t → ht t < n → n < 1000 → nodes t ≤ PySem.sizeLine → FL A (callF pg N n "_law_paths" [toD t] A) ((paths t).map pD)
  | 0, t, A, hw, hn, _, _ => by omega
  | 1, t, A, hw, hn, _, _ => by cases t; rw [ht] at hn; omega
  | m + 2, .nd k ps, A, hw, hn, hN, hz => by
    rw [wf] at hw
    rw [ht] at hn
    rw [nodes] at hz
    show wR _ _
    rw [wR_call (fd := fn_23) rfl rfl]
    show wS (sx _ N fn_23.body [some (mk k (toDs ps)), none, none, none, none] A) _ _ _ _
    rw [fn_23, wS_seq, wS_set]
    show wS (sx _ N _ [some (mk k (toDs ps)), some (.ref A.length), none, none, none] (A ++ [.lst [.tup []]])) _ _ _ _
    rw [wS_seq, wS_set, wR_cl, wR_cons, wR_var (d := mk k (toDs ps)) rfl, wR_nil]
    refine (lp_spec k (toDs ps) (by rw [toDs_len]; exact hw.1)).fl.mono fun r B ⟨b, er, kB, hb1, hb2⟩ => ?_
    subst er
    have hf0 : B[A.length]? = some (.lst [.tup []]) := kB _ _ new_at
    show wS (sx _ N _ [some (mk k (toDs ps)), some (.ref A.length), some (.ref b), none, none] B) _ _ _ _
    rw [wS_seq, wS_for, wR_rng, wR_cons, wR_bi, wR_cons, wR_var (d := .ref b) rfl, wR_nil, len_lst hb2, wR_ok, wR_nil, wkRng_nat (by rw [toDs_len, hw.1]; have := ar_le k; omega), wR_some]
    refine forL_ind (fun i F A' => ∃ f x y, F = [some (mk k (toDs ps)), some (.ref f), some (.ref b), x, y] ∧ Kp A A' ∧ A[f]? = none ∧ A'[f]? = some (.lst (([] :: pathsL 0 (ps.take i)).map pD)) ∧ A'[b]? = some (.lst (toDs ps))) _ 0 _ B
      ⟨A.length, none, none, rfl, Kp.refl.app.trans kB, new_none, hf0, hb2⟩ (fun j d F A' e ⟨f, x, y, eF, k1, hf, h1, h2⟩ => ?_) fun F A' ⟨f, x, y, eF, k1, hf, h1, h2⟩ => ?_
    · subst eF
      refine ⟨rfl, ?_⟩
      have e : ((List.range (toDs ps).length).map fun (i : Nat) => D.int (i : Int))[j]? = some d := e
      rw [List.getElem?_map] at e
      obtain ⟨j', e1, rfl⟩ := Option.map_eq_some_iff.mp e
      obtain ⟨hj, e2⟩ := List.getElem?_eq_some_iff.mp e1
      have hj' : j < ps.length := by simpa [toDs_len] using hj
      have : j' = j := by rw [← e2]; simp
      subst this
      have hp : ps[j']? = some ps[j'] := List.getElem?_eq_getElem hj'
      generalize ps[j'] = p at hp
      have hm := List.mem_of_getElem? hp
      have hnp := nodes_mem hm
      refine ⟨[some (mk k (toDs ps)), some (.ref f), some (.ref b), some (.int (j' : Nat)), y], rfl, ?_⟩
      rw [wS_seq, wS_set, wR_op, wR_var (d := .ref f) rfl]
      refine row_paths (d := toD p) (ix := j') rfl (by simp) (by decide) (fun Q hQ => ?_) (law_paths_spec (m + 1) p A' (wfs_mem hw.2 p hm) (by have := ht_mem hm; omega) (by omega) (by omega)) (by rw [paths_len]; omega)
        (fun q hq => by have := path_ht p q hq; have := ht_mem hm; omega) fun a A2 k2 ha1 ha2 => ?_
      · have e3 : opI A' (.ref b) (.int (j' : Nat)) = some (toD p) := by
          rw [opI_lst h2, atI_nat, toDs_map, List.getElem?_map, hp]; rfl
        rw [wR_cons, wR_ix, wR_var (d := .ref b) rfl, wR_var (d := .int (j' : Nat)) rfl, e3, wR_some, wR_nil]
        exact hQ
      · rw [add_lst (k2 _ _ h1) ha2 (by
          simp only [List.length_map, List.length_cons, pathsL_len, paths_len]
          have h3 := nodesL_take ps (j' + 1)
          have h4 := congrArg List.length (pathsL_take hp)
          simp only [List.length_append, List.length_map, pathsL_len, paths_len] at h4
          rw [Nat.zero_add]
          omega), wR_ok, wS_skip]
        have k3 := k1.trans k2
        refine ⟨A2.length, _, _, rfl, k3.app, k3.fresh new_none, ?_, app_at (k2 _ _ h2)⟩
        rw [new_at]
        rw [Nat.zero_add, pathsL_take hp]
        simp
    · subst eF
      refine ⟨rfl, ?_⟩
      rw [wS_seq, wS_ret, wR_var (d := .ref f) rfl]
      refine ⟨f, rfl, k1, hf, ?_⟩
      simp only [Nat.zero_add, List.length_map, List.length_range] at h1
      rw [toDs_len, List.take_length] at h1
      rw [h1, paths]
end K01

/-! ## K01X -/
namespace K01
open Ev
theorem wR_evo0 {cl : String → List D → AH → Res D} {F : Fr} {A : AH} {P : Option Int → AH → Prop} : wR (evo cl .nil F A) P ↔ P none A := Iff.rfl
theorem wR_evo1 {cl : String → List D → AH → Res D} {F : Fr} {A : AH} {i : Int} {r : Ex} {P : Option Int → AH → Prop} : wR (evo cl (.cons (.int i) r) F A) P ↔ P (some i) A := Iff.rfl
/-- the part at a path -/
def atT : Tm → List Nat → Option Tm
  | t, [] => some t
  | .nd _ ps, i :: p => match ps[i]? with
    | some u => atT u p
    | none => none
theorem atT_wf : ∀ {t : Tm} {p : List Nat} {s : Tm}, wf t → atT t p = some s → wf s
  | t, [], s, h, e => by cases t; cases e; exact h
  | .nd k ps, i :: p, s, h, e => by
    rw [atT] at e
    split at e
    · rename_i u hu
      exact atT_wf (wfs_mem h.2 u (List.mem_of_getElem? hu)) e
    · cases e
mutual
theorem atT_paths : ∀ (t : Tm) (p : List Nat), p ∈ paths t → ∃ s, atT t p = some s
  | .nd k ps, p, h => by
    rw [paths] at h
    rcases List.mem_cons.mp h with rfl | h
    · exact ⟨_, rfl⟩
    · obtain ⟨i, q, u, rfl, hu, s, hs⟩ := atL_paths 0 ps p h
      refine ⟨s, ?_⟩
      rw [Nat.zero_add, atT, hu]
      exact hs
theorem atL_paths : ∀ (j : Nat) (ps : List Tm) (p : List Nat), p ∈ pathsL j ps → ∃ i q u, p = (j + i) :: q ∧ ps[i]? = some u ∧ ∃ s, atT u q = some s
  | _, [], p, h => by cases h
  | j, t :: r, p, h => by
    rw [pathsL, List.mem_append] at h
    rcases h with h | h
    · obtain ⟨q, hq, rfl⟩ := List.mem_map.mp h
      obtain ⟨s, hs⟩ := atT_paths t q hq
      exact ⟨0, q, t, rfl, rfl, s, hs⟩
    · obtain ⟨i, q, u, rfl, hu, hs⟩ := atL_paths (j + 1) r p h
      exact ⟨i + 1, q, u, by congr 1; omega, by simpa using hu, hs⟩
end
/-- a part put in at a path -/
def setT : Tm → List Nat → D → D
  | _, [], d => d
  | .nd k ps, i :: p, d => match ps[i]? with
    | some u => mk k ((toDs ps).set i (setT u p d))
    | none => d
variable {N n : Nat} {A : AH}
theorem parts_set {f : String} {F : Fr} {i : Nat} {k : Kd} {ds : List D} {P : D → AH → Prop} (hs : FL A (callF pg N n f [mk k ds] A) ds) (hF : F[i]? = some (some (mk k ds))) (h : ∀ a A', Kp A A' → A[a]? = none → A'[a]? = some (.lst ds) → P (.ref a) A') :
    wR (ev (callF pg N n) (.call f (.cons (.var i) .nil)) F A) P := by
  rw [wR_cl, wR_cons, wR_var hF, wR_nil]
  exact hs.mono fun d A' ⟨a, e, k1, k2, k3⟩ => by subst e; exact h a A' k1 k2 k3
theorem get_toDs {ps : List Tm} {i : Nat} {u : Tm} (h : ps[i]? = some u) : (toDs ps)[i]? = some (toD u) := by
  rw [toDs_map, List.getElem?_map, h]; rfl
theorem drop_at {p : List Nat} {j i : Nat} (h : p[j]? = some i) : p.drop j = i :: p.drop (j + 1) := by
  obtain ⟨h1, h2⟩ := List.getElem?_eq_some_iff.mp h
  rw [List.drop_eq_getElem_cons h1, h2]
theorem atT_step {s : Tm} {k : Kd} {ps : List Tm} {i : Nat} {q : List Nat} (h : atT (.nd k ps) (i :: q) = some s) : ∃ v, ps[i]? = some v ∧ atT v q = some s := by
  rw [atT] at h
  split at h
  · rename_i v hv; exact ⟨v, hv, h⟩
  · cases h
theorem part_at_spec {t s : Tm} {p : List Nat} (hw : wf t) (h : atT t p = some s) : wR (callF pg N (n + 2) "part_at" [toD t, pD p] A) (fun r A' => r = toD s ∧ Kp A A') := by
  rw [wR_call (fd := fn_7) rfl rfl]
  show wS (sx _ N fn_7.body [some (toD t), some (pD p), none, none] A) _ _ _ _
  rw [fn_7, wS_seq, wS_for, wR_wk, wR_var (d := pD p) rfl]
  show wS (unlS none (forL _ [] _ (p.map fun (i : Nat) => D.int i) _ _)) _ _ _ _
  refine forL_ind (fun i F A' => ∃ u x y, F = [some (toD u), some (pD p), x, y] ∧ wf u ∧ atT u (p.drop i) = some s ∧ Kp A A') _ 0 _ A ⟨t, none, none, rfl, hw, h, Kp.refl⟩ (fun j d F A' e ⟨u, x, y, eF, hu, hat, k1⟩ => ?_) fun F A' ⟨u, x, y, eF, hu, hat, k1⟩ => ?_
  · subst eF
    refine ⟨rfl, ?_⟩
    rw [List.getElem?_map] at e
    obtain ⟨i, hi, rfl⟩ := Option.map_eq_some_iff.mp e
    rw [Nat.zero_add, drop_at hi] at hat
    obtain ⟨k, ps⟩ := u
    obtain ⟨v, hv, hat⟩ := atT_step hat
    have hl : i < ps.length := (List.getElem?_eq_some_iff.mp hv).1
    rw [wf] at hu
    refine ⟨[some (mk k (toDs ps)), some (pD p), some (.int (i : Nat)), y], rfl, ?_⟩
    rw [wS_seq, wS_set]
    refine parts_set (pp_spec k (toDs ps) (by rw [toDs_len]; exact hu.1)).fl rfl fun a A2 k2 ha1 ha2 => ?_
    show wS (sx _ N _ [some (mk k (toDs ps)), some (pD p), some (.int (i : Nat)), some (.ref a)] A2) _ _ _ _
    have hlt : decide ((i : Int) < ((toDs ps).length : Int)) = true := decide_eq_true (by rw [toDs_len]; omega)
    have hge : decide ((0 : Int) ≤ (i : Int)) = true := decide_eq_true (by omega)
    rw [wS_seq, wS_ite, wR_tru, wR_not, wR_chn, wR_int, wR_var (d := .int (i : Nat)) rfl]
    show wR (ofO (some (decide ((0 : Int) ≤ (i : Int)))) A2) _
    rw [hge, wR_some, if_pos rfl, wR_bi, wR_cons, wR_var (d := .ref a) rfl, wR_nil, len_lst ha2, wR_ok]
    show wR (ofO (some (D.bl (decide ((i : Int) < ((toDs ps).length : Int))))) A2) _
    rw [hlt]
    show wS (sx _ N _ _ A2) _ _ _ _
    rw [wS_seq, wS_set, wR_ix, wR_var (d := .ref a) rfl, wR_var (d := .int (i : Nat)) rfl, opI_lst ha2, atI_nat, get_toDs hv, wR_some, wS_skip]
    exact ⟨v, some (.int (i : Nat)), some (.ref a), rfl, wfs_mem hu.2 v (List.mem_of_getElem? hv), by rw [Nat.zero_add]; exact hat, k1.trans k2⟩
  · subst eF
    refine ⟨rfl, ?_⟩
    rw [List.length_map, Nat.zero_add, List.drop_length] at hat
    cases u
    cases hat
    rw [wS_seq, wS_ret, wR_var rfl]
    exact ⟨rfl, k1⟩
theorem part_at_none {t s : Tm} {p : List Nat} (hw : wf t) (h : atT t p = some s) : wR (callF pg N (n + 2) "part_at" [toD t, pD (p ++ [9])] A) (fun r A' => r = .non ∧ Kp A A') := by
  rw [wR_call (fd := fn_7) rfl rfl]
  show wS (sx _ N fn_7.body [some (toD t), some (pD (p ++ [9])), none, none] A) _ _ _ _
  rw [fn_7, wS_seq, wS_for, wR_wk, wR_var (d := pD (p ++ [9])) rfl]
  show wS (unlS none (forL _ [] _ ((p ++ [9]).map fun (i : Nat) => D.int i) _ _)) _ _ _ _
  refine forL_ind (fun i F A' => i ≤ p.length ∧ ∃ u x y, F = [some (toD u), some (pD (p ++ [9])), x, y] ∧ wf u ∧ atT u (p.drop i) = some s ∧ Kp A A') _ 0 _ A ⟨Nat.zero_le _, t, none, none, rfl, hw, h, Kp.refl⟩ (fun j d F A' e ⟨hj, u, x, y, eF, hu, hat, k1⟩ => ?_) fun F A' ⟨hj, _⟩ => ?_
  · subst eF
    refine ⟨rfl, ?_⟩
    rw [Nat.zero_add] at hj hat
    obtain ⟨k, ps⟩ := u
    rw [wf] at hu
    by_cases hlt : j < p.length
    · have hi : p[j]? = some p[j] := List.getElem?_eq_getElem hlt
      generalize p[j] = i at hi
      have e : ((p ++ [9]).map fun (i : Nat) => D.int i)[j]? = some d := e
      rw [List.getElem?_map, List.getElem?_append_left hlt, hi] at e
      cases e
      rw [drop_at hi] at hat
      obtain ⟨v, hv, hat⟩ := atT_step hat
      have hl : i < ps.length := (List.getElem?_eq_some_iff.mp hv).1
      refine ⟨[some (mk k (toDs ps)), some (pD (p ++ [9])), some (.int (i : Nat)), y], rfl, ?_⟩
      rw [wS_seq, wS_set]
      refine parts_set (pp_spec k (toDs ps) (by rw [toDs_len]; exact hu.1)).fl rfl fun a A2 k2 ha1 ha2 => ?_
      show wS (sx _ N _ [some (mk k (toDs ps)), some (pD (p ++ [9])), some (.int (i : Nat)), some (.ref a)] A2) _ _ _ _
      have hlt2 : decide ((i : Int) < ((toDs ps).length : Int)) = true := decide_eq_true (by rw [toDs_len]; omega)
      have hge : decide ((0 : Int) ≤ (i : Int)) = true := decide_eq_true (by omega)
      rw [wS_seq, wS_ite, wR_tru, wR_not, wR_chn, wR_int, wR_var (d := .int (i : Nat)) rfl]
      show wR (ofO (some (decide ((0 : Int) ≤ (i : Int)))) A2) _
      rw [hge, wR_some, if_pos rfl, wR_bi, wR_cons, wR_var (d := .ref a) rfl, wR_nil, len_lst ha2, wR_ok]
      show wR (ofO (some (D.bl (decide ((i : Int) < ((toDs ps).length : Int))))) A2) _
      rw [hlt2]
      show wS (sx _ N _ _ A2) _ _ _ _
      rw [wS_seq, wS_set, wR_ix, wR_var (d := .ref a) rfl, wR_var (d := .int (i : Nat)) rfl, opI_lst ha2, atI_nat, get_toDs hv, wR_some, wS_skip]
      exact ⟨by omega, v, some (.int (i : Nat)), some (.ref a), rfl, wfs_mem hu.2 v (List.mem_of_getElem? hv), by rw [Nat.zero_add]; exact hat, k1.trans k2⟩
    · have hjj : j = p.length := by omega
      subst hjj
      have e : ((p ++ [9]).map fun (i : Nat) => D.int i)[p.length]? = some d := e
      rw [List.getElem?_map, List.getElem?_append_right (Nat.le_refl _), Nat.sub_self] at e
      cases e
      refine ⟨[some (mk k (toDs ps)), some (pD (p ++ [9])), some (.int 9), y], rfl, ?_⟩
      rw [wS_seq, wS_set]
      refine parts_set (pp_spec k (toDs ps) (by rw [toDs_len]; exact hu.1)).fl rfl fun a A2 k2 ha1 ha2 => ?_
      show wS (sx _ N _ [some (mk k (toDs ps)), some (pD (p ++ [9])), some (.int 9), some (.ref a)] A2) _ _ _ _
      have hlt2 : decide ((9 : Int) < ((toDs ps).length : Int)) = false := decide_eq_false (by rw [toDs_len, hu.1]; have := ar_le k; omega)
      rw [wS_seq, wS_ite, wR_tru, wR_not, wR_chn, wR_int, wR_var (d := .int 9) rfl]
      show wR (ofO (some (decide ((0 : Int) ≤ (9 : Int)))) A2) _
      rw [show decide ((0 : Int) ≤ (9 : Int)) = true from rfl, wR_some, if_pos rfl, wR_bi, wR_cons, wR_var (d := .ref a) rfl, wR_nil, len_lst ha2, wR_ok]
      show wR (ofO (some (D.bl (decide ((9 : Int) < ((toDs ps).length : Int))))) A2) _
      rw [hlt2, wR_some]
      show wR (ofO (some (D.bl true)) A2) _
      rw [wR_some]
      show wR (ofO (some true) A2) _
      rw [wR_some, if_pos rfl, wS_seq, wS_ret]
      exact ⟨rfl, k1.trans k2⟩
  · rw [List.length_map, List.length_append] at hj
    simp at hj
    omega
theorem law_at_spec {t s : Tm} {p : List Nat} (hw : wf t) (h : atT t p = some s) : wR (callF pg N (n + 2) "_law_at" [toD t, pD p] A) (fun r A' => r = toD s ∧ Kp A A') := by
  rw [wR_call (fd := fn_24) rfl rfl]
  show wS (sx _ N fn_24.body [some (toD t), some (pD p), none] A) _ _ _ _
  rw [fn_24, wS_seq, wS_for, wR_wk, wR_var (d := pD p) rfl]
  show wS (unlS none (forL _ [] _ (p.map fun (i : Nat) => D.int i) _ _)) _ _ _ _
  refine forL_ind (fun i F A' => ∃ u x, F = [some (toD u), some (pD p), x] ∧ wf u ∧ atT u (p.drop i) = some s ∧ Kp A A') _ 0 _ A ⟨t, none, rfl, hw, h, Kp.refl⟩ (fun j d F A' e ⟨u, x, eF, hu, hat, k1⟩ => ?_) fun F A' ⟨u, x, eF, hu, hat, k1⟩ => ?_
  · subst eF
    refine ⟨rfl, ?_⟩
    rw [List.getElem?_map] at e
    obtain ⟨i, hi, rfl⟩ := Option.map_eq_some_iff.mp e
    rw [Nat.zero_add, drop_at hi] at hat
    obtain ⟨k, ps⟩ := u
    obtain ⟨v, hv, hat⟩ := atT_step hat
    rw [wf] at hu
    refine ⟨[some (mk k (toDs ps)), some (pD p), some (.int (i : Nat))], rfl, ?_⟩
    rw [wS_seq, wS_set, wR_ix]
    refine parts_set (lp_spec k (toDs ps) (by rw [toDs_len]; exact hu.1)).fl rfl fun a A2 k2 ha1 ha2 => ?_
    rw [wR_var (d := .int (i : Nat)) rfl, opI_lst ha2, atI_nat, get_toDs hv, wR_some, wS_skip]
    exact ⟨v, some (.int (i : Nat)), rfl, wfs_mem hu.2 v (List.mem_of_getElem? hv), by rw [Nat.zero_add]; exact hat, k1.trans k2⟩
  · subst eF
    refine ⟨rfl, ?_⟩
    rw [List.length_map, Nat.zero_add, List.drop_length] at hat
    cases u
    cases hat
    rw [wS_seq, wS_ret, wR_var rfl]
    exact ⟨rfl, k1⟩
theorem pD_cons {i : Nat} {p : List Nat} : pD (i :: p) = .tup (.int (i : Nat) :: p.map fun (i : Nat) => D.int i) := rfl
theorem with_part_spec : ∀ (p : List Nat) (n : Nat) (t s : Tm) (d : D) (A : AH), wf t → atT t p = some s → p.length + 1 < n → wR (callF pg N n "with_part" [toD t, pD p, d] A) (fun r A' => r = setT t p d ∧ Kp A A')
  | _, 0, t, s, d, A, hw, h, hn => by omega
  | _, 1, t, s, d, A, hw, h, hn => by omega
  | [], n + 2, t, s, d, A, hw, h, hn => by
    rw [wR_call (fd := fn_8) rfl rfl]
    refine ret_at 0 (F' := [some (toD t), some (pD []), some d, none]) (by kernel_rfl) (by kernel_rfl) (by kernel_rfl) ?_
    show wR (ev _ (.var 2) _ A) _
    rw [wR_var (d := d) rfl]
    cases t
    exact ⟨rfl, Kp.refl⟩
  | i :: p, n + 2, .nd k ps, s, d, A, hw, h, hn => by
    rw [wf] at hw
    obtain ⟨v, hv, hat⟩ := atT_step h
    have hl : i < ps.length := (List.getElem?_eq_some_iff.mp hv).1
    rw [wR_call (fd := fn_8) rfl rfl]
    show wS (sx _ N fn_8.body [some (mk k (toDs ps)), some (pD (i :: p)), some d, none] A) _ _ _ _
    rw [fn_8, wS_seq, wS_ite, wR_tru, wR_not, wR_var (d := pD (i :: p)) rfl]
    show wR (ofO (some (D.bl false)) A) _
    rw [wR_some]
    show wR (ofO (some false) A) _
    rw [wR_some, if_neg (by decide), wS_skip, wS_seq, wS_set]
    refine parts_set (pp_spec k (toDs ps) (by rw [toDs_len]; exact hw.1)).fl rfl fun a A2 k2 ha1 ha2 => ?_
    show wS (sx _ N _ [some (mk k (toDs ps)), some (pD (i :: p)), some d, some (.ref a)] A2) _ _ _ _
    have hi0 : ∀ A' : AH, opI A' (pD (i :: p)) (.int 0) = some (.int (i : Nat)) := fun A' => atI_nat (xs := .int (i : Nat) :: p.map fun (i : Nat) => D.int i) (i := 0)
    rw [wS_seq, wS_sub, wR_cl, wR_cons, wR_ix, wR_var (d := .ref a) rfl, wR_ix, wR_var (d := pD (i :: p)) rfl, wR_int, hi0, wR_some, opI_lst ha2, atI_nat, get_toDs hv, wR_some, wR_cons, wR_sl, wR_var (d := pD (i :: p)) rfl, wR_evo1, wR_evo0, pD_cons, opS, cut_1, wR_ok, wR_cons, wR_var (d := d) rfl, wR_nil]
    refine (with_part_spec p (n + 1) v s d A2 (wfs_mem hw.2 v (List.mem_of_getElem? hv)) hat (by simp at hn; omega)).mono fun r A3 ⟨er, k3⟩ => ?_
    subst er
    rw [wR_var (d := .ref a) rfl, wR_ix, wR_var (d := pD (i :: p)) rfl, wR_int, hi0, wR_some]
    refine ⟨_, set_lst (k3 _ _ ha2) (by rw [toDs_len]; exact hl), ?_⟩
    rw [wS_seq, wS_ret, wR_cl, wR_cons, wR_var (d := mk k (toDs ps)) rfl, wR_cons, wR_var (d := .ref a) rfl, wR_nil]
    refine (pw_spec k (toDs ps) ((toDs ps).set i (setT v p d)) a (by rw [toDs_len]; exact hw.1) (by rw [List.length_set, toDs_len]; exact hw.1) (set_at (k3 _ _ ha2))).mono fun r A4 ⟨er, k4⟩ => ?_
    subst er
    refine ⟨?_, ((k2.trans k3).set ha1).trans k4⟩
    rw [setT, hv]
theorem law_set_spec : ∀ (p : List Nat) (n : Nat) (t s : Tm) (d : D) (A : AH), wf t → atT t p = some s → p.length + 1 < n → wR (callF pg N n "_law_set" [toD t, pD p, d] A) (fun r A' => r = setT t p d ∧ Kp A A')
  | _, 0, t, s, d, A, hw, h, hn => by omega
  | _, 1, t, s, d, A, hw, h, hn => by omega
  | [], n + 2, t, s, d, A, hw, h, hn => by
    rw [wR_call (fd := fn_25) rfl rfl]
    refine ret_at 0 (F' := [some (toD t), some (pD []), some d, none]) (by kernel_rfl) (by kernel_rfl) (by kernel_rfl) ?_
    show wR (ev _ (.var 2) _ A) _
    rw [wR_var (d := d) rfl]
    cases t
    exact ⟨rfl, Kp.refl⟩
  | i :: p, n + 2, .nd k ps, s, d, A, hw, h, hn => by
    rw [wf] at hw
    obtain ⟨v, hv, hat⟩ := atT_step h
    have hl : i < ps.length := (List.getElem?_eq_some_iff.mp hv).1
    rw [wR_call (fd := fn_25) rfl rfl]
    show wS (sx _ N fn_25.body [some (mk k (toDs ps)), some (pD (i :: p)), some d, none] A) _ _ _ _
    rw [fn_25, wS_seq, wS_ite, wR_tru, wR_cmp, wR_var (d := pD (i :: p)) rfl]
    show wR (ofO ((opC A .eq (.tup ((i :: p).map fun (i : Nat) => D.int i)) (.tup [])).map D.bl) A) _
    rw [eq_nil_ints]
    show wR (ofO (some (D.bl false)) A) _
    rw [wR_some]
    show wR (ofO (some false) A) _
    rw [wR_some, if_neg (by decide), wS_skip, wS_seq, wS_set]
    refine parts_set (lp_spec k (toDs ps) (by rw [toDs_len]; exact hw.1)).fl rfl fun a A2 k2 ha1 ha2 => ?_
    show wS (sx _ N _ [some (mk k (toDs ps)), some (pD (i :: p)), some d, some (.ref a)] A2) _ _ _ _
    have hi0 : ∀ A' : AH, opI A' (pD (i :: p)) (.int 0) = some (.int (i : Nat)) := fun A' => atI_nat (xs := .int (i : Nat) :: p.map fun (i : Nat) => D.int i) (i := 0)
    rw [wS_seq, wS_sub, wR_cl, wR_cons, wR_ix, wR_var (d := .ref a) rfl, wR_ix, wR_var (d := pD (i :: p)) rfl, wR_int, hi0, wR_some, opI_lst ha2, atI_nat, get_toDs hv, wR_some, wR_cons, wR_sl, wR_var (d := pD (i :: p)) rfl, wR_evo1, wR_evo0, pD_cons, opS, cut_1, wR_ok, wR_cons, wR_var (d := d) rfl, wR_nil]
    refine (law_set_spec p (n + 1) v s d A2 (wfs_mem hw.2 v (List.mem_of_getElem? hv)) hat (by simp at hn; omega)).mono fun r A3 ⟨er, k3⟩ => ?_
    subst er
    rw [wR_var (d := .ref a) rfl, wR_ix, wR_var (d := pD (i :: p)) rfl, wR_int, hi0, wR_some]
    refine ⟨_, set_lst (k3 _ _ ha2) (by rw [toDs_len]; exact hl), ?_⟩
    rw [wS_seq, wS_ret, wR_cl, wR_cons, wR_var (d := mk k (toDs ps)) rfl, wR_cons, wR_var (d := .ref a) rfl, wR_nil]
    refine (lw_spec k (toDs ps) ((toDs ps).set i (setT v p d)) a (by rw [toDs_len]; exact hw.1) (by rw [List.length_set, toDs_len]; exact hw.1) (set_at (k3 _ _ ha2))).mono fun r A4 ⟨er, k4⟩ => ?_
    subst er
    refine ⟨?_, ((k2.trans k3).set ha1).trans k4⟩
    rw [setT, hv]
end K01

/-! ## K01F -/
namespace K01
open Ev
/-! ### free names -/
mutual
def fr : Tm → List String
  | .nd k ps => match k with
    | .var x => [x]
    | k => frs k 0 ps []
def frs (k : Kd) : Nat → List Tm → List String → List String
  | _, [], acc => acc
  | i, t :: r, acc => frs k (i + 1) r (acc ++ (fr t).filter fun x => !(bd k i).contains x && !acc.contains x)
end
def AN : List String := ["x", "y", "z", "c", "w", "e", "a", "k", "r", "h", "t", "q", "f"]
mutual
/-- the names that stand free or bound in it are the law's -/
def vn : Tm → Prop
  | .nd k ps => (∀ x, k = .var x → x ∈ AN) ∧ vns ps
def vns : List Tm → Prop
  | [] => True
  | t :: r => vn t ∧ vns r
end
theorem vns_mem : ∀ {ps : List Tm}, vns ps → ∀ p ∈ ps, vn p
  | [], _, p, h => by cases h
  | t :: r, h, p, hp => by
    rcases List.mem_cons.mp hp with rfl | hp
    · exact h.1
    · exact vns_mem h.2 p hp
mutual
theorem fr_good : ∀ t : Tm, vn t → (fr t).Nodup ∧ ∀ x ∈ fr t, x ∈ AN
  | .nd k ps, h => by
    rw [vn] at h
    unfold fr
    split
    · rename_i x
      exact ⟨by simp, fun y hy => by rw [List.mem_singleton.mp hy]; exact h.1 x rfl⟩
    · exact frs_good k 0 ps [] h.2 ⟨List.nodup_nil, fun x hx => by cases hx⟩
theorem frs_good (k : Kd) : ∀ (i : Nat) (ps : List Tm) (acc : List String), vns ps → (acc.Nodup ∧ ∀ x ∈ acc, x ∈ AN) → (frs k i ps acc).Nodup ∧ ∀ x ∈ frs k i ps acc, x ∈ AN
  | i, [], acc, _, g => by unfold frs; exact g
  | i, t :: r, acc, h, g => by
    unfold frs
    obtain ⟨g1, g2⟩ := fr_good t h.1
    refine frs_good k (i + 1) r _ h.2 ⟨?_, fun x hx => ?_⟩
    · rw [List.nodup_append]
      refine ⟨g.1, g1.filter _, fun x hx y hy e => ?_⟩
      subst e
      have := (List.mem_filter.mp hy).2
      simp at this
      exact this.2 hx
    · rcases List.mem_append.mp hx with hx | hx
      · exact g.2 x hx
      · exact g2 x (List.mem_filter.mp hx).1
end
theorem nodup_len : ∀ {l m : List String}, l.Nodup → (∀ x ∈ l, x ∈ m) → l.length ≤ m.length
  | [], m, _, _ => by simp
  | x :: l, m, h, hs => by
    have hx := hs x List.mem_cons_self
    rw [List.nodup_cons] at h
    have := nodup_len (m := m.erase x) h.2 fun y hy => (List.mem_erase_of_ne (fun e => h.1 (by rw [← e]; exact hy))).mpr (hs y (List.mem_cons_of_mem _ hy))
    rw [List.length_erase_of_mem hx] at this
    have : 0 < m.length := List.length_pos_of_mem hx
    rw [List.length_cons]; omega
theorem fr_len {t : Tm} (h : vn t) : (fr t).length ≤ 13 := nodup_len (m := AN) (fr_good t h).1 (fr_good t h).2
theorem frs_app (k : Kd) : ∀ (i : Nat) (ps : List Tm) (t : Tm) (acc : List String), frs k i (ps ++ [t]) acc = frs k i ps acc ++ (fr t).filter fun x => !(bd k (i + ps.length)).contains x && !(frs k i ps acc).contains x
  | i, [], t, acc => by simp [frs]
  | i, u :: r, t, acc => by
    rw [List.cons_append, frs, frs, frs_app k (i + 1) r t]
    congr 3
    funext x
    congr 4
    rw [List.length_cons]; omega
theorem frs_take {k : Kd} {ps : List Tm} {i : Nat} {t : Tm} (h : ps[i]? = some t) : frs k 0 (ps.take (i + 1)) [] = frs k 0 (ps.take i) [] ++ (fr t).filter fun x => !(bd k i).contains x && !(frs k 0 (ps.take i) []).contains x := by
  have hi : i < ps.length := (List.getElem?_eq_some_iff.mp h).1
  rw [List.take_succ, h]
  show frs k 0 (ps.take i ++ [t]) [] = _
  rw [frs_app, List.length_take, Nat.min_eq_left (by omega), Nat.zero_add]
theorem vns_take : ∀ {ps : List Tm} (i : Nat), vns ps → vns (ps.take i)
  | _, 0, _ => trivial
  | [], i + 1, _ => trivial
  | t :: r, i + 1, h => ⟨h.1, vns_take i h.2⟩
theorem frsT_len {k : Kd} {ps : List Tm} {i : Nat} (h : vns ps) : (frs k 0 (ps.take i) []).length ≤ 13 := nodup_len (m := AN) (frs_good k 0 _ [] (vns_take i h) ⟨List.nodup_nil, fun x hx => by cases hx⟩).1 (frs_good k 0 _ [] (vns_take i h) ⟨List.nodup_nil, fun x hx => by cases hx⟩).2
/-! ### a part's word -/
def wd : Kd → String
  | .int _ => "int" | .bool _ => "bool" | .unit => "unit" | .var _ => "var" | .nil => "con" | .lam _ => "lam" | .raise => "raise" | .ref => "ref" | .get => "get" | .fst => "fst" | .snd => "snd" | .fix _ => "fix"
  | .perform _ => "perform" | .field _ => "field" | .yes => "con" | .rec1 _ => "record" | .app => "app" | .pair => "pair" | .set => "set" | .lett _ => "let" | .op _ => "op" | .tryy => "try" | .extend _ => "extend" | .cons => "con"
  | .rec2 _ _ => "record" | .h0 => "handle" | .iff => "if" | .mtl => "match" | .mto => "match" | .h1 _ => "handle" | .h2 _ _ => "handle" | .h3 _ _ _ => "handle"
theorem wd_at {A : AH} {k : Kd} {ds : List D} : opI A (mk k ds) (.int 0) = some (.str (wd k)) := by
  cases k <;> rfl
theorem wd_var {k : Kd} (h : ∀ x, k ≠ .var x) : wd k ≠ "var" := by
  cases k <;> first | (simp [wd]; done) | exact absurd rfl (h _)
theorem fr_nd {k : Kd} {ps : List Tm} (h : ∀ x, k ≠ .var x) : fr (.nd k ps) = frs k 0 ps [] := by
  unfold fr
  split
  · exact absurd rfl (h _)
  · rfl
variable {N n : Nat} {A : AH}
theorem not_var {cl : String → List D → AH → Res D} {F : Fr} {k : Kd} {ds : List D} {P : Bool → AH → Prop} (hF : F[0]? = some (some (mk k ds))) (h : ∀ x, k ≠ .var x) (p : P false A) : wR (tru (ev cl (.cmp .eq (.ix (.var 0) (.int 0)) (.str "var")) F A)) P := by
  rw [wR_tru, wR_cmp, wR_ix, wR_var hF, wR_int, wd_at, wR_some, wR_str, eq_str, decide_eq_false (wd_var h)]
  exact p
theorem fm_filter (p : String → Bool) (l : List String) : (l.map fun x => if p x = true then some (D.str x) else none).filterMap id = (l.filter p).map D.str := by
  induction l with
  | nil => rfl
  | cons x r ih => cases h : p x <;> simp [h, ih]
theorem any_contains (xs : List String) (x : String) : xs.any ((fun z => flatEq z (D.str x)) ∘ D.str) = xs.contains x := by
  induction xs with
  | nil => rfl
  | cons y r ih =>
    rw [List.any_cons, ih, List.contains_cons]
    congr 1
    show (y == x) = (x == y)
    rw [Bool.eq_iff_iff, beq_iff_eq, beq_iff_eq]
    exact eq_comm
theorem memD_str {A : AH} {a : Nat} {xs : List String} {x : String} (h : A[a]? = some (.lst (xs.map .str))) : memD A (.str x) (.ref a) = some (xs.contains x) := by
  have h1 : dctL A a = none := by simp [dctL, h]
  have h2 : (xs.map D.str).all flatD = true := by simp [flatD]
  simp only [memD, h1, seqL_of h, h2, flatD, Bool.and_self, if_true]
  congr 1
  rw [List.any_map]
  exact any_contains xs x
theorem law_free_spec : ∀ (n : Nat) (t : Tm) (A : AH), wf t → vn t → ht t < n → FL A (callF pg N n "_law_free" [toD t] A) ((fr t).map .str)
  | 0, t, A, hw, hv, hn => by omega
  | 1, t, A, hw, hv, hn => by cases t; rw [ht] at hn; omega
  | m + 2, .nd k ps, A, hw, hv, hn => by
    rw [wf] at hw
    rw [vn] at hv
    rw [ht] at hn
    show wR _ _
    by_cases hk : ∃ x, k = .var x
    · obtain ⟨x, rfl⟩ := hk
      have : ps = [] := List.eq_nil_of_length_eq_zero hw.1
      subst this
      exact wR_eq (a := .ref A.length) (A := A ++ [.lst [.str x]]) (by kernel_rfl) ⟨_, rfl, Kp.refl.app, new_none, new_at⟩
    · have hk : ∀ x, k ≠ .var x := fun x e => hk ⟨x, e⟩
      rw [fr_nd hk, wR_call (fd := fn_26) rfl rfl]
      show wS (sx _ N fn_26.body [some (mk k (toDs ps)), none, none, none, none] A) _ _ _ _
      rw [fn_26, wS_seq, wS_ite]
      refine not_var rfl hk ?_
      rw [if_neg (by decide), wS_skip, wS_seq, wS_set]
      show wS (sx _ N _ [some (mk k (toDs ps)), some (.ref A.length), none, none, none] (A ++ [.lst []])) _ _ _ _
      rw [wS_seq, wS_set]
      refine parts_set (lp_spec k (toDs ps) (by rw [toDs_len]; exact hw.1)).fl rfl fun b B kB hb1 hb2 => ?_
      have hf0 : B[A.length]? = some (.lst []) := kB _ _ new_at
      show wS (sx _ N _ [some (mk k (toDs ps)), some (.ref A.length), some (.ref b), none, none] B) _ _ _ _
      rw [wS_seq, wS_for, wR_rng, wR_cons, wR_bi, wR_cons, wR_var (d := .ref b) rfl, wR_nil, len_lst hb2, wR_ok, wR_nil, wkRng_nat (by rw [toDs_len, hw.1]; have := ar_le k; omega), wR_some]
      refine forL_ind (fun i F A' => ∃ f x y, F = [some (mk k (toDs ps)), some (.ref f), some (.ref b), x, y] ∧ Kp A A' ∧ A[f]? = none ∧ A'[f]? = some (.lst ((frs k 0 (ps.take i) []).map .str)) ∧ A'[b]? = some (.lst (toDs ps))) _ 0 _ B
        ⟨A.length, none, none, rfl, Kp.refl.app.trans kB, new_none, hf0, hb2⟩ (fun j d F A' e ⟨f, x, y, eF, k1, hf, h1, h2⟩ => ?_) fun F A' ⟨f, x, y, eF, k1, hf, h1, h2⟩ => ?_
      · subst eF
        refine ⟨rfl, ?_⟩
        have e : ((List.range (toDs ps).length).map fun (i : Nat) => D.int (i : Int))[j]? = some d := e
        rw [List.getElem?_map] at e
        obtain ⟨j', e1, rfl⟩ := Option.map_eq_some_iff.mp e
        obtain ⟨hj, e2⟩ := List.getElem?_eq_some_iff.mp e1
        have hj' : j < ps.length := by simpa [toDs_len] using hj
        have : j' = j := by rw [← e2]; simp
        subst this
        have hp : ps[j']? = some ps[j'] := List.getElem?_eq_getElem hj'
        generalize ps[j'] = p at hp
        have hm := List.mem_of_getElem? hp
        have hvp := vns_mem hv.2 p hm
        refine ⟨[some (mk k (toDs ps)), some (.ref f), some (.ref b), some (.int (j' : Nat)), y], rfl, ?_⟩
        have e3 : opI A' (.ref b) (.int (j' : Nat)) = some (toD p) := by rw [opI_lst h2, atI_nat, get_toDs hp]
        rw [Nat.zero_add] at h1
        generalize hacc : frs k 0 (ps.take j') [] = acc at h1
        rw [wS_seq, wS_set, wR_op, wR_var (d := .ref f) rfl, wR_lc, wR_wk, wR_cl, wR_cons, wR_ix, wR_var (d := .ref b) rfl, wR_var (d := .int (j' : Nat)) rfl, e3, wR_some, wR_nil]
        refine (law_free_spec (m + 1) p A' (wfs_mem hw.2 p hm) hvp (by have := ht_mem hm; omega)).walk fun a A2 k2 ha1 ha2 => ?_
        show wR (bnd _ _) _
        rw [wR_bnd]
        refine lcL_kp ((fr p).map fun x => if (!(bd k j').contains x && !acc.contains x) = true then some (D.str x) else none) (by simp) (by rw [List.length_map, sz]; have := fr_len hvp; omega) (gOk_one ha2) (fun u d o A3 e1 e2 k3 => ?_) fun A3 k3 => ?_
        · rw [List.getElem?_map] at e1 e2
          obtain ⟨z, hz, rfl⟩ := Option.map_eq_some_iff.mp e1
          rw [hz] at e2
          cases e2
          refine ⟨[some (mk k (toDs ps)), some (.ref f), some (.ref b), some (.int (j' : Nat)), some (.str z)], rfl, ?_⟩
          rw [wR_lcB]
          show wR (tru (ev _ (.and _ _) _ A3)) _
          rw [wR_tru, wR_and, wR_cmp, wR_var (d := .str z) rfl, wR_cl, wR_cons, wR_var (d := mk k (toDs ps)) rfl, wR_cons, wR_var (d := .int (j' : Nat)) rfl, wR_nil]
          refine (lb_spec k (toDs ps) j' (by rw [toDs_len]; exact hw.1) (by rw [← hw.1]; exact hj')).fl.mono fun r A4 ⟨g, eg, k4, hg1, hg2⟩ => ?_
          subst eg
          have hm1 : opC A4 .nmem (.str z) (.ref g) = some (!(bd k j').contains z) := by
            show (memD A4 (.str z) (.ref g)).map (!·) = _
            rw [memD_str hg2]; rfl
          rw [hm1]
          show wR (ofO (some (D.bl (!(bd k j').contains z))) A4) _
          rw [wR_some, truth_bl, wR_some]
          cases hb : (bd k j').contains z with
          | true =>
            rw [if_neg (by decide)]
            show wR (ofO (some false) A4) _
            rw [wR_some, if_neg (by decide)]
            exact ⟨by show _ = (if (!(bd k j').contains z && !acc.contains z) = true then some (D.str z) else none); rw [hb]; rfl, k4⟩
          | false =>
            have hm2 : opC A4 .nmem (.str z) (.ref f) = some (!acc.contains z) := by
              show (memD A4 (.str z) (.ref f)).map (!·) = _
              rw [memD_str (k4 _ _ (k3 _ _ (k2 _ _ h1)))]; rfl
            rw [if_pos (by decide), wR_cmp, wR_var (d := .str z) rfl, wR_var (d := .ref f) rfl, hm2]
            show wR (ofO (some (D.bl (!acc.contains z))) A4) _
            rw [wR_some, truth_bl, wR_some]
            cases hc : acc.contains z with
            | true =>
              rw [if_neg (by decide)]
              exact ⟨by show _ = (if (!(bd k j').contains z && !acc.contains z) = true then some (D.str z) else none); rw [hb, hc]; rfl, k4⟩
            | false =>
              rw [if_pos (by decide), wR_var (d := .str z) rfl]
              exact ⟨by show _ = (if (!(bd k j').contains z && !acc.contains z) = true then some (D.str z) else none); rw [hb, hc]; rfl, k4⟩
        · have hfm := fm_filter (fun x => !(bd k j').contains x && !acc.contains x) (fr p)
          rw [hfm, wR_ok, add_lst (app_at (k3 _ _ (k2 _ _ h1))) new_at (by
            rw [List.length_map, List.length_map, sz, ← hacc]
            have := frsT_len (k := k) (i := j') hv.2
            have := List.length_filter_le (fun x => !(bd k j').contains x && !(frs k 0 (ps.take j') []).contains x) (fr p)
            have := fr_len hvp
            omega), wR_ok, wS_skip]
          have kk := k1.trans (k2.trans k3)
          refine ⟨_, _, _, rfl, kk.app.app, (kk.app.fresh new_none), ?_, app_at (app_at (k3 _ _ (k2 _ _ h2)))⟩
          rw [new_at, Nat.zero_add, frs_take hp, hacc, List.map_append]
      · subst eF
        refine ⟨rfl, ?_⟩
        rw [wS_seq, wS_ret, wR_var (d := .ref f) rfl]
        refine ⟨f, rfl, k1, hf, ?_⟩
        simp only [Nat.zero_add, List.length_map, List.length_range] at h1
        rw [toDs_len, List.take_length] at h1
        exact h1
end K01

/-! ## K01G -/
namespace K01
open Ev
theorem wR_non {cl : String → List D → AH → Res D} {F : Fr} {A : AH} {P : D → AH → Prop} : wR (ev cl .non F A) P ↔ P .non A := Iff.rfl
def dKs (l : List String) : List (D × D) := l.map fun x => (D.str x, D.bl true)
theorem keyEq_str {x y : String} : keyEq (.str x) (.str y) = (x == y) := rfl
theorem dKs_any (l : List String) (x : String) : ((dKs l).any fun kv => keyEq kv.1 (.str x)) = l.contains x := by
  unfold dKs
  rw [List.any_map]
  exact any_contains l x
theorem dKs_repl (l : List String) (x : String) : ((dKs l).map fun kv => if keyEq kv.1 (.str x) = true then (kv.1, D.bl true) else kv) = dKs l := by
  unfold dKs
  rw [List.map_map]
  refine List.map_congr_left fun y _ => ?_
  show (if keyEq (.str y) (.str x) = true then (D.str y, D.bl true) else (D.str y, D.bl true)) = _
  split <;> rfl
theorem dput_key (l : List String) (x : String) : dput (dKs l) (.str x) (.bl true) = dKs (if l.contains x then l else l ++ [x]) := by
  unfold dput
  rw [dKs_any, dKs_repl]
  cases l.contains x
  · simp [dKs]
  · simp
theorem dmerge_keys : ∀ (l found : List String), l.Nodup → dmerge (dKs found) (dKs l) = dKs (found ++ l.filter fun x => !found.contains x)
  | [], found, _ => by simp [dmerge, dKs]
  | x :: l, found, h => by
    rw [List.nodup_cons] at h
    show dmerge (dput (dKs found) (.str x) (.bl true)) (dKs l) = _
    rw [dput_key, dmerge_keys l _ h.2, List.filter_cons]
    cases hc : found.contains x
    · simp only [Bool.false_eq_true, if_false, Bool.not_false, if_true]
      congr 1
      rw [List.append_assoc]
      congr 1
      show x :: _ = x :: _
      congr 1
      refine List.filter_congr fun y hy => ?_
      have : y ≠ x := fun e => h.1 (by rw [← e]; exact hy)
      simp [this]
    · simp
theorem ddrop_key (l : List String) (x : String) : ddrop (dKs l) (.str x) = dKs (l.filter fun y => !(y == x)) := by
  unfold ddrop dKs
  rw [List.filter_map]
  rfl
theorem pop_key {A : AH} {e : Nat} {l : List String} {x : String} (h : A[e]? = some (.dct (dKs l))) : wR (mtF A true "pop" (.ref e) [.str x, .non]) (fun _ A' => A'[e]? = some (.dct (dKs (l.filter fun y => !(y == x)))) ∧ ∀ (i : Nat) (o : AO), i ≠ e → A[i]? = some o → A'[i]? = some o) := by
  show wR (mtPop A e [.str x, .non]) _
  unfold mtPop
  simp only [h]
  show wR (if keyOk (.str x) = true then _ else _) _
  rw [if_pos (show keyOk (D.str x) = true from rfl)]
  cases hg : dget (dKs l) (.str x) with
  | some v =>
    rw [ddrop_key]
    exact ⟨set_at h, fun i o n hi => set_ne hi (Ne.symm n)⟩
  | none =>
    have : l.filter (fun y => !(y == x)) = l := by
      rw [List.filter_eq_self]
      intro y hy
      unfold dget at hg
      rw [Option.map_eq_none_iff, List.find?_eq_none] at hg
      have := hg (D.str y, D.bl true) (List.mem_map.mpr ⟨y, hy, rfl⟩)
      rw [keyEq_str] at this
      simpa using this
    rw [this]
    exact ⟨h, fun i o _ hi => hi⟩
theorem mkM_dct {A : AH} {a : Nat} {kvs : List (D × D)} {m : String} (h : A[a]? = some (.dct kvs)) (hm : (mtG true m).isSome = true) : mkM A m (.ref a) = some true := by
  have : mkD A (.ref a) = some true := by simp [mkD, h]
  simp only [mkM, this, if_pos hm]
theorem update_eq {A : AH} {a b : Nat} {xs ys : List (D × D)} (h1 : A[a]? = some (.dct xs)) (h2 : A[b]? = some (.dct ys)) (hne : b ≠ a) (hz : xs.length + ys.length ≤ PySem.sizeLine) : mtF A true "update" (.ref a) [.ref b] = .ok .non (A.set a (.dct (dmerge xs ys))) := by
  show mtUpdate A a [.ref b] = _
  simp only [mtUpdate, if_neg hne, h1, h2, if_pos hz]
variable {N n : Nat} {A : AH}
/-- a dict of names that was not there -/
def FK (A : AH) (r : Res D) (l : List String) : Prop := wR r fun d A' => ∃ a, d = .ref a ∧ Kp A A' ∧ A[a]? = none ∧ A'[a]? = some (.dct (dKs l))
theorem at_ne {A : AH} {a b : Nat} {o : AO} (h : A[b]? = none) (hb : A[a]? = some o) : b ≠ a := fun e => by
  subst e
  rw [h] at hb; cases hb
theorem free_names_spec : ∀ (n : Nat) (t : Tm) (A : AH), wf t → vn t → ht t < n → FK A (callF pg N n "free_names" [toD t] A) (fr t)
  | 0, t, A, hw, hv, hn => by omega
  | 1, t, A, hw, hv, hn => by cases t; rw [ht] at hn; omega
  | m + 2, .nd k ps, A, hw, hv, hn => by
    rw [wf] at hw
    rw [vn] at hv
    rw [ht] at hn
    show wR _ _
    by_cases hk : ∃ x, k = .var x
    · obtain ⟨x, rfl⟩ := hk
      have : ps = [] := List.eq_nil_of_length_eq_zero hw.1
      subst this
      exact wR_eq (a := .ref A.length) (A := A ++ [.dct [(.str x, .bl true)]]) (by kernel_rfl) ⟨_, rfl, Kp.refl.app, new_none, new_at⟩
    · have hk : ∀ x, k ≠ .var x := fun x e => hk ⟨x, e⟩
      rw [fr_nd hk, wR_call (fd := fn_4) rfl rfl]
      show wS (sx _ N fn_4.body [some (mk k (toDs ps)), none, none, none, none, none] A) _ _ _ _
      rw [fn_4, wS_seq, wS_ite]
      refine not_var rfl hk ?_
      rw [if_neg (by decide), wS_skip, wS_seq, wS_set]
      show wS (sx _ N _ [some (mk k (toDs ps)), some (.ref A.length), none, none, none, none] (A ++ [.dct []])) _ _ _ _
      rw [wS_seq, wS_for, wR_enm, wR_cl, wR_cons, wR_var (d := mk k (toDs ps)) rfl, wR_nil]
      refine (pp_spec k (toDs ps) (by rw [toDs_len]; exact hw.1)).fl.enum fun b B kB hb1 hb2 => ?_
      have hf0 : B[A.length]? = some (.dct []) := kB _ _ new_at
      refine forL_ind (fun i F A' => ∃ x y z u, F = [some (mk k (toDs ps)), some (.ref A.length), x, y, z, u] ∧ Kp A A' ∧ A'[A.length]? = some (.dct (dKs (frs k 0 (ps.take i) []))) ∧ A'[b]? = some (.lst (toDs ps))) _ 0 _ B
        ⟨none, none, none, none, rfl, Kp.refl.app.trans kB, hf0, hb2⟩ (fun j d F A' e ⟨x, y, z, u, eF, k1, h1, h2⟩ => ?_) fun F A' ⟨x, y, z, u, eF, k1, h1, h2⟩ => ?_
      · subst eF
        refine ⟨gOk_one h2, ?_⟩
        obtain ⟨v, rfl, hv'⟩ := enumD_get e
        rw [toDs_map, List.getElem?_map] at hv'
        obtain ⟨p, hp, rfl⟩ := Option.map_eq_some_iff.mp hv'
        have hm := List.mem_of_getElem? hp
        have hvp := vns_mem hv.2 p hm
        have hj' : j < ps.length := (List.getElem?_eq_some_iff.mp hp).1
        rw [Nat.zero_add] at h1 ⊢
        refine ⟨[some (mk k (toDs ps)), some (.ref A.length), some (.int ((j : Nat) : Int)), some (toD p), z, u], rfl, ?_⟩
        rw [wS_seq, wS_set, wR_cl, wR_cons, wR_var (d := toD p) rfl, wR_nil]
        refine (free_names_spec (m + 1) p A' (wfs_mem hw.2 p hm) hvp (by have := ht_mem hm; omega)).mono fun r A2 ⟨c, er, k2, hc1, hc2⟩ => ?_
        subst er
        show wS (sx _ N _ [some (mk k (toDs ps)), some (.ref A.length), some (.int ((j : Nat) : Int)), some (toD p), some (.ref c), u] A2) _ _ _ _
        rw [wS_seq, wS_for, wR_wk, wR_cl, wR_cons, wR_var (d := mk k (toDs ps)) rfl, wR_cons, wR_var (d := .int (j : Nat)) rfl, wR_nil]
        refine (pb_spec k (toDs ps) j (by rw [toDs_len]; exact hw.1) (by rw [← hw.1]; exact hj')).fl.walk fun g A3 k3 hg1 hg2 => ?_
        have cA : A'[c]? = none := hc1
        refine forL_ind (fun i F A4 => ∃ u, F = [some (mk k (toDs ps)), some (.ref A.length), some (.int ((j : Nat) : Int)), some (toD p), some (.ref c), u] ∧ Kp A' A4 ∧ A4[g]? = some (.lst ((bd k j).map .str)) ∧ A4[c]? = some (.dct (dKs ((fr p).filter fun x => !((bd k j).take i).contains x)))) _ 0 _ A3
          ⟨u, rfl, k2.trans k3, hg2, (k3 _ _ hc2).trans (by congr 3; exact (List.filter_eq_self.mpr (fun _ _ => rfl)).symm)⟩ (fun q d F A4 e ⟨u, eF, k4, h3, h4⟩ => ?_) fun F A4 ⟨u, eF, k4, h3, h4⟩ => ?_
        · subst eF
          refine ⟨gOk_one h3, ?_⟩
          have e : ((bd k j).map D.str)[q]? = some d := e
          rw [List.getElem?_map] at e
          obtain ⟨s, hs, rfl⟩ := Option.map_eq_some_iff.mp e
          rw [Nat.zero_add] at h4 ⊢
          refine ⟨[some (mk k (toDs ps)), some (.ref A.length), some (.int ((j : Nat) : Int)), some (toD p), some (.ref c), some (.str s)], rfl, ?_⟩
          rw [wS_seq, wS_ex, wR_mth, wR_var (d := .ref c) rfl, mkM_dct h4 rfl, wR_some, wR_cons, wR_var (d := .str s) rfl, wR_cons, wR_non, wR_nil]
          refine (pop_key h4).mono fun r A5 ⟨h5, h6⟩ => ?_
          rw [wS_skip]
          have hgc : g ≠ c := at_ne hg1 hc2
          refine ⟨_, rfl, fun i o hi => h6 i o (fun ei => by rw [ei, cA] at hi; cases hi) (k4 i o hi), h6 _ _ hgc h3, ?_⟩
          rw [h5]
          congr 3
          rw [List.filter_filter]
          refine List.filter_congr fun y _ => ?_
          rw [List.take_succ, hs]
          show _ = !(((bd k j).take q) ++ [s]).contains y
          rw [Bool.eq_iff_iff]
          simp
          exact And.comm
        · subst eF
          refine ⟨gOk_one h3, ?_⟩
          rw [Nat.zero_add, List.length_map, List.take_length] at h4
          have hne : c ≠ A.length := fun ec => by rw [ec, h1] at cA; cases cA
          have hnd : ((fr p).filter fun x => !(bd k j).contains x).Nodup := (fr_good p hvp).1.filter _
          rw [wS_seq, wS_ex, wR_mth, wR_var (d := .ref A.length) rfl, mkM_dct (k4 _ _ h1) rfl, wR_some, wR_cons, wR_var (d := .ref c) rfl, wR_nil, update_eq (k4 _ _ h1) h4 hne (by
            unfold dKs
            rw [List.length_map, List.length_map, sz]
            have := frsT_len (k := k) (i := j) hv.2
            have := List.length_filter_le (fun x => !(bd k j).contains x) (fr p)
            have := fr_len hvp
            omega), wR_ok, wS_skip, dmerge_keys _ _ hnd]
          have hb : A.length ≠ b := (at_ne hb1 new_at).symm
          refine ⟨_, _, _, _, rfl, (k1.trans k4).set new_none, ?_, set_ne (k4 _ _ h2) hb⟩
          rw [set_at (k4 _ _ h1), frs_take hp, List.filter_filter]
          congr 4
          refine List.filter_congr fun y _ => ?_
          exact Bool.and_comm _ _
      · subst eF
        refine ⟨gOk_one h2, ?_⟩
        rw [wS_seq, wS_ret, wR_var (d := .ref A.length) rfl]
        refine ⟨A.length, rfl, k1, new_none, ?_⟩
        rw [Nat.zero_add, Ev.enum_len, toDs_len, List.take_length] at h1
        exact h1
end K01

/-! ## K01H -/
namespace K01
open Ev
def vKs (m : List (String × D)) : List (D × D) := m.map fun kv => (D.str kv.1, kv.2)
def lk (m : List (String × D)) (x : String) : Option D := (m.find? fun kv => kv.1 == x).map (·.2)
theorem dget_vKs (m : List (String × D)) (x : String) : dget (vKs m) (.str x) = lk m x := by
  unfold dget lk vKs
  rw [List.find?_map, Option.map_map]
  rfl
theorem ddrop_vKs (m : List (String × D)) (x : String) : ddrop (vKs m) (.str x) = vKs (m.filter fun kv => !(kv.1 == x)) := by
  unfold ddrop vKs
  rw [List.filter_map]
  rfl
def flt (bs : List String) (m : List (String × D)) : List (String × D) := m.filter fun kv => !bs.contains kv.1
theorem flt_len {bs : List String} {m : List (String × D)} : (flt bs m).length ≤ m.length := List.length_filter_le _ _
theorem flt_nd {bs : List String} {m : List (String × D)} (h : (m.map (·.1)).Nodup) : ((flt bs m).map (·.1)).Nodup := h.sublist (List.filter_sublist.map _)
mutual
def putT : Tm → List (String × D) → D
  | .nd k ps, m => match k with
    | .var x => (lk m x).getD (mk (.var x) [])
    | k => mk k (putL k 0 ps m)
def putL (k : Kd) : Nat → List Tm → List (String × D) → List D
  | _, [], _ => []
  | i, t :: r, m => putT t (flt (bd k i) m) :: putL k (i + 1) r m
end
theorem putT_nd {k : Kd} {ps : List Tm} {m : List (String × D)} (h : ∀ x, k ≠ .var x) : putT (.nd k ps) m = mk k (putL k 0 ps m) := by
  unfold putT
  split
  · exact absurd rfl (h _)
  · rfl
mutual
theorem putT_nil : ∀ t : Tm, wf t → putT t [] = toD t
  | .nd k ps, h => by
    rw [wf] at h
    unfold putT
    split
    · have : ps = [] := List.eq_nil_of_length_eq_zero h.1
      subst this; rfl
    · rw [putL_nil k 0 ps h.2]; rfl
theorem putL_nil (k : Kd) : ∀ (i : Nat) (ps : List Tm), wfs ps → putL k i ps [] = toDs ps
  | _, [], _ => rfl
  | i, t :: r, h => by
    rw [putL, toDs, putL_nil k (i + 1) r h.2]
    congr 1
    exact putT_nil t h.1
end
theorem putL_len (k : Kd) : ∀ (i : Nat) (ps : List Tm) (m : List (String × D)), (putL k i ps m).length = ps.length
  | _, [], _ => rfl
  | i, t :: r, m => by rw [putL, List.length_cons, putL_len, List.length_cons]
theorem putL_app (k : Kd) : ∀ (i : Nat) (ps : List Tm) (t : Tm) (m : List (String × D)), putL k i (ps ++ [t]) m = putL k i ps m ++ [putT t (flt (bd k (i + ps.length)) m)]
  | i, [], t, m => rfl
  | i, u :: r, t, m => by
    rw [List.cons_append, putL, putL, putL_app k (i + 1) r t, List.cons_append]
    congr 4
    rw [List.length_cons]; congr 2; omega
theorem putL_take {k : Kd} {ps : List Tm} {i : Nat} {t : Tm} {m : List (String × D)} (h : ps[i]? = some t) : putL k 0 (ps.take (i + 1)) m = putL k 0 (ps.take i) m ++ [putT t (flt (bd k i) m)] := by
  have hi : i < ps.length := (List.getElem?_eq_some_iff.mp h).1
  rw [List.take_succ, h]
  show putL k 0 (ps.take i ++ [t]) m = _
  rw [putL_app, List.length_take, Nat.min_eq_left (by omega), Nat.zero_add]
theorem dput_new (m : List (String × D)) (x : String) (v : D) (h : x ∉ m.map (·.1)) : dput (vKs m) (.str x) v = vKs (m ++ [(x, v)]) := by
  have : ((vKs m).any fun kv => keyEq kv.1 (.str x)) = false := by
    rw [List.any_eq_false]
    intro kv hkv
    obtain ⟨p, hp, rfl⟩ := List.mem_map.mp hkv
    show ¬ (p.1 == x) = true
    rw [beq_iff_eq]
    exact fun e => h (List.mem_map.mpr ⟨p, hp, e⟩)
  unfold dput
  rw [this]
  simp [vKs]
theorem find_nd : ∀ {m : List (String × D)} {p : String × D}, (m.map (·.1)).Nodup → p ∈ m → lk m p.1 = some p.2
  | q :: m, p, h, hp => by
    rw [List.map_cons, List.nodup_cons] at h
    rcases List.mem_cons.mp hp with rfl | hp
    · simp [lk]
    · have hne : q.1 ≠ p.1 := fun e => h.1 (by rw [e]; exact List.mem_map.mpr ⟨p, hp, rfl⟩)
      have := find_nd h.2 hp
      unfold lk at this ⊢
      rw [List.find?_cons_of_neg (by simpa using hne)]
      exact this
theorem pop_val {A : AH} {e : Nat} {m : List (String × D)} {x : String} (h : A[e]? = some (.dct (vKs m))) : wR (mtF A true "pop" (.ref e) [.str x, .non]) (fun _ A' => A'[e]? = some (.dct (vKs (m.filter fun kv => !(kv.1 == x)))) ∧ ∀ (i : Nat) (o : AO), i ≠ e → A[i]? = some o → A'[i]? = some o) := by
  show wR (mtPop A e [.str x, .non]) _
  unfold mtPop
  simp only [h]
  show wR (if keyOk (.str x) = true then _ else _) _
  rw [if_pos (show keyOk (D.str x) = true from rfl)]
  cases hg : dget (vKs m) (.str x) with
  | some v =>
    rw [ddrop_vKs]
    exact ⟨set_at h, fun i o n hi => set_ne hi (Ne.symm n)⟩
  | none =>
    have : m.filter (fun kv => !(kv.1 == x)) = m := by
      rw [List.filter_eq_self]
      intro y hy
      rw [dget_vKs] at hg
      unfold lk at hg
      rw [Option.map_eq_none_iff, List.find?_eq_none] at hg
      simpa using hg y hy
    rw [this]
    exact ⟨h, fun i o _ hi => hi⟩
/-- {name: values[name] for name in values if name not in bound} -/
theorem filt_dict {cl : String → List D → AH → Res D} {F : Fr} {A : AH} {v b : Nat} {m : List (String × D)} {bs : List String} {P : D → AH → Prop} (h1 : F[1]? = some (some (.ref v))) (h5 : F[5]? = some (some (.ref b))) (h7 : 7 < F.length) (hv : A[v]? = some (.dct (vKs m))) (hb : A[b]? = some (.lst (bs.map .str))) (hn : (m.map (·.1)).Nodup) (hz : m.length ≤ 1000)
    (p : P (.ref A.length) (A ++ [.dct (vKs (flt bs m))])) : wR (ev cl (.dc (.nm 7) (.wk (.var 1)) (.cons (.cmp .nmem (.var 7) (.var 5)) .nil) (.var 7) (.ix (.var 1) (.var 7)) [7]) F A) P := by
  rw [wR_dc, wR_wk, wR_var h1]
  have hw : wkOf A (.ref v) = some ⟨m.map fun kv => D.str kv.1, [(v, .lk (vKs m))], some v⟩ := by
    simp [wkOf, hv, vKs]
  rw [hw, wR_some]
  have hl : lockA A (some v) = A.set v (.lk (vKs m)) := by
    show (match A[v]? with | some (.dct kvs) => A.set v (.lk kvs) | _ => A) = _
    rw [hv]
  show wR (unlR (some v) (bnd (dcL (asgT (.nm 7)) [(v, .lk (vKs m))] _ (wipeF F [7]) (m.map fun kv => D.str kv.1) [] (lockA A (some v))) _)) P
  rw [hl]
  have hvl : (A.set v (.lk (vKs m)))[v]? = some (.lk (vKs m)) := set_at hv
  have hbl : (A.set v (.lk (vKs m)))[b]? = some (.lst (bs.map .str)) := set_ne hb (fun e => by rw [e, hb] at hv; cases hv)
  have key : wR (dcL (asgT (.nm 7)) [(v, .lk (vKs m))] (dcB cl (.cons (.cmp .nmem (.var 7) (.var 5)) .nil) (.var 7) (.ix (.var 1) (.var 7))) (wipeF F [7]) (m.map fun kv => D.str kv.1) [] (A.set v (.lk (vKs m)))) (fun ds A' => ds = vKs (flt bs m) ∧ A' = A.set v (.lk (vKs m))) := by
    refine dcL_ind (fun i acc A' => acc = vKs (flt bs (m.take i)) ∧ A' = A.set v (.lk (vKs m))) _ 0 _ _ ⟨rfl, rfl⟩ (fun j d acc A' e ⟨ea, eA⟩ => ?_) fun acc A' ⟨ea, eA⟩ => ?_
    · subst ea eA
      refine ⟨gOk_one hvl, ?_⟩
      rw [List.getElem?_map] at e
      obtain ⟨kv, hkv, rfl⟩ := Option.map_eq_some_iff.mp e
      have hlt : j < m.length := (List.getElem?_eq_some_iff.mp hkv).1
      refine ⟨fset (wipeF F [7]) 7 (.str kv.1), rfl, ?_⟩
      have g7 : (fset (wipeF F [7]) 7 (.str kv.1))[7]? = some (some (.str kv.1)) := by simp [fset, wipeF, h7]
      have g1 : (fset (wipeF F [7]) 7 (.str kv.1))[1]? = some (some (.ref v)) := by
        simp only [fset, wipeF]
        rw [List.getElem?_set_ne (by decide), List.getElem?_set_ne (by decide)]; exact h1
      have g5 : (fset (wipeF F [7]) 7 (.str kv.1))[5]? = some (some (.ref b)) := by
        simp only [fset, wipeF]
        rw [List.getElem?_set_ne (by decide), List.getElem?_set_ne (by decide)]; exact h5
      rw [wR_dcB]
      show wR (tru (ev cl (.cmp .nmem (.var 7) (.var 5)) _ _)) _
      have hm1 : opC (A.set v (.lk (vKs m))) .nmem (.str kv.1) (.ref b) = some (!bs.contains kv.1) := by
        show (memD _ (.str kv.1) (.ref b)).map (!·) = _
        rw [memD_str hbl]; rfl
      rw [wR_tru, wR_cmp, wR_var g7, wR_var g5, hm1]
      show wR (ofO (some (D.bl (!bs.contains kv.1))) _) _
      rw [wR_some, truth_bl, wR_some]
      have ht : m.take (0 + j + 1) = m.take (0 + j) ++ [kv] := by rw [Nat.zero_add, List.take_succ, hkv]; rfl
      cases hc : bs.contains kv.1 with
      | true =>
        rw [if_neg (by decide)]
        refine ⟨?_, rfl⟩
        rw [ht]
        unfold flt
        rw [List.filter_append, List.filter_cons_of_neg (by rw [hc]; decide), List.filter_nil, List.append_nil]
      | false =>
        rw [if_pos (by decide), wR_var g7, wR_ix, wR_var g1, wR_var g7]
        have hix : opI (A.set v (.lk (vKs m))) (.ref v) (.str kv.1) = some kv.2 := by
          have : dctL (A.set v (.lk (vKs m))) v = some (vKs m) := by simp [dctL, hvl]
          show (match dctL _ v with | some kvs => if keyOk (.str kv.1) = true then dget kvs (.str kv.1) else none | none => _) = _
          rw [this]
          show (if keyOk (.str kv.1) = true then dget (vKs m) (.str kv.1) else none) = _
          rw [if_pos (show keyOk (D.str kv.1) = true from rfl), dget_vKs]
          exact find_nd hn (List.mem_of_getElem? hkv)
        rw [hix, wR_some]
        have hnot : kv.1 ∉ (flt bs (m.take (0 + j))).map (·.1) := fun hm => by
          obtain ⟨q, hq, eq⟩ := List.mem_map.mp hm
          have hq := (List.mem_filter.mp hq).1
          rw [Nat.zero_add] at hq
          obtain ⟨u, hu, eu⟩ := List.mem_iff_getElem.mp hq
          have hu' : u < j := by rw [List.length_take] at hu; omega
          have e1 : (m.map (·.1))[u]? = some kv.1 := by
            rw [List.getElem?_map]
            have : m[u]? = some q := by
              rw [← eu, List.getElem_take, List.getElem?_eq_getElem]
            rw [this, ← eq]; rfl
          have e2 : (m.map (·.1))[j]? = some kv.1 := by rw [List.getElem?_map, hkv]; rfl
          obtain ⟨l1, e1⟩ := List.getElem?_eq_some_iff.mp e1
          obtain ⟨l2, e2⟩ := List.getElem?_eq_some_iff.mp e2
          exact List.pairwise_iff_getElem.mp hn u j l1 l2 hu' (e1.trans e2.symm)
        refine ⟨?_, rfl, ?_, rfl⟩
        · show (vKs _).length < _
          unfold vKs
          rw [List.length_map, sz]
          have := flt_len (bs := bs) (m := m.take (0 + j))
          rw [List.length_take] at this
          omega
        · rw [dput_new _ _ _ hnot, ht]
          unfold flt
          rw [List.filter_append, List.filter_cons_of_pos (by rw [hc]; rfl), List.filter_nil]
    · subst ea eA
      refine ⟨gOk_one hvl, ?_⟩
      rw [List.length_map, Nat.zero_add, List.take_length]
      exact ⟨rfl, rfl⟩
  obtain ⟨ds, A', e, rfl, rfl⟩ := eq_of_wR key
  show wR (unlR (some v) (bnd (dcL _ _ (dcB cl (.cons (.cmp .nmem (.var 7) (.var 5)) .nil) (.var 7) (.ix (.var 1) (.var 7))) _ _ _ _) _)) P
  rw [e]
  show P (.ref (A.set v (.lk (vKs m))).length) (unlockA (A.set v (.lk (vKs m)) ++ [.dct (vKs (flt bs m))]) (some v))
  have hu : unlockA (A.set v (.lk (vKs m)) ++ [.dct (vKs (flt bs m))]) (some v) = A ++ [.dct (vKs (flt bs m))] := by
    show (match (A.set v (.lk (vKs m)) ++ [AO.dct (vKs (flt bs m))])[v]? with | some (.lk kvs) => (A.set v (.lk (vKs m)) ++ [AO.dct (vKs (flt bs m))]).set v (.dct kvs) | _ => _) = _
    rw [app_at hvl]
    show (A.set v (.lk (vKs m)) ++ [AO.dct (vKs (flt bs m))]).set v (.dct (vKs m)) = _
    have hlt : v < A.length := (List.getElem?_eq_some_iff.mp hv).1
    rw [List.set_append_left _ _ (by rw [List.length_set]; exact hlt), List.set_set]
    congr 1
    refine List.ext_getElem? fun i => ?_
    by_cases hi : v = i
    · subst hi
      rw [List.getElem?_set_self hlt, hv]
    · rw [List.getElem?_set_ne hi]
  rw [hu, List.length_set]
  exact p
end K01

/-! ## K01I -/
namespace K01
open Ev
variable {N n : Nat} {A : AH}
theorem get_val {A : AH} {v : Nat} {m : List (String × D)} {x : String} {d : D} (h : A[v]? = some (.dct (vKs m))) : mtF A true "get" (.ref v) [.str x, d] = .ok ((lk m x).getD d) A := by
  show mtGet A v [.str x, d] = _
  unfold mtGet
  simp only [h, dget_vKs]
  rw [if_pos (show keyOk (D.str x) = true from rfl)]
theorem put_var {f : String} {fd : Fd} {F' : Fr} {x : String} {m : List (String × D)} {v : Nat} (hF : F'[0]? = some (some (mk (.var x) []))) (hF1 : F'[1]? = some (some (.ref v))) (hv : A[v]? = some (.dct (vKs m))) :
    wR (ev (callF pg N n) (.mth "get" (.var 1) (.cons (.ix (.var 0) (.int 1)) (.cons (.var 0) .nil))) F' A) (fun r A' => r = putT (.nd (.var x) []) m ∧ Kp A A') := by
  rw [wR_mth, wR_var hF1, mkM_dct hv rfl, wR_some, wR_cons, wR_ix, wR_var hF, wR_int]
  have : ∀ A : AH, opI A (mk (.var x) []) (.int 1) = some (.str x) := fun A => rfl
  rw [this, wR_some, wR_cons, wR_var hF, wR_nil, get_val hv]
  exact ⟨rfl, Kp.refl⟩
theorem put_in_spec : ∀ (n : Nat) (t : Tm) (A : AH) (v : Nat) (m : List (String × D)), wf t → ht t < n → A[v]? = some (.dct (vKs m)) → (m.map (·.1)).Nodup → m.length ≤ 1000 → wR (callF pg N n "put_in" [toD t, .ref v] A) (fun r A' => r = putT t m ∧ Kp A A')
  | 0, t, A, v, m, hw, hn, _, _, _ => by omega
  | 1, t, A, v, m, hw, hn, _, _, _ => by cases t; rw [ht] at hn; omega
  | w + 2, .nd k ps, A, v, m, hw, hn, hv, hnd, hz => by
    have hw0 := hw
    rw [wf] at hw
    rw [ht] at hn
    rw [wR_call (fd := fn_5) rfl rfl]
    by_cases hk : ∃ x, k = .var x
    · obtain ⟨x, rfl⟩ := hk
      have : ps = [] := List.eq_nil_of_length_eq_zero hw.1
      subst this
      refine ret_at 0 (F' := [some (mk (.var x) []), some (.ref v), none, none, none, none, none, none]) (by kernel_rfl) (by kernel_rfl) (by kernel_rfl) ?_
      exact put_var (f := "") (fd := fn_5) rfl rfl hv
    · have hk : ∀ x, k ≠ .var x := fun x e => hk ⟨x, e⟩
      show wS (sx _ N fn_5.body [some (mk k (toDs ps)), some (.ref v), none, none, none, none, none, none] A) _ _ _ _
      rw [fn_5, wS_seq, wS_ite]
      refine not_var rfl hk ?_
      have hkont : wd k ≠ "kont" := by cases k <;> simp [wd]
      rw [if_neg (by decide), wS_skip, wS_seq, wS_ite, wR_tru, wR_or, wR_cmp, wR_ix, wR_var (d := mk k (toDs ps)) rfl, wR_int, wd_at, wR_some, wR_str, eq_str, decide_eq_false hkont]
      show wR (ofO (some (D.bl false)) A) _
      rw [wR_some, truth_bl, wR_some, if_neg (by decide), wR_not, wR_var (d := .ref v) rfl]
      have htr : truth A (.ref v) = some (!m.isEmpty) := by
        show (match A[v]? with | some (.lst xs) => some (!xs.isEmpty) | some (.dct kvs) => some (!kvs.isEmpty) | _ => none) = _
        rw [hv]
        cases m <;> rfl
      rw [htr]
      show wR (ofO (some (D.bl (!!m.isEmpty))) A) _
      rw [wR_some, truth_bl, wR_some, Bool.not_not]
      cases hm : m.isEmpty with
      | true =>
        have : m = [] := List.isEmpty_iff.mp hm
        subst this
        rw [if_pos rfl, wS_seq, wS_ret, wR_var (d := mk k (toDs ps)) rfl]
        exact ⟨(putT_nil (.nd k ps) hw0).symm, Kp.refl⟩
      | false =>
        rw [if_neg (by decide), wS_skip, wS_seq, wS_set]
        show wS (sx _ N _ [some (mk k (toDs ps)), some (.ref v), some (.ref A.length), none, none, none, none, none] (A ++ [.lst []])) _ _ _ _
        rw [wS_seq, wS_for, wR_enm, wR_cl, wR_cons, wR_var (d := mk k (toDs ps)) rfl, wR_nil]
        refine (pp_spec k (toDs ps) (by rw [toDs_len]; exact hw.1)).fl.enum fun b B kB hb1 hb2 => ?_
        have hf0 : B[A.length]? = some (.lst []) := kB _ _ new_at
        refine forL_ind (fun i F A' => ∃ x y z u q, F = [some (mk k (toDs ps)), some (.ref v), some (.ref A.length), x, y, z, u, q] ∧ Kp A A' ∧ A'[A.length]? = some (.lst (putL k 0 (ps.take i) m)) ∧ A'[b]? = some (.lst (toDs ps))) _ 0 _ B
          ⟨none, none, none, none, none, rfl, Kp.refl.app.trans kB, hf0, hb2⟩ (fun j d F A' e ⟨x, y, z, u, q, eF, k1, h1, h2⟩ => ?_) fun F A' ⟨x, y, z, u, q, eF, k1, h1, h2⟩ => ?_
        · subst eF
          refine ⟨gOk_one h2, ?_⟩
          obtain ⟨pd, rfl, hv'⟩ := enumD_get e
          rw [toDs_map, List.getElem?_map] at hv'
          obtain ⟨p, hp, rfl⟩ := Option.map_eq_some_iff.mp hv'
          have hmem := List.mem_of_getElem? hp
          have hj' : j < ps.length := (List.getElem?_eq_some_iff.mp hp).1
          rw [Nat.zero_add] at h1 ⊢
          refine ⟨[some (mk k (toDs ps)), some (.ref v), some (.ref A.length), some (.int ((j : Nat) : Int)), some (toD p), z, u, q], rfl, ?_⟩
          rw [wS_seq, wS_set, wR_cl, wR_cons, wR_var (d := mk k (toDs ps)) rfl, wR_cons, wR_var (d := .int (j : Nat)) rfl, wR_nil]
          refine (pb_spec k (toDs ps) j (by rw [toDs_len]; exact hw.1) (by rw [← hw.1]; exact hj')).fl.mono fun r A2 ⟨g, er, k2, hg1, hg2⟩ => ?_
          subst er
          show wS (sx _ N _ [some (mk k (toDs ps)), some (.ref v), some (.ref A.length), some (.int ((j : Nat) : Int)), some (toD p), some (.ref g), u, q] A2) _ _ _ _
          rw [wS_seq, wS_set]
          refine filt_dict (v := v) (b := g) (m := m) (bs := bd k j) rfl rfl (by simp) (k2 _ _ (k1 _ _ hv)) hg2 hnd hz ?_
          show wS (sx _ N _ [some (mk k (toDs ps)), some (.ref v), some (.ref A.length), some (.int ((j : Nat) : Int)), some (toD p), some (.ref g), some (.ref A2.length), q] (A2 ++ [.dct (vKs (flt (bd k j) m))])) _ _ _ _
          have k3 : Kp A' (A2 ++ [.dct (vKs (flt (bd k j) m))]) := k2.app
          rw [wS_seq, wS_ex, wR_mth, wR_var (d := .ref A.length) rfl, mkM_lst (k3 _ _ h1) rfl, wR_some, wR_cons, wR_cl, wR_cons, wR_var (d := toD p) rfl, wR_cons, wR_var (d := .ref A2.length) rfl, wR_nil]
          refine (put_in_spec (w + 1) p _ A2.length (flt (bd k j) m) (wfs_mem hw.2 p hmem) (by have := ht_mem hmem; omega) new_at (flt_nd hnd) (Nat.le_trans flt_len hz)).mono fun r A3 ⟨er, k4⟩ => ?_
          subst er
          have k5 := k3.trans k4
          rw [wR_nil, append_eq (k5 _ _ h1) (by rw [putL_len, sz, List.length_take]; have := ar_le k; omega), wR_ok, wS_skip]
          have hb : A.length ≠ b := (at_ne hb1 new_at).symm
          refine ⟨_, _, _, _, _, rfl, (k1.trans k5).set new_none, ?_, set_ne (k5 _ _ h2) hb⟩
          rw [set_at (k5 _ _ h1), putL_take hp]
        · subst eF
          refine ⟨gOk_one h2, ?_⟩
          rw [Nat.zero_add, Ev.enum_len, toDs_len, List.take_length] at h1
          rw [wS_seq, wS_ret, wR_cl, wR_cons, wR_var (d := mk k (toDs ps)) rfl, wR_cons, wR_var (d := .ref A.length) rfl, wR_nil, putT_nd hk]
          exact (pw_spec k (toDs ps) (putL k 0 ps m) A.length (by rw [toDs_len]; exact hw.1) (by rw [putL_len]; exact hw.1) h1).mono fun r A4 ⟨er, k4⟩ => ⟨er, k1.trans k4⟩
theorem copy_eq {A : AH} {v : Nat} {kvs : List (D × D)} (h : A[v]? = some (.dct kvs)) : biF A "dict" [.ref v] = .ok (.ref A.length) (A ++ [.dct kvs]) := by
  show biDict A [.ref v] = _
  have : dctL A v = some kvs := by simp [dctL, h]
  simp only [biDict, this]
theorem law_put_spec : ∀ (n : Nat) (t : Tm) (A : AH) (v : Nat) (m : List (String × D)), wf t → ht t < n → A[v]? = some (.dct (vKs m)) → (m.map (·.1)).Nodup → m.length ≤ 1000 → wR (callF pg N n "_law_put" [toD t, .ref v] A) (fun r A' => r = putT t m ∧ Kp A A')
  | 0, t, A, v, m, hw, hn, _, _, _ => by omega
  | 1, t, A, v, m, hw, hn, _, _, _ => by cases t; rw [ht] at hn; omega
  | w + 2, .nd k ps, A, v, m, hw, hn, hv, hnd, hz => by
    rw [wf] at hw
    rw [ht] at hn
    rw [wR_call (fd := fn_27) rfl rfl]
    by_cases hk : ∃ x, k = .var x
    · obtain ⟨x, rfl⟩ := hk
      have : ps = [] := List.eq_nil_of_length_eq_zero hw.1
      subst this
      refine ret_at 0 (F' := [some (mk (.var x) []), some (.ref v), none, none, none, none, none]) (by kernel_rfl) (by kernel_rfl) (by kernel_rfl) ?_
      exact put_var (f := "") (fd := fn_27) rfl rfl hv
    · have hk : ∀ x, k ≠ .var x := fun x e => hk ⟨x, e⟩
      show wS (sx _ N fn_27.body [some (mk k (toDs ps)), some (.ref v), none, none, none, none, none] A) _ _ _ _
      rw [fn_27, wS_seq, wS_ite]
      refine not_var rfl hk ?_
      rw [if_neg (by decide), wS_skip, wS_seq, wS_set]
      refine parts_set (lp_spec k (toDs ps) (by rw [toDs_len]; exact hw.1)).fl rfl fun b B kB hb1 hb2 => ?_
      show wS (sx _ N _ [some (mk k (toDs ps)), some (.ref v), some (.ref b), none, none, none, none] B) _ _ _ _
      rw [wS_seq, wS_set]
      show wS (sx _ N _ [some (mk k (toDs ps)), some (.ref v), some (.ref b), some (.ref B.length), none, none, none] (B ++ [.lst []])) _ _ _ _
      have hbB : (B ++ [AO.lst []])[b]? = some (.lst (toDs ps)) := app_at hb2
      rw [wS_seq, wS_for, wR_rng, wR_cons, wR_bi, wR_cons, wR_var (d := .ref b) rfl, wR_nil, len_lst hbB, wR_ok, wR_nil, wkRng_nat (by rw [toDs_len, hw.1]; have := ar_le k; omega), wR_some]
      refine forL_ind (fun i F A' => ∃ x y z, F = [some (mk k (toDs ps)), some (.ref v), some (.ref b), some (.ref B.length), x, y, z] ∧ Kp B A' ∧ A'[B.length]? = some (.lst (putL k 0 (ps.take i) m))) _ 0 _ _
        ⟨none, none, none, rfl, Kp.refl.app, new_at⟩ (fun j d F A' e ⟨x, y, z, eF, k1, h1⟩ => ?_) fun F A' ⟨x, y, z, eF, k1, h1⟩ => ?_
      · subst eF
        refine ⟨rfl, ?_⟩
        have e : ((List.range (toDs ps).length).map fun (i : Nat) => D.int (i : Int))[j]? = some d := e
        rw [List.getElem?_map] at e
        obtain ⟨j', e1, rfl⟩ := Option.map_eq_some_iff.mp e
        obtain ⟨hj, e2⟩ := List.getElem?_eq_some_iff.mp e1
        have hj' : j < ps.length := by simpa [toDs_len] using hj
        have : j' = j := by rw [← e2]; simp
        subst this
        have hp : ps[j']? = some ps[j'] := List.getElem?_eq_getElem hj'
        generalize ps[j'] = p at hp
        have hmem := List.mem_of_getElem? hp
        rw [Nat.zero_add] at h1 ⊢
        refine ⟨[some (mk k (toDs ps)), some (.ref v), some (.ref b), some (.ref B.length), some (.int (j' : Nat)), y, z], rfl, ?_⟩
        have hvA : A'[v]? = some (.dct (vKs m)) := k1 _ _ (kB _ _ hv)
        rw [wS_seq, wS_set, wR_bi, wR_cons, wR_var (d := .ref v) rfl, wR_nil, copy_eq hvA, wR_ok]
        show wS (sx _ N _ [some (mk k (toDs ps)), some (.ref v), some (.ref b), some (.ref B.length), some (.int (j' : Nat)), some (.ref A'.length), z] (A' ++ [.dct (vKs m)])) _ _ _ _
        rw [wS_seq, wS_for, wR_wk, wR_cl, wR_cons, wR_var (d := mk k (toDs ps)) rfl, wR_cons, wR_var (d := .int (j' : Nat)) rfl, wR_nil]
        refine (lb_spec k (toDs ps) j' (by rw [toDs_len]; exact hw.1) (by rw [← hw.1]; exact hj')).fl.walk fun g A3 k3 hg1 hg2 => ?_
        refine forL_ind (fun i F A4 => ∃ z, F = [some (mk k (toDs ps)), some (.ref v), some (.ref b), some (.ref B.length), some (.int (j' : Nat)), some (.ref A'.length), z] ∧ Kp A' A4 ∧ A4[g]? = some (.lst ((bd k j').map .str)) ∧ A4[A'.length]? = some (.dct (vKs (flt ((bd k j').take i) m)))) _ 0 _ A3
          ⟨z, rfl, Kp.refl.app.trans k3, hg2, (k3 _ _ new_at).trans (by congr 3; exact (List.filter_eq_self.mpr (fun _ _ => rfl)).symm)⟩ (fun q d F A4 e ⟨z, eF, k4, h3, h4⟩ => ?_) fun F A4 ⟨z, eF, k4, h3, h4⟩ => ?_
        · subst eF
          refine ⟨gOk_one h3, ?_⟩
          have e : ((bd k j').map D.str)[q]? = some d := e
          rw [List.getElem?_map] at e
          obtain ⟨s, hs, rfl⟩ := Option.map_eq_some_iff.mp e
          rw [Nat.zero_add] at h4 ⊢
          refine ⟨[some (mk k (toDs ps)), some (.ref v), some (.ref b), some (.ref B.length), some (.int (j' : Nat)), some (.ref A'.length), some (.str s)], rfl, ?_⟩
          rw [wS_seq, wS_ex, wR_mth, wR_var (d := .ref A'.length) rfl, mkM_dct h4 rfl, wR_some, wR_cons, wR_var (d := .str s) rfl, wR_cons, wR_non, wR_nil]
          refine (pop_val h4).mono fun r A5 ⟨h5, h6⟩ => ?_
          rw [wS_skip]
          have hgc : g ≠ A'.length := at_ne hg1 new_at
          refine ⟨_, rfl, fun i o hi => h6 i o (fun ei => by rw [ei, new_none] at hi; cases hi) (k4 i o hi), h6 _ _ hgc h3, ?_⟩
          rw [h5]
          congr 3
          unfold flt
          rw [List.filter_filter]
          refine List.filter_congr fun y _ => ?_
          rw [List.take_succ, hs]
          show _ = !(((bd k j').take q) ++ [s]).contains y.1
          rw [Bool.eq_iff_iff]
          simp
          exact And.comm
        · subst eF
          refine ⟨gOk_one h3, ?_⟩
          rw [Nat.zero_add, List.length_map, List.take_length] at h4
          have e3 : opI A4 (.ref b) (.int (j' : Nat)) = some (toD p) := by rw [opI_lst (k4 _ _ (k1 _ _ hb2)), atI_nat, get_toDs hp]
          rw [wS_seq, wS_ex, wR_mth, wR_var (d := .ref B.length) rfl, mkM_lst (k4 _ _ h1) rfl, wR_some, wR_cons, wR_cl, wR_cons, wR_ix, wR_var (d := .ref b) rfl, wR_var (d := .int (j' : Nat)) rfl, e3, wR_some, wR_cons, wR_var (d := .ref A'.length) rfl, wR_nil]
          refine (law_put_spec (w + 1) p _ A'.length (flt (bd k j') m) (wfs_mem hw.2 p hmem) (by have := ht_mem hmem; omega) h4 (flt_nd hnd) (Nat.le_trans flt_len hz)).mono fun r A6 ⟨er, k6⟩ => ?_
          subst er
          have k5 := k4.trans k6
          rw [wR_nil, append_eq (k5 _ _ h1) (by rw [putL_len, sz, List.length_take]; have := ar_le k; omega), wR_ok, wS_skip]
          refine ⟨_, _, _, rfl, (k1.trans k5).set new_none, ?_⟩
          rw [set_at (k5 _ _ h1), putL_take hp]
      · subst eF
        refine ⟨rfl, ?_⟩
        simp only [Nat.zero_add, List.length_map, List.length_range] at h1
        rw [toDs_len, List.take_length] at h1
        rw [wS_seq, wS_ret, wR_cl, wR_cons, wR_var (d := mk k (toDs ps)) rfl, wR_cons, wR_var (d := .ref B.length) rfl, wR_nil, putT_nd hk]
        exact (lw_spec k (toDs ps) (putL k 0 ps m) B.length (by rw [toDs_len]; exact hw.1) (by rw [putL_len]; exact hw.1) h1).mono fun r A4 ⟨er, k4⟩ => ⟨er, (kB.trans k1).trans k4⟩
end K01

/-! ## K01L -/
namespace K01
open Ev
section
variable {cl : String → List D → AH → Res D} {A : AH} {P : D → AH → Prop} {a b c d e f g h i j : Option D} {z : D} {F : Fr}
theorem wR_v0 : wR (ev cl (.var 0) (some z :: F) A) P ↔ P z A := Iff.rfl
theorem wR_v1 : wR (ev cl (.var 1) (a :: some z :: F) A) P ↔ P z A := Iff.rfl
theorem wR_v2 : wR (ev cl (.var 2) (a :: b :: some z :: F) A) P ↔ P z A := Iff.rfl
theorem wR_v3 : wR (ev cl (.var 3) (a :: b :: c :: some z :: F) A) P ↔ P z A := Iff.rfl
theorem wR_v4 : wR (ev cl (.var 4) (a :: b :: c :: d :: some z :: F) A) P ↔ P z A := Iff.rfl
theorem wR_v5 : wR (ev cl (.var 5) (a :: b :: c :: d :: e :: some z :: F) A) P ↔ P z A := Iff.rfl
theorem wR_v6 : wR (ev cl (.var 6) (a :: b :: c :: d :: e :: f :: some z :: F) A) P ↔ P z A := Iff.rfl
theorem wR_v7 : wR (ev cl (.var 7) (a :: b :: c :: d :: e :: f :: g :: some z :: F) A) P ↔ P z A := Iff.rfl
theorem wR_v8 : wR (ev cl (.var 8) (a :: b :: c :: d :: e :: f :: g :: h :: some z :: F) A) P ↔ P z A := Iff.rfl
theorem wR_v9 : wR (ev cl (.var 9) (a :: b :: c :: d :: e :: f :: g :: h :: i :: some z :: F) A) P ↔ P z A := Iff.rfl
end
theorem wR_if {α : Type} {c : Prop} [Decidable c] {a : α} {A : AH} {P : α → AH → Prop} : wR (if c then Res.ok a A else .no) P ↔ c ∧ P a A := by
  by_cases h : c
  · simp [h, wR_ok]
  · rw [if_neg h]; exact ⟨fun z => z.elim, fun z => absurd z.1 h⟩
theorem fits {α : Type} {l : List α} {n : Nat} (h : l.length = n) (hn : n ≤ 1000) : l.length ≤ PySem.sizeLine := by rw [sz]; omega
/-! ### draws -/
def H (d : Nat) : Nat := 2 * d + 3
def NB : Nat → Nat
  | 0 => 1
  | d + 1 => 4 * NB d + 30
/-- a drawn term -/
structure Gd1 (d : Nat) (t : Tm) : Prop where
  w : wf t
  v : vn t
  h : ht t ≤ H d
  n : nodes t ≤ NB d
structure Leafy (t : Tm) : Prop where
  w : wf t
  v : vn t
  h : ht t = 1
  n : nodes t = 1
theorem NB_pos : ∀ d, 1 ≤ NB d
  | 0 => Nat.le_refl _
  | d + 1 => by rw [NB]; omega
theorem Leafy.gd {t : Tm} (l : Leafy t) (d : Nat) : Gd1 d t := ⟨l.w, l.v, by rw [l.h, H]; omega, by rw [l.n]; exact NB_pos d⟩
theorem leafy {k : Kd} (h : ar k = 0) (hv : ∀ x, k = .var x → x ∈ AN) : Leafy (.nd k []) := ⟨by rw [wf]; exact ⟨h.symm, trivial⟩, by rw [vn]; exact ⟨hv, trivial⟩, rfl, rfl⟩
/-- names as they stand -/
def NmOk (A : AH) (nm : Nat) (ns : List String) : Prop := A[nm]? = some (.lst (ns.map .str)) ∧ ∀ x ∈ ns, x ∈ AN
theorem NmOk.dr {A B : AH} {nm tp : Nat} {ns : List String} (h : NmOk A nm ns) (t : TapeOk A tp) (d : Dr tp A B) : NmOk B nm ns := by
  refine ⟨d.kp nm _ (fun e => ?_) h.1, h.2⟩
  obtain ⟨c, i, l, s, z, cells, h1, _⟩ := t
  rw [← e, h.1] at h1; cases h1
variable {N n : Nat} {A : AH}
theorem take (n : Nat) {tp : Nat} {many : Int} (t : TapeOk A tp) (h0 : 0 < many) (h1 : many < 1073741824) : wR (callF pg N (n + 1) "_law_take" [.ref tp, .int many] A) (fun r A' => ∃ m : Int, r = .int m ∧ 0 ≤ m ∧ m < many ∧ Dr tp A A') := take_spec rfl t h0 h1
theorem row_vars {cl : String → List D → AH → Res D} {F : Fr} {A : AH} {nm : Nat} {ns : List String} {P : D → AH → Prop} (h1 : F[1]? = some (some (.ref nm))) (h3 : 3 < F.length) (hn : NmOk A nm ns) (hz : ns.length ≤ 500)
    (p : P (.ref A.length) (A ++ [.lst (ns.map fun x => mk (.var x) [])])) : wR (ev cl (.lc (.nm 3) (.wk (.var 1)) .nil (.tup (.cons (.str "var") (.cons (.var 3) .nil))) [3]) F A) P := by
  rw [wR_lc, wR_wk, wR_var h1]
  have hw : wkOf A (.ref nm) = some ⟨ns.map .str, [(nm, .lst (ns.map .str))], none⟩ := by simp [wkOf, hn.1]
  rw [hw, wR_some]
  show wR (bnd (lcL (asgT (.nm 3)) _ _ _ _ [] A) _) _
  rw [wR_bnd]
  have key : wR (lcL (asgT (.nm 3)) [(nm, .lst (ns.map .str))] (lcB cl .nil (.tup (.cons (.str "var") (.cons (.var 3) .nil)))) (wipeF F [3]) (ns.map .str) [] A) (fun ds A' => ds = (ns.map fun x => mk (.var x) []) ∧ A' = A) := by
    refine lcL_ind (fun i acc A' => acc = (ns.take i).map (fun x => mk (.var x) []) ∧ A' = A) _ 0 _ A ⟨rfl, rfl⟩ (fun j d acc A' e ⟨ea, eA⟩ => ?_) fun acc A' ⟨ea, eA⟩ => ?_
    · subst ea eA
      refine ⟨gOk_one hn.1, ?_⟩
      rw [List.getElem?_map] at e
      obtain ⟨x, hx, rfl⟩ := Option.map_eq_some_iff.mp e
      have hlt := (List.getElem?_eq_some_iff.mp hx).1
      refine ⟨fset (wipeF F [3]) 3 (.str x), rfl, ?_⟩
      have g3 : (fset (wipeF F [3]) 3 (.str x))[3]? = some (some (.str x)) := by simp [fset, wipeF, h3]
      rw [wR_lcB, wR_evc0, if_pos rfl, wR_tup, wR_cons, wR_str, wR_cons, wR_var g3, wR_nil, wR_if]
      refine ⟨fits (n := 2) rfl (by decide), ?_, ?_, rfl⟩
      · rw [List.length_map, List.length_take, sz]; omega
      · rw [Nat.zero_add, List.take_succ, hx, List.map_append]; rfl
    · subst ea eA
      refine ⟨gOk_one hn.1, ?_, rfl⟩
      rw [List.length_map, Nat.zero_add, List.take_length]
  refine key.mono fun ds A' ⟨e1, e2⟩ => ?_
  subst e1 e2
  exact p
theorem leaf_spec (n : Nat) {tp nm : Nat} {ns : List String} (t : TapeOk A tp) (hn : NmOk A nm ns) (hz : ns.length ≤ 500) : wR (callF pg N (n + 2) "_law_leaf" [.ref tp, .ref nm] A) (fun r A' => ∃ t, r = toD t ∧ Leafy t ∧ Dr tp A A') := by
  rw [wR_call (fd := fn_16) rfl rfl]
  show wS (sx _ N fn_16.body [some (.ref tp), some (.ref nm), none, none] A) _ _ _ _
  rw [fn_16, wS_seq, wS_set, wR_op, wR_op, wR_lst, wR_cons, wR_tup, wR_cons, wR_str, wR_cons, wR_cl, wR_cons, wR_v0, wR_cons, wR_int, wR_nil]
  refine (take n t (by decide) (by decide)).mono fun r A1 ⟨m1, er, _, _, d1⟩ => ?_
  subst er
  rw [wR_nil, wR_if]
  refine ⟨fits (n := 2) rfl (by decide), ?_⟩
  rw [wR_cons, wR_tup, wR_cons, wR_str, wR_cons, wR_cmp, wR_cl, wR_cons, wR_v0, wR_cons, wR_int, wR_nil]
  refine (take n d1.tape (by decide) (by decide)).mono fun r A2 ⟨m2, er, _, _, d2⟩ => ?_
  subst er
  rw [wR_int, eq_int]
  show wR (ofO (some (D.bl (decide (m2 = 0)))) A2) _
  rw [wR_some, wR_nil, wR_if]
  refine ⟨fits (n := 2) rfl (by decide), ?_⟩
  rw [wR_cons, wR_tup, wR_cons, wR_str, wR_nil, wR_if]
  refine ⟨fits (n := 1) rfl (by decide), ?_⟩
  rw [wR_cons, wR_tup, wR_cons, wR_str, wR_cons, wR_str, wR_cons, wR_tup, wR_nil, wR_if]
  refine ⟨fits (n := 0) rfl (by decide), ?_⟩
  rw [wR_nil, wR_if]
  refine ⟨fits (n := 3) rfl (by decide), ?_⟩
  rw [wR_cons, wR_tup, wR_cons, wR_str, wR_cons, wR_int, wR_nil, wR_if]
  refine ⟨fits (n := 2) rfl (by decide), ?_⟩
  rw [wR_nil, wR_if]
  refine ⟨fits (n := 5) rfl (by decide), ?_⟩
  have d12 := d1.trans d2
  generalize hh : [D.tup [.str "int", .int m1], D.tup [.str "bool", .bl (decide (m2 = 0))], D.tup [.str "unit"], D.tup [.str "con", .str "Nil", .tup []], D.tup [.str "int", .int 4294967295]] = hd
  have hdl : hd.length = 5 := by rw [← hh]; rfl
  have hn2 := hn.dr t d12
  refine row_vars rfl (by simp) ⟨app_at hn2.1, hn2.2⟩ hz ?_
  have hcat : ∀ (A : AH) (a b : Nat) (xs ys : List D), A[a]? = some (.lst xs) → A[b]? = some (.lst ys) → xs.length + ys.length ≤ 2000 → opB A .add (.ref a) (.ref b) = .ok (.ref A.length) (A ++ [.lst (xs ++ ys)]) := fun A a b xs ys h1 h2 h3 => add_lst h1 h2 (by rw [sz]; omega)
  rw [hcat _ _ _ _ _ (app_at new_at) new_at (by rw [List.length_map]; omega), wR_ok]
  refine row_vars rfl (by simp) ⟨app_at (app_at (app_at hn2.1)), hn2.2⟩ hz ?_
  rw [hcat _ _ _ _ _ (app_at new_at) new_at (by rw [List.length_append, List.length_map]; omega), wR_ok]
  generalize hB : ((A2 ++ [AO.lst hd] ++ [AO.lst (List.map (fun x => mk (Kd.var x) []) ns)] ++ [AO.lst (hd ++ List.map (fun x => mk (Kd.var x) []) ns)] ++ [AO.lst (List.map (fun x => mk (Kd.var x) []) ns)])) = B
  have dB : Dr tp A B := by rw [← hB]; exact d12.app.app.app.app
  generalize hxs : (hd ++ ns.map (fun x => mk (.var x) [])) ++ ns.map (fun x => mk (.var x) []) = xs
  have hxl : xs.length = 5 + ns.length + ns.length := by rw [← hxs, List.length_append, List.length_append, List.length_map, hdl]
  show wS (sx _ N _ [some (.ref tp), some (.ref nm), some (.ref B.length), none] (B ++ [.lst xs])) _ _ _ _
  have dB' : Dr tp A (B ++ [.lst xs]) := dB.app
  rw [wS_seq, wS_ret, wR_ix, wR_v2, wR_cl, wR_cons, wR_v0, wR_cons, wR_bi, wR_cons, wR_v2, wR_nil, len_lst new_at, wR_ok, wR_nil]
  refine (take n dB'.tape (by omega) (by omega)).mono fun r A3 ⟨m3, er, h30, h31, d3⟩ => ?_
  subst er
  have hne : B.length ≠ tp := fun e => by
    obtain ⟨c, i, l, s, z, cells, h1, _⟩ := dB'.tape
    rw [← e, new_at] at h1; cases h1
  have hx : A3[B.length]? = some (.lst xs) := d3.kp _ _ hne new_at
  have hm3 : ∃ x, xs[m3.toNat]? = some x := ⟨_, List.getElem?_eq_getElem (by omega)⟩
  obtain ⟨x, hx3⟩ := hm3
  rw [opI_lst hx, show m3 = ((m3.toNat : Nat) : Int) by omega, atI_nat, hx3, wR_some]
  have hmem := List.mem_of_getElem? hx3
  have good : ∃ t, x = toD t ∧ Leafy t := by
    have vars : x ∈ ns.map (fun x => mk (.var x) []) → ∃ t, x = toD t ∧ Leafy t := fun h => by
      obtain ⟨y, hy, rfl⟩ := List.mem_map.mp h
      exact ⟨.nd (.var y) [], rfl, leafy rfl fun z ez => by cases ez; exact hn.2 y hy⟩
    rw [← hxs, List.mem_append, List.mem_append] at hmem
    rcases hmem with (hmem | hmem) | hmem
    · rw [← hh] at hmem
      rcases List.mem_cons.mp hmem with rfl | hmem
      · exact ⟨.nd (.int m1) [], rfl, leafy rfl fun z ez => by cases ez⟩
      rcases List.mem_cons.mp hmem with rfl | hmem
      · exact ⟨.nd (.bool _) [], rfl, leafy rfl fun z ez => by cases ez⟩
      rcases List.mem_cons.mp hmem with rfl | hmem
      · exact ⟨.nd .unit [], rfl, leafy rfl fun z ez => by cases ez⟩
      rcases List.mem_cons.mp hmem with rfl | hmem
      · exact ⟨.nd .nil [], rfl, leafy rfl fun z ez => by cases ez⟩
      rcases List.mem_cons.mp hmem with rfl | hmem
      · exact ⟨.nd (.int 4294967295) [], rfl, leafy rfl fun z ez => by cases ez⟩
      · cases hmem
    · exact vars hmem
    · exact vars hmem
  obtain ⟨t, et, lt⟩ := good
  exact ⟨t, et, lt, dB'.trans d3⟩
end K01

/-! ## K01M -/
namespace K01
open Ev
abbrev Cl0 := String → List D → AH → Res D
/-- an expression that draws -/
def DE (cl : Cl0) (tp nm : Nat) (ns : List String) (F : Fr) (e : Ex) (S : D → Prop) : Prop := ∀ A, TapeOk A tp → NmOk A nm ns → ∀ P : D → AH → Prop, (∀ d A', S d → Dr tp A A' → P d A') → wR (ev cl e F A) P
def DL (cl : Cl0) (tp nm : Nat) (ns : List String) (F : Fr) (e : Ex) (S : List D → Prop) : Prop := ∀ A, TapeOk A tp → NmOk A nm ns → ∀ P : List D → AH → Prop, (∀ d A', S d → Dr tp A A' → P d A') → wR (evs cl e F A) P
def TakeS (cl : Cl0) (tp : Nat) : Prop := ∀ A (many : Int), TapeOk A tp → 0 < many → many < 1073741824 → wR (cl "_law_take" [.ref tp, .int many] A) (fun r A' => ∃ m : Int, r = .int m ∧ 0 ≤ m ∧ m < many ∧ Dr tp A A')
def LeafS (cl : Cl0) (tp : Nat) : Prop := ∀ A nm ns, TapeOk A tp → NmOk A nm ns → ns.length ≤ 500 → wR (cl "_law_leaf" [.ref tp, .ref nm] A) (fun r A' => ∃ t, r = toD t ∧ Leafy t ∧ Dr tp A A')
def ProgS (cl : Cl0) (tp : Nat) (b : Nat) : Prop := ∀ A nm ns (dep : Int), TapeOk A tp → NmOk A nm ns → ns.length + 3 * dep.toNat ≤ 400 → dep.toNat ≤ b → wR (cl "_law_program" [.ref tp, .ref nm, .int dep] A) (fun r A' => ∃ t, r = toD t ∧ Gd1 dep.toNat t ∧ Dr tp A A')
section
variable {cl : Cl0} {tp nm : Nat} {ns : List String} {F : Fr} {S T : D → Prop}
theorem DE.imp {e : Ex} (h : DE cl tp nm ns F e S) (k : ∀ d, S d → T d) : DE cl tp nm ns F e T := fun A t n P p => h A t n P fun d A' s dr => p d A' (k d s) dr
theorem DL.nil : DL cl tp nm ns F .nil (· = []) := fun A t n P p => by rw [wR_nil]; exact p _ _ rfl (.refl t)
theorem DL.cons {a r : Ex} {R : List D → Prop} (h1 : DE cl tp nm ns F a S) (h2 : DL cl tp nm ns F r R) : DL cl tp nm ns F (.cons a r) (fun ds => ∃ d r, ds = d :: r ∧ S d ∧ R r) := fun A t n P p => by
  rw [wR_cons]
  refine h1 A t n _ fun d A1 s d1 => ?_
  exact h2 A1 d1.tape (n.dr t d1) _ fun ds A2 rr d2 => p _ _ ⟨d, ds, rfl, s, rr⟩ (d1.trans d2)
theorem DE.tup {es : Ex} {R : List D → Prop} (h : DL cl tp nm ns F es R) (hl : ∀ ds, R ds → ds.length ≤ 1000) : DE cl tp nm ns F (.tup es) (fun d => ∃ ds, d = .tup ds ∧ R ds) := fun A t n P p => by
  rw [wR_tup]
  refine h A t n _ fun ds A1 r d1 => ?_
  rw [wR_if]
  exact ⟨by rw [sz]; have := hl ds r; omega, p _ _ ⟨ds, rfl, r⟩ d1⟩
theorem DE.str {s : String} : DE cl tp nm ns F (.str s) (· = .str s) := fun A t n P p => by rw [wR_str]; exact p _ _ rfl (.refl t)
theorem DE.int {s : Int} : DE cl tp nm ns F (.int s) (· = .int s) := fun A t n P p => by rw [wR_int]; exact p _ _ rfl (.refl t)
theorem DE.var {i : Nat} {d : D} (h : F[i]? = some (some d)) : DE cl tp nm ns F (.var i) (· = d) := fun A t n P p => by rw [wR_var h]; exact p _ _ rfl (.refl t)
theorem DE.take (hT : TakeS cl tp) {k : Int} (h0 : F[0]? = some (some (.ref tp))) (k0 : 0 < k) (k1 : k < 1000) : DE cl tp nm ns F (.call "_law_take" (.cons (.var 0) (.cons (.int k) .nil))) (fun d => ∃ m : Int, d = .int m ∧ 0 ≤ m ∧ m < k) := fun A t n P p => by
  rw [wR_cl, wR_cons, wR_var h0, wR_cons, wR_int, wR_nil]
  exact (hT A k t k0 (by omega)).mono fun r A' ⟨m, e, a, b, d⟩ => p _ _ ⟨m, e, a, b⟩ d
theorem DE.ite {c : Ex} {a b : Ex} (hc : DE cl tp nm ns F c (fun d => ∃ r, d = .bl r)) (ha : DE cl tp nm ns F a S) (hb : DE cl tp nm ns F b S) : DE cl tp nm ns F (.ite c a b) S := fun A t n P p => by
  rw [wR_ite]
  refine hc A t n _ fun d A1 ⟨r, e⟩ d1 => ?_
  subst e
  rw [truth_bl, wR_some]
  cases r with
  | true => rw [if_pos rfl]; exact ha A1 d1.tape (n.dr t d1) _ fun d A2 s d2 => p d A2 s (d1.trans d2)
  | false => rw [if_neg (by decide)]; exact hb A1 d1.tape (n.dr t d1) _ fun d A2 s d2 => p d A2 s (d1.trans d2)
theorem DE.eq0 {a : Ex} {j : Int} (ha : DE cl tp nm ns F a (fun d => ∃ m : Int, d = .int m ∧ S d)) : DE cl tp nm ns F (.cmp .eq a (.int j)) (fun d => ∃ r, d = .bl r) := fun A t n P p => by
  rw [wR_cmp]
  refine ha A t n _ fun d A1 ⟨m, e, _⟩ d1 => ?_
  subst e
  rw [wR_int, eq_int]
  show wR (ofO (some (D.bl (decide (m = j)))) A1) _
  rw [wR_some]
  exact p _ _ ⟨_, rfl⟩ d1
/-- the toss of a coin -/
theorem DE.toss (hT : TakeS cl tp) {k : Int} (h0 : F[0]? = some (some (.ref tp))) (k0 : 0 < k) (k1 : k < 1000) : DE cl tp nm ns F (.cmp .eq (.call "_law_take" (.cons (.var 0) (.cons (.int k) .nil))) (.int 0)) (fun d => ∃ r, d = .bl r) :=
  DE.eq0 (S := fun _ => True) ((DE.take hT h0 k0 k1).imp fun d ⟨m, e, _⟩ => ⟨m, e, trivial⟩)
/-- one of a list -/
theorem DE.pick {es ie : Ex} {k : Nat} {R : List D → Prop} (hl : DL cl tp nm ns F es R) (hR : ∀ ds, R ds → ds.length = k ∧ ∀ d ∈ ds, S d) (hk : k ≤ 1000) (hi : DE cl tp nm ns F ie (fun d => ∃ m : Int, d = .int m ∧ 0 ≤ m ∧ m < k)) : DE cl tp nm ns F (.ix (.lst es) ie) S := fun A t n P p => by
  rw [wR_ix, wR_lst]
  refine hl A t n _ fun ds A1 r d1 => ?_
  obtain ⟨h1, h2⟩ := hR ds r
  rw [wR_if]
  refine ⟨by rw [sz]; omega, ?_⟩
  have d1' : Dr tp A (A1 ++ [.lst ds]) := d1.app
  refine hi _ d1'.tape (n.dr t d1') _ fun d A2 ⟨m, e, m0, m1⟩ d2 => ?_
  subst e
  have hne : A1.length ≠ tp := fun e => by
    obtain ⟨c, i, l, s, z, cells, h1, _⟩ := d1'.tape
    rw [← e, new_at] at h1; cases h1
  have hx : A2[A1.length]? = some (.lst ds) := d2.kp _ _ hne new_at
  have hm : ∃ x, ds[m.toNat]? = some x := ⟨_, List.getElem?_eq_getElem (by omega)⟩
  obtain ⟨x, hx3⟩ := hm
  rw [opI_lst hx, show m = ((m.toNat : Nat) : Int) by omega, atI_nat, hx3, wR_some]
  exact p _ _ (h2 x (List.mem_of_getElem? hx3)) (d1'.trans d2)
/-- a program with the same names -/
theorem DE.prog {b : Nat} (hP : ProgS cl tp b) {de : Ex} {dep : Int} (h0 : F[0]? = some (some (.ref tp))) (h1 : F[1]? = some (some (.ref nm))) (hd : ∀ A (Q : D → AH → Prop), Q (.int dep) A → wR (ev cl de F A) Q) (hz : ns.length + 3 * dep.toNat ≤ 400) (hb : dep.toNat ≤ b) :
    DE cl tp nm ns F (.call "_law_program" (.cons (.var 0) (.cons (.var 1) (.cons de .nil)))) (fun d => ∃ t, d = toD t ∧ Gd1 dep.toNat t) := fun A t n P p => by
  rw [wR_cl, wR_cons, wR_var h0, wR_cons, wR_var h1, wR_cons]
  refine hd A _ ?_
  rw [wR_nil]
  exact (hP A nm ns dep t n hz hb).mono fun r A' ⟨t', e, g, d⟩ => p _ _ ⟨t', e, g⟩ d
/-- more names -/
theorem names_more {es : Ex} {xs : List String} {A : AH} {P : D → AH → Prop} (h1 : F[1]? = some (some (.ref nm))) (n : NmOk A nm ns) (he : ∀ A (Q : List D → AH → Prop), Q (xs.map .str) A → wR (evs cl es F A) Q) (hx : ∀ x ∈ xs, x ∈ AN) (hz : ns.length + xs.length ≤ 500)
    (p : ∀ A' nm', Kp A A' → NmOk A' nm' (ns ++ xs) → P (.ref nm') A') : wR (ev cl (.op .add (.var 1) (.lst es)) F A) P := by
  rw [wR_op, wR_var h1, wR_lst]
  refine he A _ ?_
  rw [wR_if]
  refine ⟨by rw [sz, List.length_map]; omega, ?_⟩
  rw [add_lst (app_at n.1) new_at (by rw [List.length_map, List.length_map, sz]; omega), wR_ok]
  refine p _ _ Kp.refl.app.app ⟨?_, fun x hx' => ?_⟩
  · rw [new_at, List.map_append]
  · rcases List.mem_append.mp hx' with h | h
    · exact n.2 x h
    · exact hx x h
theorem DE.progN {b : Nat} (hP : ProgS cl tp b) {de es : Ex} {dep : Int} {xs : List String} (h0 : F[0]? = some (some (.ref tp))) (h1 : F[1]? = some (some (.ref nm))) (he : ∀ A (Q : List D → AH → Prop), Q (xs.map .str) A → wR (evs cl es F A) Q) (hx : ∀ x ∈ xs, x ∈ AN)
    (hd : ∀ A (Q : D → AH → Prop), Q (.int dep) A → wR (ev cl de F A) Q) (hz : ns.length + xs.length + 3 * dep.toNat ≤ 400) (hb : dep.toNat ≤ b) :
    DE cl tp nm ns F (.call "_law_program" (.cons (.var 0) (.cons (.op .add (.var 1) (.lst es)) (.cons de .nil)))) (fun d => ∃ t, d = toD t ∧ Gd1 dep.toNat t) := fun A t n P p => by
  rw [wR_cl, wR_cons, wR_var h0, wR_cons]
  refine names_more h1 n he hx (by omega) fun A' nm' k n' => ?_
  rw [wR_cons]
  refine hd A' _ ?_
  rw [wR_nil]
  have d := Dr.of t k
  exact (hP A' nm' (ns ++ xs) dep d.tape n' (by rw [List.length_append]; omega) hb).mono fun r A2 ⟨t', e, g, d2⟩ => p _ _ ⟨t', e, g⟩ (d.trans d2)
theorem DE.leafN (hL : LeafS cl tp) {es : Ex} {xs : List String} (h0 : F[0]? = some (some (.ref tp))) (h1 : F[1]? = some (some (.ref nm))) (he : ∀ A (Q : List D → AH → Prop), Q (xs.map .str) A → wR (evs cl es F A) Q) (hx : ∀ x ∈ xs, x ∈ AN) (hz : ns.length + xs.length ≤ 500) :
    DE cl tp nm ns F (.call "_law_leaf" (.cons (.var 0) (.cons (.op .add (.var 1) (.lst es)) .nil))) (fun d => ∃ t, d = toD t ∧ Leafy t) := fun A t n P p => by
  rw [wR_cl, wR_cons, wR_var h0, wR_cons]
  refine names_more h1 n he hx hz fun A' nm' k n' => ?_
  rw [wR_nil]
  have d := Dr.of t k
  exact (hL A' nm' (ns ++ xs) d.tape n' (by rw [List.length_append]; omega)).mono fun r A2 ⟨t', e, g, d2⟩ => p _ _ ⟨t', e, g⟩ (d.trans d2)
end
/-- terms of bounded size, for parts in the making -/
structure Sz (h n : Nat) (t : Tm) : Prop where
  w : wf t
  v : vn t
  h : ht t ≤ h
  n : nodes t ≤ n
theorem Sz.mono {h n h' n' : Nat} {t : Tm} (s : Sz h n t) (a : h ≤ h') (b : n ≤ n') : Sz h' n' t := ⟨s.w, s.v, Nat.le_trans s.h a, Nat.le_trans s.n b⟩
theorem Gd1.sz {d : Nat} {t : Tm} (g : Gd1 d t) : Sz (H d) (NB d) t := ⟨g.w, g.v, g.h, g.n⟩
theorem Leafy.sz {t : Tm} (g : Leafy t) : Sz 1 1 t := ⟨g.w, g.v, Nat.le_of_eq g.h, Nat.le_of_eq g.n⟩
theorem Sz.gd {d : Nat} {t : Tm} (g : Sz (H d) (NB d) t) : Gd1 d t := ⟨g.w, g.v, g.h, g.n⟩
theorem sz0 {k : Kd} (h : ar k = 0) (hv : ∀ x, k = .var x → x ∈ AN) : Sz 1 1 (.nd k []) := (leafy h hv).sz
theorem sz1 {k : Kd} {a : Tm} {h n : Nat} (h1 : ar k = 1) (ha : Sz h n a) : Sz (h + 1) (n + 1) (.nd k [a]) := by
  refine ⟨?_, ?_, ?_, ?_⟩
  · rw [wf]; exact ⟨h1.symm, ha.w, trivial⟩
  · rw [vn]; exact ⟨fun x e => (by subst e; cases h1), ha.v, trivial⟩
  · rw [ht, htL, htL]; have := ha.h; omega
  · rw [nodes, nodesL, nodesL]; have := ha.n; omega
theorem sz2 {k : Kd} {a b : Tm} {h n m : Nat} (h1 : ar k = 2) (ha : Sz h n a) (hb : Sz h m b) : Sz (h + 1) (n + m + 1) (.nd k [a, b]) := by
  refine ⟨?_, ?_, ?_, ?_⟩
  · rw [wf]; exact ⟨h1.symm, ha.w, hb.w, trivial⟩
  · rw [vn]; exact ⟨fun x e => (by subst e; cases h1), ha.v, hb.v, trivial⟩
  · rw [ht, htL, htL, htL]; have := ha.h; have := hb.h; omega
  · rw [nodes, nodesL, nodesL, nodesL]; have := ha.n; have := hb.n; omega
theorem sz3 {k : Kd} {a b c : Tm} {h n m l : Nat} (h1 : ar k = 3) (ha : Sz h n a) (hb : Sz h m b) (hc : Sz h l c) : Sz (h + 1) (n + m + l + 1) (.nd k [a, b, c]) := by
  refine ⟨?_, ?_, ?_, ?_⟩
  · rw [wf]; exact ⟨h1.symm, ha.w, hb.w, hc.w, trivial⟩
  · rw [vn]; exact ⟨fun x e => (by subst e; cases h1), ha.v, hb.v, hc.v, trivial⟩
  · rw [ht, htL, htL, htL, htL]; have := ha.h; have := hb.h; have := hc.h; omega
  · rw [nodes, nodesL, nodesL, nodesL, nodesL]; have := ha.n; have := hb.n; have := hc.n; omega
end K01

/-! ## K01N -/
namespace K01
open Ev
section
variable {cl : Cl0} {tp nm : Nat} {ns : List String} {F : Fr} {h n m l : Nat}
/-- a drawn term of a size -/
def TT (h n : Nat) (d : D) : Prop := ∃ t, d = toD t ∧ Sz h n t
theorem TT.mono {h n h' n' : Nat} {d : D} (s : TT h n d) (a : h ≤ h') (b : n ≤ n') : TT h' n' d := let ⟨t, e, g⟩ := s; ⟨t, e, g.mono a b⟩
theorem one2 {es : Ex} {f : D → D} {S : D → Prop} (h : DL cl tp nm ns F es (fun ds => ∃ d, ds = [d] ∧ S d)) : DL cl tp nm ns F es (fun ds => ∃ d, ds = [d] ∧ S d) := h
theorem dl1 {a : Ex} {S : D → Prop} (ha : DE cl tp nm ns F a S) : DL cl tp nm ns F (.cons a .nil) (fun ds => ∃ d, ds = [d] ∧ S d) := fun A t n P p => (DL.cons ha DL.nil) A t n P fun ds A' ⟨d, r, e, s, er⟩ dr => p ds A' ⟨d, by rw [e, er], s⟩ dr
theorem dl2 {a b : Ex} {S T : D → Prop} (ha : DE cl tp nm ns F a S) (hb : DE cl tp nm ns F b T) : DL cl tp nm ns F (.cons a (.cons b .nil)) (fun ds => ∃ d e, ds = [d, e] ∧ S d ∧ T e) := fun A t n P p => (DL.cons ha (dl1 hb)) A t n P fun ds A' ⟨d, r, e, s, d2, er, s2⟩ dr => p ds A' ⟨d, d2, by rw [e, er], s, s2⟩ dr
theorem dl3 {a b c : Ex} {S T U : D → Prop} (ha : DE cl tp nm ns F a S) (hb : DE cl tp nm ns F b T) (hc : DE cl tp nm ns F c U) : DL cl tp nm ns F (.cons a (.cons b (.cons c .nil))) (fun ds => ∃ d e f, ds = [d, e, f] ∧ S d ∧ T e ∧ U f) := fun A t n P p => (DL.cons ha (dl2 hb hc)) A t n P fun ds A' ⟨d, r, e, s, d2, d3, er, s2⟩ dr => p ds A' ⟨d, d2, d3, by rw [e, er], s, s2⟩ dr
theorem dl4 {a b c e : Ex} {S T U W : D → Prop} (ha : DE cl tp nm ns F a S) (hb : DE cl tp nm ns F b T) (hc : DE cl tp nm ns F c U) (he : DE cl tp nm ns F e W) : DL cl tp nm ns F (.cons a (.cons b (.cons c (.cons e .nil)))) (fun ds => ∃ d e f g, ds = [d, e, f, g] ∧ S d ∧ T e ∧ U f ∧ W g) := fun A t n P p => (DL.cons ha (dl3 hb hc he)) A t n P fun ds A' ⟨d, r, e, s, d2, d3, d4, er, s2⟩ dr => p ds A' ⟨d, d2, d3, d4, by rw [e, er], s, s2⟩ dr
theorem tup1 {a : Ex} {S : D → Prop} (ha : DE cl tp nm ns F a S) : DE cl tp nm ns F (.tup (.cons a .nil)) (fun d => ∃ x, d = .tup [x] ∧ S x) := (DE.tup (dl1 ha) fun ds ⟨d, e, _⟩ => by rw [e]; simp).imp fun d ⟨ds, e, x, e2, s⟩ => ⟨x, by rw [e, e2], s⟩
theorem tup2 {a b : Ex} {S T : D → Prop} (ha : DE cl tp nm ns F a S) (hb : DE cl tp nm ns F b T) : DE cl tp nm ns F (.tup (.cons a (.cons b .nil))) (fun d => ∃ x y, d = .tup [x, y] ∧ S x ∧ T y) := (DE.tup (dl2 ha hb) fun ds ⟨d, f, e, _⟩ => by rw [e]; simp).imp fun d ⟨ds, e, x, y, e2, s⟩ => ⟨x, y, by rw [e, e2], s⟩
theorem tup3 {a b c : Ex} {S T U : D → Prop} (ha : DE cl tp nm ns F a S) (hb : DE cl tp nm ns F b T) (hc : DE cl tp nm ns F c U) : DE cl tp nm ns F (.tup (.cons a (.cons b (.cons c .nil)))) (fun d => ∃ x y z, d = .tup [x, y, z] ∧ S x ∧ T y ∧ U z) := (DE.tup (dl3 ha hb hc) fun ds ⟨d, f, g, e, _⟩ => by rw [e]; simp).imp fun d ⟨ds, e, x, y, z, e2, s⟩ => ⟨x, y, z, by rw [e, e2], s⟩
theorem tup4 {a b c e : Ex} {S T U W : D → Prop} (ha : DE cl tp nm ns F a S) (hb : DE cl tp nm ns F b T) (hc : DE cl tp nm ns F c U) (he : DE cl tp nm ns F e W) : DE cl tp nm ns F (.tup (.cons a (.cons b (.cons c (.cons e .nil))))) (fun d => ∃ x y z w, d = .tup [x, y, z, w] ∧ S x ∧ T y ∧ U z ∧ W w) := (DE.tup (dl4 ha hb hc he) fun ds ⟨d, f, g, i, e, _⟩ => by rw [e]; simp).imp fun d ⟨ds, e, x, y, z, w, e2, s⟩ => ⟨x, y, z, w, by rw [e, e2], s⟩
/-- ('w', a) -/
theorem mk1 {w : String} {k : Kd} {a : Ex} (hk : ∀ d, mk k [d] = .tup [.str w, d]) (h1 : ar k = 1) (ha : DE cl tp nm ns F a (TT h n)) : DE cl tp nm ns F (.tup (.cons (.str w) (.cons a .nil))) (TT (h + 1) (n + 1)) := (tup2 DE.str ha).imp fun d ⟨x, y, e, e1, t, et, s⟩ => ⟨.nd k [t], by subst e e1 et; exact (hk _).symm, sz1 h1 s⟩
/-- ('w', 'z', a) -/
theorem mk1s {w : String} {k : String → Kd} {s : Ex} {R : String → Prop} {a : Ex} (hk : ∀ x d, mk (k x) [d] = .tup [.str w, .str x, d]) (h1 : ∀ x, ar (k x) = 1) (hs : DE cl tp nm ns F s (fun d => ∃ x, d = .str x ∧ R x)) (ha : DE cl tp nm ns F a (TT h n)) : DE cl tp nm ns F (.tup (.cons (.str w) (.cons s (.cons a .nil)))) (TT (h + 1) (n + 1)) := (tup3 DE.str hs ha).imp fun d ⟨x, y, z, e, e1, ⟨q, e2, _⟩, t, et, g⟩ => ⟨.nd (k q) [t], by subst e e1 e2 et; exact (hk _ _).symm, sz1 (h1 q) g⟩
/-- ('w', a, 'z') -/
theorem mk1e {w : String} {k : String → Kd} {s : Ex} {R : String → Prop} {a : Ex} (hk : ∀ x d, mk (k x) [d] = .tup [.str w, d, .str x]) (h1 : ∀ x, ar (k x) = 1) (hs : DE cl tp nm ns F s (fun d => ∃ x, d = .str x ∧ R x)) (ha : DE cl tp nm ns F a (TT h n)) : DE cl tp nm ns F (.tup (.cons (.str w) (.cons a (.cons s .nil)))) (TT (h + 1) (n + 1)) := (tup3 DE.str ha hs).imp fun d ⟨x, y, z, e, e1, ⟨t, et, g⟩, ⟨q, e2, _⟩⟩ => ⟨.nd (k q) [t], by subst e e1 e2 et; exact (hk _ _).symm, sz1 (h1 q) g⟩
/-- ('w', a, b) -/
theorem mk2 {w : String} {k : Kd} {a b : Ex} (hk : ∀ d e, mk k [d, e] = .tup [.str w, d, e]) (h1 : ar k = 2) (ha : DE cl tp nm ns F a (TT h n)) (hb : DE cl tp nm ns F b (TT h m)) : DE cl tp nm ns F (.tup (.cons (.str w) (.cons a (.cons b .nil)))) (TT (h + 1) (n + m + 1)) := (tup3 DE.str ha hb).imp fun d ⟨x, y, z, e, e1, ⟨t, et, s⟩, u, eu, s2⟩ => ⟨.nd k [t, u], by subst e e1 et eu; exact (hk _ _).symm, sz2 h1 s s2⟩
/-- ('w', 'z', a, b) -/
theorem mk2s {w : String} {k : String → Kd} {s : Ex} {R : String → Prop} {a b : Ex} (hk : ∀ x d e, mk (k x) [d, e] = .tup [.str w, .str x, d, e]) (h1 : ∀ x, ar (k x) = 2) (hs : DE cl tp nm ns F s (fun d => ∃ x, d = .str x ∧ R x)) (ha : DE cl tp nm ns F a (TT h n)) (hb : DE cl tp nm ns F b (TT h m)) : DE cl tp nm ns F (.tup (.cons (.str w) (.cons s (.cons a (.cons b .nil))))) (TT (h + 1) (n + m + 1)) := (tup4 DE.str hs ha hb).imp fun d ⟨x, y, z, v, e, e1, ⟨q, e2, _⟩, ⟨t, et, g⟩, u, eu, g2⟩ => ⟨.nd (k q) [t, u], by subst e e1 e2 et eu; exact (hk _ _ _).symm, sz2 (h1 q) g g2⟩
/-- ('w', a, 'z', b) -/
theorem mk2m {w : String} {k : String → Kd} {s : Ex} {R : String → Prop} {a b : Ex} (hk : ∀ x, R x → ∀ d e, mk (k x) [d, e] = .tup [.str w, d, .str x, e]) (h1 : ∀ x, ar (k x) = 2) (hs : DE cl tp nm ns F s (fun d => ∃ x, d = .str x ∧ R x)) (ha : DE cl tp nm ns F a (TT h n)) (hb : DE cl tp nm ns F b (TT h m)) : DE cl tp nm ns F (.tup (.cons (.str w) (.cons a (.cons s (.cons b .nil))))) (TT (h + 1) (n + m + 1)) := (tup4 DE.str ha hs hb).imp fun d ⟨x, y, z, v, e, e1, ⟨t, et, g⟩, ⟨q, e2, hq⟩, u, eu, g2⟩ => ⟨.nd (k q) [t, u], by subst e e1 e2 et eu; exact (hk _ hq _ _).symm, sz2 (h1 q) g g2⟩
/-- ('w', a, b, c) -/
theorem mk3 {w : String} {k : Kd} {a b c : Ex} (hk : ∀ d e f, mk k [d, e, f] = .tup [.str w, d, e, f]) (h1 : ar k = 3) (ha : DE cl tp nm ns F a (TT h n)) (hb : DE cl tp nm ns F b (TT h m)) (hc : DE cl tp nm ns F c (TT h l)) : DE cl tp nm ns F (.tup (.cons (.str w) (.cons a (.cons b (.cons c .nil))))) (TT (h + 1) (n + m + l + 1)) := (tup4 DE.str ha hb hc).imp fun d ⟨x, y, z, v, e, e1, ⟨t, et, s⟩, ⟨u, eu, s2⟩, r, er, s3⟩ => ⟨.nd k [t, u, r], by subst e e1 et eu er; exact (hk _ _ _).symm, sz3 h1 s s2 s3⟩
theorem strE {s : String} : DE cl tp nm ns F (.str s) (fun d => ∃ x, d = .str x ∧ x = s) := DE.str.imp fun d e => ⟨s, e, rfl⟩
theorem varE {i : Nat} {t : Tm} (hF : F[i]? = some (some (toD t))) (s : Sz h n t) : DE cl tp nm ns F (.var i) (TT h n) := (DE.var hF).imp fun d e => ⟨t, e, s⟩
theorem DE.up {e : Ex} {h' n' : Nat} (a : DE cl tp nm ns F e (TT h n)) (b : h ≤ h') (c : n ≤ n') : DE cl tp nm ns F e (TT h' n') := a.imp fun d s => s.mono b c
theorem varK {x : String} (hx : x ∈ AN) : DE cl tp nm ns F (.tup (.cons (.str "var") (.cons (.str x) .nil))) (TT 1 1) := (tup2 DE.str DE.str).imp fun d ⟨a, b, e, e1, e2⟩ => ⟨.nd (.var x) [], by subst e e1 e2; rfl, sz0 rfl fun y ey => by cases ey; exact hx⟩
theorem intK {i : Int} : DE cl tp nm ns F (.tup (.cons (.str "int") (.cons (.int i) .nil))) (TT 1 1) := (tup2 DE.str DE.int).imp fun d ⟨a, b, e, e1, e2⟩ => ⟨.nd (.int i) [], by subst e e1 e2; rfl, sz0 rfl fun y ey => by cases ey⟩
theorem nilK : DE cl tp nm ns F (.tup (.cons (.str "con") (.cons (.str "Nil") (.cons (.tup .nil) .nil)))) (TT 1 1) := (tup3 DE.str DE.str (DE.tup DL.nil fun ds e => by subst e; exact Nat.zero_le _)).imp fun d ⟨a, b, c, e, e1, e2, ds, e3, e4⟩ => ⟨.nd .nil [], by subst e e1 e2 e3 e4; rfl, sz0 rfl fun y ey => by cases ey⟩
theorem pick2 {x y : String} {ie : Ex} (hi : DE cl tp nm ns F ie (fun d => ∃ m : Int, d = .int m ∧ 0 ≤ m ∧ m < (2 : Nat))) : DE cl tp nm ns F (.ix (.lst (.cons (.str x) (.cons (.str y) .nil))) ie) (fun d => ∃ z, d = .str z ∧ (z = x ∨ z = y)) :=
  DE.pick (dl2 DE.str DE.str) (fun ds ⟨d, e, h, h1, h2⟩ => ⟨by rw [h]; rfl, fun q hq => by
    rw [h] at hq
    rcases List.mem_cons.mp hq with rfl | hq
    · exact ⟨x, h1, .inl rfl⟩
    · rw [List.mem_singleton.mp hq]; exact ⟨y, h2, .inr rfl⟩⟩) (by decide) hi
theorem pick3 {x y z : String} {ie : Ex} (hi : DE cl tp nm ns F ie (fun d => ∃ m : Int, d = .int m ∧ 0 ≤ m ∧ m < (3 : Nat))) : DE cl tp nm ns F (.ix (.lst (.cons (.str x) (.cons (.str y) (.cons (.str z) .nil)))) ie) (fun d => ∃ w, d = .str w ∧ (w = x ∨ w = y ∨ w = z)) :=
  DE.pick (dl3 DE.str DE.str DE.str) (fun ds ⟨d, e, f, h, h1, h2, h3⟩ => ⟨by rw [h]; rfl, fun q hq => by
    rw [h] at hq
    rcases List.mem_cons.mp hq with rfl | hq
    · exact ⟨x, h1, .inl rfl⟩
    rcases List.mem_cons.mp hq with rfl | hq
    · exact ⟨y, h2, .inr (.inl rfl)⟩
    · rw [List.mem_singleton.mp hq]; exact ⟨z, h3, .inr (.inr rfl)⟩⟩) (by decide) hi
end
theorem Gd1.tt {d : Nat} {x : D} (g : ∃ t, x = toD t ∧ Gd1 d t) : TT (H d) (NB d) x := let ⟨t, e, g⟩ := g; ⟨t, e, g.sz⟩
theorem TT.gd {d : Nat} {x : D} (g : TT (H d) (NB d) x) : ∃ t, x = toD t ∧ Gd1 d t := let ⟨t, e, g⟩ := g; ⟨t, e, g.gd⟩
/-- a statement that returns what is drawn -/
theorem ret_draw {cl : Cl0} {N tp nm : Nat} {ns : List String} {F : Fr} {A : AH} {e : Ex} {rest : Sm} {S : D → Prop} {Pn Pb Pc : Fr → AH → Prop} {Pr : D → AH → Prop} (h : DE cl tp nm ns F e S) (t : TapeOk A tp) (n : NmOk A nm ns) (p : ∀ d A', S d → Dr tp A A' → Pr d A') : wS (sx cl N (.seq (.ret e) rest) F A) Pn Pb Pc Pr := by
  rw [wS_seq, wS_ret]
  exact h A t n _ p
/-- if kind == j: return e -/
theorem case_draw {cl : Cl0} {N tp nm : Nat} {ns : List String} {F : Fr} {A : AH} {e : Ex} {i : Nat} {k j : Int} {rest : Sm} {S : D → Prop} {Pn Pb Pc : Fr → AH → Prop} {Pr : D → AH → Prop} (hF : F[i]? = some (some (.int k))) (h : k = j → DE cl tp nm ns F e S) (t : TapeOk A tp) (n : NmOk A nm ns) (p : ∀ d A', S d → Dr tp A A' → Pr d A')
    (hr : k ≠ j → wS (sx cl N rest F A) Pn Pb Pc Pr) : wS (sx cl N (.seq (.ite (.cmp .eq (.var i) (.int j)) (.seq (.ret e) .skip) .skip) rest) F A) Pn Pb Pc Pr := by
  rw [wS_seq, wS_ite, wR_tru, wR_cmp, wR_var hF, wR_int, eq_int]
  show wR (ofO (some (D.bl (decide (k = j)))) A) _
  rw [wR_some, truth_bl, wR_some]
  by_cases hk : k = j
  · rw [if_pos (decide_eq_true hk)]
    exact ret_draw (h hk) t n p
  · rw [if_neg (by rw [decide_eq_false hk]; exact Bool.false_ne_true), wS_skip]
    exact hr hk
theorem case_lt {cl : Cl0} {N tp nm : Nat} {ns : List String} {F : Fr} {A : AH} {e : Ex} {i : Nat} {k j : Int} {rest : Sm} {S : D → Prop} {Pn Pb Pc : Fr → AH → Prop} {Pr : D → AH → Prop} (hF : F[i]? = some (some (.int k))) (h : DE cl tp nm ns F e S) (t : TapeOk A tp) (n : NmOk A nm ns) (p : ∀ d A', S d → Dr tp A A' → Pr d A')
    (hr : wS (sx cl N rest F A) Pn Pb Pc Pr) : wS (sx cl N (.seq (.ite (.cmp .lt (.var i) (.int j)) (.seq (.ret e) .skip) .skip) rest) F A) Pn Pb Pc Pr := by
  rw [wS_seq, wS_ite, wR_tru, wR_cmp, wR_var hF, wR_int, lt_int]
  show wR (ofO (some (D.bl (decide (k < j)))) A) _
  rw [wR_some, truth_bl, wR_some]
  by_cases hk : k < j
  · rw [if_pos (decide_eq_true hk)]
    exact ret_draw h t n p
  · rw [if_neg (by rw [decide_eq_false hk]; exact Bool.false_ne_true), wS_skip]
    exact hr
end K01

/-! ## K01O -/
namespace K01
open Ev
section
variable {cl : Cl0} {tp nm : Nat} {ns : List String} {F : Fr} {h n m l : Nat}
theorem sub_dep {cl : Cl0} {F : Fr} {dep j : Int} (h2 : F[2]? = some (some (.int dep))) : ∀ (A : AH) (Q : D → AH → Prop), Q (.int (dep - j)) A → wR (ev cl (.op .sub (.var 2) (.int j)) F A) Q := fun A Q q => by
  rw [wR_op, wR_var h2, wR_int]
  exact q
theorem lst1 {cl : Cl0} {F : Fr} {x : String} : ∀ (A : AH) (Q : List D → AH → Prop), Q ([x].map .str) A → wR (evs cl (.cons (.str x) .nil) F A) Q := fun A Q q => by
  rw [wR_cons, wR_str, wR_nil]; exact q
theorem lst2 {cl : Cl0} {F : Fr} {x y : String} : ∀ (A : AH) (Q : List D → AH → Prop), Q ([x, y].map .str) A → wR (evs cl (.cons (.str x) (.cons (.str y) .nil)) F A) Q := fun A Q q => by
  rw [wR_cons, wR_str, wR_cons, wR_str, wR_nil]; exact q
theorem lstV {cl : Cl0} {F : Fr} {i : Nat} {x : String} (h : F[i]? = some (some (.str x))) : ∀ (A : AH) (Q : List D → AH → Prop), Q ([x].map .str) A → wR (evs cl (.cons (.var i) .nil) F A) Q := fun A Q q => by
  rw [wR_cons, wR_var h, wR_nil]; exact q
theorem lstSV {cl : Cl0} {F : Fr} {i : Nat} {x y : String} (h : F[i]? = some (some (.str y))) : ∀ (A : AH) (Q : List D → AH → Prop), Q ([x, y].map .str) A → wR (evs cl (.cons (.str x) (.cons (.var i) .nil)) F A) Q := fun A Q q => by
  rw [wR_cons, wR_str, wR_cons, wR_var h, wR_nil]; exact q
theorem tup0 : DE cl tp nm ns F (.tup .nil) (· = .tup []) := (DE.tup DL.nil fun ds e => by subst e; exact Nat.zero_le _).imp fun d ⟨ds, e, e2⟩ => by rw [e, e2]
theorem mtlK {a b c : Ex} (ha : DE cl tp nm ns F a (TT h n)) (hb : DE cl tp nm ns F b (TT h m)) (hc : DE cl tp nm ns F c (TT h l)) :
    DE cl tp nm ns F (.tup (.cons (.str "match") (.cons a (.cons (.tup (.cons (.tup (.cons (.str "Nil") (.cons (.tup .nil) (.cons b .nil)))) (.cons (.tup (.cons (.str "Cons") (.cons (.tup (.cons (.str "h") (.cons (.str "t") .nil))) (.cons c .nil)))) .nil))) .nil)))) (TT (h + 1) (n + m + l + 1)) :=
  (tup3 DE.str ha (tup2 (tup3 DE.str tup0 hb) (tup3 DE.str (tup2 DE.str DE.str) hc))).imp fun d ⟨x, y, z, e, e1, ⟨t, et, s1⟩, z1, z2, ez, ⟨a1, a2, a3, ea, ea1, ea2, u, eu, s2⟩, ⟨b1, b2, b3, eb, eb1, ⟨c1, c2, ec, ec1, ec2⟩, v, ev, s3⟩⟩ => ⟨.nd .mtl [t, u, v], by subst e e1 et ez ea ea1 ea2 eu eb eb1 ec ec1 ec2 ev; rfl, sz3 rfl s1 s2 s3⟩
theorem mtoK {a b c : Ex} (ha : DE cl tp nm ns F a (TT h n)) (hb : DE cl tp nm ns F b (TT h m)) (hc : DE cl tp nm ns F c (TT h l)) :
    DE cl tp nm ns F (.tup (.cons (.str "match") (.cons a (.cons (.tup (.cons (.tup (.cons (.str "No") (.cons (.tup .nil) (.cons b .nil)))) (.cons (.tup (.cons (.str "Yes") (.cons (.tup (.cons (.str "q") .nil)) (.cons c .nil)))) .nil))) .nil)))) (TT (h + 1) (n + m + l + 1)) :=
  (tup3 DE.str ha (tup2 (tup3 DE.str tup0 hb) (tup3 DE.str (tup1 DE.str) hc))).imp fun d ⟨x, y, z, e, e1, ⟨t, et, s1⟩, z1, z2, ez, ⟨a1, a2, a3, ea, ea1, ea2, u, eu, s2⟩, ⟨b1, b2, b3, eb, eb1, ⟨c1, ec, ec1⟩, v, ev, s3⟩⟩ => ⟨.nd .mto [t, u, v], by subst e e1 et ez ea ea1 ea2 eu eb eb1 ec ec1 ev; rfl, sz3 rfl s1 s2 s3⟩
theorem rec2K {a b : Ex} {x y : String} (ha : DE cl tp nm ns F a (TT h n)) (hb : DE cl tp nm ns F b (TT h m)) :
    DE cl tp nm ns F (.tup (.cons (.str "record") (.cons (.tup (.cons (.tup (.cons (.str x) (.cons a .nil))) (.cons (.tup (.cons (.str y) (.cons b .nil))) .nil))) .nil))) (TT (h + 1) (n + m + 1)) :=
  (tup2 DE.str (tup2 (tup2 DE.str ha) (tup2 DE.str hb))).imp fun d ⟨x', y', e, e1, z1, z2, ez, ⟨a1, a2, ea, ea1, t, et, s1⟩, ⟨b1, b2, eb, eb1, u, eu, s2⟩⟩ => ⟨.nd (.rec2 x y) [t, u], by subst e e1 ez ea ea1 et eb eb1 eu; rfl, sz2 rfl s1 s2⟩
theorem rec1K {a : Ex} {x : String} (ha : DE cl tp nm ns F a (TT h n)) :
    DE cl tp nm ns F (.tup (.cons (.str "record") (.cons (.tup (.cons (.tup (.cons (.str x) (.cons a .nil))) .nil)) .nil))) (TT (h + 1) (n + 1)) :=
  (tup2 DE.str (tup1 (tup2 DE.str ha))).imp fun d ⟨x', y', e, e1, z1, ez, ⟨a1, a2, ea, ea1, t, et, s1⟩⟩ => ⟨.nd (.rec1 x) [t], by subst e e1 ez ea ea1 et; rfl, sz1 rfl s1⟩
theorem yesK {a : Ex} (ha : DE cl tp nm ns F a (TT h n)) : DE cl tp nm ns F (.tup (.cons (.str "con") (.cons (.str "Yes") (.cons (.tup (.cons a .nil)) .nil)))) (TT (h + 1) (n + 1)) :=
  (tup3 DE.str DE.str (tup1 ha)).imp fun d ⟨x', y', z', e, e1, e2, z1, ez, t, et, s1⟩ => ⟨.nd .yes [t], by subst e e1 e2 ez et; rfl, sz1 rfl s1⟩
theorem consK {a b : Ex} (ha : DE cl tp nm ns F a (TT h n)) (hb : DE cl tp nm ns F b (TT h m)) : DE cl tp nm ns F (.tup (.cons (.str "con") (.cons (.str "Cons") (.cons (.tup (.cons a (.cons b .nil))) .nil)))) (TT (h + 1) (n + m + 1)) :=
  (tup3 DE.str DE.str (tup2 ha hb)).imp fun d ⟨x', y', z', e, e1, e2, z1, z2, ez, ⟨t, et, s1⟩, u, eu, s2⟩ => ⟨.nd .cons [t, u], by subst e e1 e2 ez et eu; rfl, sz2 rfl s1 s2⟩
end
abbrev Out (tp d : Nat) (A : AH) (r : D) (A' : AH) : Prop := ∃ t, r = toD t ∧ Gd1 d t ∧ Dr tp A A'
variable {N : Nat} {A : AH} {cl : Cl0} {tp nm b : Nat} {ns : List String} {dep : Int}
theorem shape_body (hT : TakeS cl tp) (hP : ProgS cl tp b) (hd : dep = ((b + 1 : Nat) : Int)) (hz : ns.length + 3 * (b + 1) ≤ 400) (t : TapeOk A tp) (n : NmOk A nm ns) {Pn Pb Pc : Fr → AH → Prop} :
    wS (sx cl N fn_18.body [some (.ref tp), some (.ref nm), some (.int dep), none, none, none] A) Pn Pb Pc (Out tp (b + 1) A) := by
  have hdn : (dep - 1).toNat = b := by omega
  have PX : ∀ {F : Fr}, F[0]? = some (some (.ref tp)) → F[1]? = some (some (.ref nm)) → F[2]? = some (some (.int dep)) → DE cl tp nm ns F (.call "_law_program" (.cons (.var 0) (.cons (.var 1) (.cons (.op .sub (.var 2) (.int 1)) .nil)))) (TT (H b) (NB b)) := fun h0 h1 h2 =>
    (DE.prog hP (dep := dep - 1) h0 h1 (sub_dep h2) (by omega) (by omega)).imp fun d g => by rw [hdn] at g; exact Gd1.tt g
  rw [fn_18, wS_seq, wS_set]
  refine (DE.take hT rfl (by decide) (by decide)) A t n _ fun d A1 ⟨k, e, _, _⟩ d1 => ?_
  subst e
  show wS (sx cl N _ [some (.ref tp), some (.ref nm), some (.int dep), some (.int k), none, none] A1) _ _ _ _
  rw [wS_seq, wS_asg]
  refine (tup2 (PX rfl rfl rfl) (PX rfl rfl rfl)) A1 d1.tape (n.dr t d1) _ fun d A2 ⟨x, y, e, ⟨p, ep, gp⟩, q, eq, gq⟩ d2 => ?_
  subst e ep eq
  refine ⟨[some (.ref tp), some (.ref nm), some (.int dep), some (.int k), some (toD p), some (toD q)], rfl, ?_⟩
  have d12 := d1.trans d2
  have n2 := n.dr t d12
  have fin : ∀ (d : D) (A' : AH), TT (H b + 2) (4 * NB b + 30) d → Dr tp A2 A' → Out tp (b + 1) A d A' := fun d A' ⟨t', e, g⟩ dr => ⟨t', e, Sz.gd (by rw [show H (b + 1) = H b + 2 from by unfold H; omega, NB]; exact g), d12.trans dr⟩
  have hp : DE cl tp nm ns [some (.ref tp), some (.ref nm), some (.int dep), some (.int k), some (toD p), some (toD q)] (.var 4) (TT (H b) (NB b)) := varE rfl gp
  have hq : DE cl tp nm ns [some (.ref tp), some (.ref nm), some (.int dep), some (.int k), some (toD p), some (toD q)] (.var 5) (TT (H b) (NB b)) := varE rfl gq
  have hb1 := NB_pos b
  have hH : 3 ≤ H b := by unfold H; omega
  have tk : ∀ {j : Int}, 0 < j → j < 1000 → DE cl tp nm ns [some (.ref tp), some (.ref nm), some (.int dep), some (.int k), some (toD p), some (toD q)] (.call "_law_take" (.cons (.var 0) (.cons (.int j) .nil))) (fun d => ∃ m : Int, d = .int m ∧ 0 ≤ m ∧ m < j) := fun a b => DE.take hT rfl a b
  have coin := DE.toss (nm := nm) (ns := ns) (F := [some (.ref tp), some (.ref nm), some (.int dep), some (.int k), some (toD p), some (toD q)]) (k := 2) hT rfl (by decide) (by decide)
  have H2 : H b ≤ H b + 2 := by omega
  refine case_draw rfl (fun _ => (mk2 (k := .pair) (fun _ _ => rfl) rfl hp hq).up (by omega) (by omega)) d12.tape n2 fin fun _ => ?_
  refine case_draw (S := TT (H b + 2) (4 * NB b + 30)) rfl (fun _ => ?_) d12.tape n2 fin fun _ => ?_
  · refine (tup2 (pick2 (x := "fst") (y := "snd") (tk (by decide) (by decide))) (DE.ite coin (mk2 (k := .pair) (fun _ _ => rfl) rfl hp hq) (hp.up (by omega) (by omega)))).imp fun d ⟨x, y, e, ⟨z, ez, hz⟩, t', et, g⟩ => ?_
    subst e ez et
    rcases hz with rfl | rfl
    · exact ⟨.nd .fst [t'], rfl, (sz1 rfl g).mono (by omega) (by omega)⟩
    · exact ⟨.nd .snd [t'], rfl, (sz1 rfl g).mono (by omega) (by omega)⟩
  refine case_draw rfl (fun _ => (consK hp (DE.ite coin (nilK.up (by omega) (by omega)) hq)).up (by omega) (by omega)) d12.tape n2 fin fun _ => ?_
  refine case_draw rfl (fun _ => (mtlK hp hq ((DE.progN hP (xs := ["h", "t"]) (dep := dep - 1) rfl rfl lst2 (by decide) (sub_dep rfl) (by rw [hdn]; simp; omega) (by omega)).imp fun d g => by rw [hdn] at g; exact Gd1.tt g)).up (by omega) (by omega)) d12.tape n2 fin fun _ => ?_
  refine case_draw rfl (fun _ => (rec2K hp hq).up (by omega) (by omega)) d12.tape n2 fin fun _ => ?_
  refine case_draw rfl (fun _ => (mk1e (k := .field) (fun _ _ => rfl) (fun _ => rfl) (pick2 (x := "l") (y := "m") (tk (by decide) (by decide))) (DE.ite coin (rec2K hq hp) (hp.up (by omega) (by omega)))).up (by omega) (by omega)) d12.tape n2 fin fun _ => ?_
  refine case_draw rfl (fun _ => (mk2m (k := .extend) (fun _ _ _ _ => rfl) (fun _ => rfl) (pick2 (x := "l") (y := "m") (tk (by decide) (by decide))) (DE.ite coin (rec1K hp) (hp.up (by omega) (by omega))) (hq.up (h' := H b + 1) (by omega) (Nat.le_refl _))).up (by omega) (by omega)) d12.tape n2 fin fun _ => ?_
  refine case_draw rfl (fun _ => (yesK (mk2 (k := .pair) (fun _ _ => rfl) rfl hp hq)).up (by omega) (by omega)) d12.tape n2 fin fun _ => ?_
  exact ret_draw ((mtoK hp hq ((DE.progN hP (xs := ["q"]) (dep := dep - 1) rfl rfl lst1 (by decide) (sub_dep rfl) (by rw [hdn]; simp; omega) (by omega)).imp fun d g => by rw [hdn] at g; exact Gd1.tt g)).up (by omega) (by omega)) d12.tape n2 fin
end K01

/-! ## K01R -/
namespace K01
open Ev
variable {N : Nat} {A : AH} {cl : Cl0} {tp nm b : Nat} {ns : List String} {dep : Int}
/-- effects and shapes at a depth -/
def SubS (cl : Cl0) (f : String) (tp b : Nat) : Prop := ∀ A nm ns, TapeOk A tp → NmOk A nm ns → ns.length + 3 * (b + 1) ≤ 400 → wR (cl f [.ref tp, .ref nm, .int ((b + 1 : Nat) : Int)] A) (Out tp (b + 1) A)
theorem sub_call {f : String} {F : Fr} (hS : SubS cl f tp b) (h0 : F[0]? = some (some (.ref tp))) (h1 : F[1]? = some (some (.ref nm))) (h2 : F[2]? = some (some (.int ((b + 1 : Nat) : Int)))) (hz : ns.length + 3 * (b + 1) ≤ 400) :
    DE cl tp nm ns F (.call f (.cons (.var 0) (.cons (.var 1) (.cons (.var 2) .nil)))) (TT (H b + 2) (4 * NB b + 30)) := fun A t n P p => by
  rw [wR_cl, wR_cons, wR_var h0, wR_cons, wR_var h1, wR_cons, wR_var h2, wR_nil]
  refine (hS A nm ns t n hz).mono fun r A' ⟨t', e, g, d⟩ => p _ _ ⟨t', e, ?_⟩ d
  have := g.sz
  rw [show H (b + 1) = H b + 2 from by unfold H; omega, NB] at this
  exact this
theorem leaf_call {F : Fr} (hL : LeafS cl tp) (h0 : F[0]? = some (some (.ref tp))) (h1 : F[1]? = some (some (.ref nm))) (hz : ns.length ≤ 500) : DE cl tp nm ns F (.call "_law_leaf" (.cons (.var 0) (.cons (.var 1) .nil))) (fun d => ∃ t, d = toD t ∧ Leafy t) := fun A t n P p => by
  rw [wR_cl, wR_cons, wR_var h0, wR_cons, wR_var h1, wR_nil]
  exact (hL A nm ns t n hz).mono fun r A' ⟨t', e, g, d⟩ => p _ _ ⟨t', e, g⟩ d
theorem strV {F : Fr} {i : Nat} {x : String} (h : F[i]? = some (some (.str x))) : DE cl tp nm ns F (.var i) (fun d => ∃ y, d = .str y ∧ y = x) := (DE.var h).imp fun d e => ⟨x, e, rfl⟩
theorem varV {F : Fr} {i : Nat} {x : String} (h : F[i]? = some (some (.str x))) (hx : x ∈ AN) : DE cl tp nm ns F (.tup (.cons (.str "var") (.cons (.var i) .nil))) (TT 1 1) := (tup2 DE.str (DE.var h)).imp fun d ⟨a, b, e, e1, e2⟩ => ⟨.nd (.var x) [], by subst e e1 e2; rfl, sz0 rfl fun y ey => by cases ey; exact hx⟩
theorem fixK {F : Fr} {s a : Ex} {x : String} {h n : Nat} (hs : DE cl tp nm ns F s (fun d => ∃ y, d = .str y ∧ y = x)) (ha : DE cl tp nm ns F a (TT h n)) : DE cl tp nm ns F (.tup (.cons (.str "fix") (.cons (.str "f") (.cons s (.cons a .nil))))) (TT (h + 1) (n + 1)) :=
  (tup4 DE.str DE.str hs ha).imp fun d ⟨a1, a2, a3, a4, e, e1, e2, ⟨y, ey, _⟩, t, et, g⟩ => ⟨.nd (.fix y) [t], by subst e e1 e2 ey et; rfl, sz1 rfl g⟩
theorem pickT {F : Fr} {a c ie : Ex} {h n : Nat} (ha : DE cl tp nm ns F a (TT h n)) (hc : DE cl tp nm ns F c (TT h n)) (hi : DE cl tp nm ns F ie (fun d => ∃ m : Int, d = .int m ∧ 0 ≤ m ∧ m < (2 : Nat))) : DE cl tp nm ns F (.ix (.lst (.cons a (.cons c .nil))) ie) (TT h n) :=
  DE.pick (dl2 ha hc) (fun ds ⟨d, e, h, h1, h2⟩ => ⟨by rw [h]; rfl, fun q hq => by
    rw [h] at hq
    rcases List.mem_cons.mp hq with rfl | hq
    · exact h1
    · rw [List.mem_singleton.mp hq]; exact h2⟩) (by decide) hi
theorem pick5 {F : Fr} {x y z u v : String} {ie : Ex} (hi : DE cl tp nm ns F ie (fun d => ∃ m : Int, d = .int m ∧ 0 ≤ m ∧ m < (5 : Nat))) : DE cl tp nm ns F (.ix (.lst (.cons (.str x) (.cons (.str y) (.cons (.str z) (.cons (.str u) (.cons (.str v) .nil)))))) ie) (fun d => ∃ w, d = .str w ∧ True) :=
  DE.pick (DL.cons (DE.str (s := x)) (dl4 (DE.str (s := y)) (DE.str (s := z)) (DE.str (s := u)) (DE.str (s := v)))) (fun ds ⟨d, r, h, h1, e, f, g, i, h2, h3, h4, h5, h6⟩ => ⟨by rw [h, h2]; rfl, fun q hq => by
    rw [h, h2, h1, h3, h4, h5, h6] at hq
    simp only [List.mem_cons, List.not_mem_nil, or_false] at hq
    rcases hq with rfl | rfl | rfl | rfl | rfl <;> exact ⟨_, rfl, trivial⟩⟩) (by decide) hi
theorem prog_body (hT : TakeS cl tp) (hL : LeafS cl tp) (hP : ∀ c : Nat, c + 1 = dep.toNat → ProgS cl tp c ∧ SubS cl "_law_effect" tp c ∧ SubS cl "_law_shape" tp c) (hz : ns.length + 3 * dep.toNat ≤ 400) (t : TapeOk A tp) (n : NmOk A nm ns) {Pn Pb Pc : Fr → AH → Prop} :
    wS (sx cl N fn_19.body [some (.ref tp), some (.ref nm), some (.int dep), none, none, none] A) Pn Pb Pc (Out tp dep.toNat A) := by
  have finL : ∀ {A0 : AH}, Dr tp A A0 → ∀ (d : D) (A' : AH), (∃ t, d = toD t ∧ Leafy t) → Dr tp A0 A' → Out tp dep.toNat A d A' := fun d0 d A' ⟨t', e, g⟩ dr => ⟨t', e, g.gd _, d0.trans dr⟩
  rw [fn_19, wS_seq, wS_ite, wR_tru, wR_or, wR_cmp, wR_v2, wR_int]
  show wR (ofO (some (D.bl (decide (dep ≤ 0)))) A) _
  rw [wR_some, truth_bl, wR_some]
  by_cases h0 : dep ≤ 0
  · rw [if_pos (decide_eq_true h0), truth_bl, wR_some, if_pos (decide_eq_true h0)]
    exact ret_draw (leaf_call hL rfl rfl (by omega)) t n (finL (.refl t))
  rw [if_neg (by rw [decide_eq_false h0]; exact Bool.false_ne_true)]
  obtain ⟨hPb, hE, hS⟩ := hP (dep.toNat - 1) (by omega)
  clear hP
  generalize hb : dep.toNat - 1 = b at hPb hE hS
  have hdep : dep = ((b + 1 : Nat) : Int) := by omega
  subst hdep
  have hdn : (((b + 1 : Nat) : Int) - 1).toNat = b := by omega
  have hdt : ((b + 1 : Nat) : Int).toNat = b + 1 := by omega
  rw [hdt] at hz finL ⊢
  refine (DE.toss hT rfl (by decide) (by decide)) A t n _ fun d A0 ⟨r, e⟩ d0 => ?_
  subst e
  rw [truth_bl, wR_some]
  cases r with
  | true =>
    rw [if_pos rfl]
    exact ret_draw (leaf_call hL rfl rfl (by omega)) d0.tape (n.dr t d0) (finL d0)
  | false =>
    rw [if_neg (by decide), wS_skip, wS_seq, wS_set]
    refine (DE.take hT rfl (by decide) (by decide)) A0 d0.tape (n.dr t d0) _ fun d A1 ⟨k, e, _, _⟩ d1' => ?_
    subst e
    have d1 := d0.trans d1'
    show wS (sx cl N _ [some (.ref tp), some (.ref nm), some (.int ((b + 1 : Nat) : Int)), some (.int k), none, none] A1) _ _ _ _
    rw [wS_seq, wS_set]
    refine (pick3 (x := "x") (y := "y") (z := "z") (DE.take hT rfl (by decide) (by decide))) A1 d1.tape (n.dr t d1) _ fun d A2 ⟨x, e, hx⟩ d2' => ?_
    subst e
    have d2 := d1.trans d2'
    have hxA : x ∈ AN := by rcases hx with rfl | rfl | rfl <;> decide
    have hxs : ∀ z ∈ [x], z ∈ AN := fun z hz => by rw [List.mem_singleton.mp hz]; exact hxA
    have hfx : ∀ z ∈ ["f", x], z ∈ AN := fun z hz => by
      rcases List.mem_cons.mp hz with rfl | hz
      · decide
      · rw [List.mem_singleton.mp hz]; exact hxA
    have n2 := n.dr t d2
    show wS (sx cl N _ [some (.ref tp), some (.ref nm), some (.int ((b + 1 : Nat) : Int)), some (.int k), some (.str x), none] A2) _ _ _ _
    have fin : ∀ {A3 : AH}, Dr tp A A3 → ∀ (d : D) (A' : AH), TT (H b + 2) (4 * NB b + 30) d → Dr tp A3 A' → Out tp (b + 1) A d A' := fun d3 d A' ⟨t', e, g⟩ dr => ⟨t', e, Sz.gd (by rw [show H (b + 1) = H b + 2 from by unfold H; omega, NB]; exact g), d3.trans dr⟩
    have PX : ∀ {F : Fr}, F[0]? = some (some (.ref tp)) → F[1]? = some (some (.ref nm)) → F[2]? = some (some (.int ((b + 1 : Nat) : Int))) → DE cl tp nm ns F (.call "_law_program" (.cons (.var 0) (.cons (.var 1) (.cons (.op .sub (.var 2) (.int 1)) .nil)))) (TT (H b) (NB b)) := fun h0 h1 h2 =>
      (DE.prog hPb (dep := ((b + 1 : Nat) : Int) - 1) h0 h1 (sub_dep h2) (by omega) (by omega)).imp fun d g => by rw [hdn] at g; exact Gd1.tt g
    have PY : ∀ {F : Fr}, F[0]? = some (some (.ref tp)) → F[1]? = some (some (.ref nm)) → F[2]? = some (some (.int ((b + 1 : Nat) : Int))) → DE cl tp nm ns F (.call "_law_program" (.cons (.var 0) (.cons (.var 1) (.cons (.op .sub (.var 2) (.int 2)) .nil)))) (TT (H b) (NB b)) := fun h0 h1 h2 =>
      (DE.prog hPb (dep := ((b + 1 : Nat) : Int) - 2) h0 h1 (sub_dep h2) (by omega) (by omega)).imp fun d g => by
        have := Gd1.tt g
        have hb2 : (((b + 1 : Nat) : Int) - 2).toNat = b - 1 := by omega
        rw [hb2] at this
        refine this.mono (by unfold H; omega) ?_
        cases b with
        | zero => exact Nat.le_refl _
        | succ c => show NB c ≤ NB (c + 1); rw [NB]; omega
    have PN : ∀ {F : Fr}, F[0]? = some (some (.ref tp)) → F[1]? = some (some (.ref nm)) → F[2]? = some (some (.int ((b + 1 : Nat) : Int))) → F[4]? = some (some (.str x)) → DE cl tp nm ns F (.call "_law_program" (.cons (.var 0) (.cons (.op .add (.var 1) (.lst (.cons (.var 4) .nil))) (.cons (.op .sub (.var 2) (.int 1)) .nil)))) (TT (H b) (NB b)) := fun h0 h1 h2 h4 =>
      (DE.progN hPb (xs := [x]) (dep := ((b + 1 : Nat) : Int) - 1) h0 h1 (lstV h4) hxs (sub_dep h2) (by rw [hdn]; simp; omega) (by omega)).imp fun d g => by rw [hdn] at g; exact Gd1.tt g
    have PF : ∀ {F : Fr}, F[0]? = some (some (.ref tp)) → F[1]? = some (some (.ref nm)) → F[2]? = some (some (.int ((b + 1 : Nat) : Int))) → F[4]? = some (some (.str x)) → DE cl tp nm ns F (.call "_law_program" (.cons (.var 0) (.cons (.op .add (.var 1) (.lst (.cons (.str "f") (.cons (.var 4) .nil)))) (.cons (.op .sub (.var 2) (.int 1)) .nil)))) (TT (H b) (NB b)) := fun h0 h1 h2 h4 =>
      (DE.progN hPb (xs := ["f", x]) (dep := ((b + 1 : Nat) : Int) - 1) h0 h1 (lstSV h4) hfx (sub_dep h2) (by rw [hdn]; simp; omega) (by omega)).imp fun d g => by rw [hdn] at g; exact Gd1.tt g
    have hb1 := NB_pos b
    have hH : 3 ≤ H b := by unfold H; omega
    have H1 : H b ≤ H b + 1 := by omega
    refine case_lt rfl (sub_call hE rfl rfl rfl hz) d2.tape n2 (fin d2) ?_
    refine case_lt rfl (sub_call hS rfl rfl rfl hz) d2.tape n2 (fin d2) ?_
    refine case_draw rfl (fun _ => (mk1s (k := .lam) (fun _ _ => rfl) (fun _ => rfl) (strV rfl) (PN rfl rfl rfl rfl)).up (by omega) (by omega)) d2.tape n2 (fin d2) fun _ => ?_
    -- fix
    rw [wS_seq, wS_ite, wR_tru, wR_cmp, wR_v3, wR_int, eq_int]
    show wR (ofO (some (D.bl (decide (k = 5)))) A2) _
    rw [wR_some, truth_bl, wR_some]
    by_cases hk5 : k = 5
    · rw [if_pos (decide_eq_true hk5), wS_seq, wS_set]
      refine (PF rfl rfl rfl rfl) A2 d2.tape n2 _ fun d A3 ⟨bt, e, gb⟩ d3' => ?_
      subst e
      have d3 := d2.trans d3'
      show wS (sx cl N _ [some (.ref tp), some (.ref nm), some (.int ((b + 1 : Nat) : Int)), some (.int k), some (.str x), some (toD bt)] A3) _ _ _ _
      refine ret_draw (S := TT (H b + 2) (4 * NB b + 30)) ?_ d3.tape (n.dr t d3) (fin d3)
      refine (fixK (x := x) (h := H b + 1) (n := (1 + 1 + 1) + NB b + (NB b + 4) + 1) (strV rfl) ?_).up (by omega) (by omega)
      refine mk3 (k := .iff) (fun _ _ _ => rfl) rfl ?_ (PN rfl rfl rfl rfl) ?_
      · exact (mk2s (k := .op) (fun _ _ _ => rfl) (fun _ => rfl) strE (varV rfl hxA) intK).up (by omega) (Nat.le_refl _)
      · refine pickT ?_ ((varE rfl gb).up (Nat.le_refl _) (by omega)) (DE.take hT rfl (by decide) (by decide))
        refine (mk2 (k := .app) (fun _ _ => rfl) rfl (h := 2) (n := 1) (m := 3) ((varK (by decide)).up (by omega) (Nat.le_refl _)) ?_).up (by omega) (by omega)
        exact (mk2s (k := .op) (fun _ _ _ => rfl) (fun _ => rfl) strE (varV rfl hxA) intK)
    rw [if_neg (by rw [decide_eq_false hk5]; exact Bool.false_ne_true), wS_skip]
    refine case_lt rfl ((mk2s (k := .lett) (fun _ _ _ => rfl) (fun _ => rfl) (strV rfl) (PX rfl rfl rfl) (PN rfl rfl rfl rfl)).up (by omega) (by omega)) d2.tape n2 (fin d2) ?_
    refine case_draw rfl (fun _ => (mk2 (k := .app) (fun _ _ => rfl) rfl (h := H b + 1) (n := NB b + 1) (m := NB b) (DE.ite (DE.toss hT rfl (by decide) (by decide)) (mk1s (k := .lam) (fun _ _ => rfl) (fun _ => rfl) (strV rfl) (PN rfl rfl rfl rfl)) ((PX rfl rfl rfl).up H1 (by omega))) ((PX rfl rfl rfl).up H1 (Nat.le_refl _))).up (by omega) (by omega)) d2.tape n2 (fin d2) fun _ => ?_
    refine case_draw rfl (fun _ => (mk3 (k := .iff) (fun _ _ _ => rfl) rfl (h := H b + 1) (mk2s (k := .op) (fun _ _ _ => rfl) (fun _ => rfl) strE (PY rfl rfl rfl) (PY rfl rfl rfl)) ((PX rfl rfl rfl).up H1 (Nat.le_refl _)) ((PX rfl rfl rfl).up H1 (Nat.le_refl _))).up (by omega) (by omega)) d2.tape n2 (fin d2) fun _ => ?_
    refine case_draw rfl (fun _ => (mk2s (k := .op) (fun _ _ _ => rfl) (fun _ => rfl) (pick5 (DE.take hT rfl (by decide) (by decide))) (PX rfl rfl rfl) (PX rfl rfl rfl)).up (by omega) (by omega)) d2.tape n2 (fin d2) fun _ => ?_
    exact ret_draw ((mk3 (k := .iff) (fun _ _ _ => rfl) rfl (PX rfl rfl rfl) (PX rfl rfl rfl) (PX rfl rfl rfl)).up (by omega) (by omega)) d2.tape n2 (fin d2)
end K01

/-! ## K01S -/
namespace K01
open Ev
variable {N : Nat} {A : AH} {cl : Cl0} {tp nm b : Nat} {ns : List String} {dep : Int}
def czs (cs : List (String × Tm)) : List D := cs.map fun p => cz p.1 (toD p.2)
theorem hdl {b : Nat} {p r : Tm} {cs : List (String × Tm)} (gp : Sz (H b) (NB b) p) (gr : Sz 3 1 r) (hc : ∀ q ∈ cs, Sz (H b + 1) (NB b + 7) q.2) (hl : cs.length ≤ 3) : TT (H b + 2) (4 * NB b + 30) (.tup [.str "handle", toD p, .str "r", toD r, .tup (czs cs)]) := by
  have hH : 3 ≤ H b := by unfold H; omega
  have mkSz : ∀ (k : Kd) (ps : List Tm), ps.length = ar k → (∀ x, k ≠ .var x) → (∀ q ∈ ps, Sz (H b + 1) (NB b + 7) q) → nodesL ps ≤ 4 * NB b + 29 → Sz (H b + 2) (4 * NB b + 30) (.nd k ps) := fun k ps h1 h2 h3 h4 => by
    refine ⟨?_, ?_, ?_, ?_⟩
    · rw [wf]
      refine ⟨h1, ?_⟩
      clear h1 h4
      induction ps with
      | nil => trivial
      | cons q r ih => exact ⟨(h3 q List.mem_cons_self).w, ih fun q hq => h3 q (List.mem_cons_of_mem _ hq)⟩
    · rw [vn]
      refine ⟨fun x e => absurd e (h2 x), ?_⟩
      clear h1 h4
      induction ps with
      | nil => trivial
      | cons q r ih => exact ⟨(h3 q List.mem_cons_self).v, ih fun q hq => h3 q (List.mem_cons_of_mem _ hq)⟩
    · rw [ht]
      have : htL ps ≤ H b + 1 := by
        clear h1 h4
        induction ps with
        | nil => exact Nat.zero_le _
        | cons q r ih => rw [htL]; have := (h3 q List.mem_cons_self).h; have := ih fun q hq => h3 q (List.mem_cons_of_mem _ hq); omega
      omega
    · rw [nodes]; omega
  have gp' : Sz (H b + 1) (NB b + 7) p := gp.mono (by omega) (by omega)
  have gr' : Sz (H b + 1) (NB b + 7) r := gr.mono (by omega) (by omega)
  have n1 := gp.n
  have n2 := gr.n
  rcases cs with _ | ⟨⟨o1, t1⟩, _ | ⟨⟨o2, t2⟩, _ | ⟨⟨o3, t3⟩, _ | _⟩⟩⟩
  · exact ⟨.nd .h0 [p, r], rfl, mkSz _ _ rfl (fun x e => by cases e) (fun q hq => by
      rcases List.mem_cons.mp hq with rfl | hq
      · exact gp'
      · rw [List.mem_singleton.mp hq]; exact gr') (by simp only [nodesL]; omega)⟩
  · have c1 := hc (o1, t1) (by simp)
    have := c1.n
    exact ⟨.nd (.h1 o1) [p, r, t1], rfl, mkSz _ _ rfl (fun x e => by cases e) (fun q hq => by
      simp only [List.mem_cons, List.not_mem_nil, or_false] at hq
      rcases hq with rfl | rfl | rfl
      · exact gp'
      · exact gr'
      · exact c1) (by simp only [nodesL]; simp only at this; omega)⟩
  · have c1 := hc (o1, t1) (by simp)
    have c2 := hc (o2, t2) (by simp)
    have := c1.n
    have := c2.n
    exact ⟨.nd (.h2 o1 o2) [p, r, t1, t2], rfl, mkSz _ _ rfl (fun x e => by cases e) (fun q hq => by
      simp only [List.mem_cons, List.not_mem_nil, or_false] at hq
      rcases hq with rfl | rfl | rfl | rfl
      · exact gp'
      · exact gr'
      · exact c1
      · exact c2) (by simp only [nodesL]; simp only at *; omega)⟩
  · have c1 := hc (o1, t1) (by simp)
    have c2 := hc (o2, t2) (by simp)
    have c3 := hc (o3, t3) (by simp)
    have := c1.n
    have := c2.n
    have := c3.n
    exact ⟨.nd (.h3 o1 o2 o3) [p, r, t1, t2, t3], rfl, mkSz _ _ rfl (fun x e => by cases e) (fun q hq => by
      simp only [List.mem_cons, List.not_mem_nil, or_false] at hq
      rcases hq with rfl | rfl | rfl | rfl | rfl
      · exact gp'
      · exact gr'
      · exact c1
      · exact c2
      · exact c3) (by simp only [nodesL]; simp only at *; omega)⟩
  · simp at hl
section
variable {F : Fr} {h n m l : Nat}
theorem boolK (hT : TakeS cl tp) (h0 : F[0]? = some (some (.ref tp))) : DE cl tp nm ns F (.tup (.cons (.str "bool") (.cons (.cmp .eq (.call "_law_take" (.cons (.var 0) (.cons (.int 2) .nil))) (.int 0)) .nil))) (TT 1 1) := (tup2 DE.str (DE.toss hT h0 (by decide) (by decide))).imp fun d ⟨a, b, e, e1, r, e2⟩ => ⟨.nd (.bool r) [], by subst e e1 e2; rfl, sz0 rfl fun y ey => by cases ey⟩
theorem unitK : DE cl tp nm ns F (.tup (.cons (.str "unit") .nil)) (TT 1 1) := (tup1 DE.str).imp fun d ⟨a, e, e1⟩ => ⟨.nd .unit [], by subst e e1; rfl, sz0 rfl fun y ey => by cases ey⟩
theorem memE (h1 : F[1]? = some (some (.ref nm))) : DE cl tp nm ns F (.cmp .mem (.str "c") (.var 1)) (fun d => ∃ r, d = .bl r) := fun A t n P p => by
  rw [wR_cmp, wR_str, wR_var h1]
  have : opC A .mem (.str "c") (.ref nm) = some (ns.contains "c") := memD_str n.1
  rw [this]
  show wR (ofO (some (D.bl (ns.contains "c"))) A) _
  rw [wR_some]
  exact p _ _ ⟨_, rfl⟩ (.refl t)
theorem answerK (hT : TakeS cl tp) {own : String} (h0 : F[0]? = some (some (.ref tp))) (h6 : F[6]? = some (some (.str own))) (ho : own = "ask" ∨ own = "flip" ∨ own = "put") :
    DE cl tp nm ns F (.ix (.dct (.cons (.str "ask") (.cons (.tup (.cons (.str "var") (.cons (.str "a") .nil))) (.cons (.str "flip") (.cons (.tup (.cons (.str "bool") (.cons (.cmp .eq (.call "_law_take" (.cons (.var 0) (.cons (.int 2) .nil))) (.int 0)) .nil))) (.cons (.str "put") (.cons (.tup (.cons (.str "unit") .nil)) .nil))))))) (.var 6)) (TT 1 1) := fun A t n P p => by
  rw [wR_ix]
  show wR (bnd _ _) _
  rw [wR_bnd]
  refine (DL.cons (DE.str (s := "ask")) (DL.cons (varK (by decide)) (DL.cons (DE.str (s := "flip")) (DL.cons (boolK hT h0) (DL.cons (DE.str (s := "put")) (DL.cons unitK DL.nil)))))) A t n _ fun ds A1 hds d1 => ?_
  obtain ⟨s1, r1, rfl, rfl, v1, r2, rfl, t1, s2, r3, rfl, rfl, v2, r4, rfl, t2, s3, r5, rfl, rfl, v3, r6, rfl, t3, rfl⟩ := hds
  show wR (Res.ok (D.ref A1.length) (A1 ++ [.dct [(.str "ask", v1), (.str "flip", v2), (.str "put", v3)]])) _
  rw [wR_ok, wR_var h6]
  rcases ho with rfl | rfl | rfl
  · rw [dct_get new_at rfl, show dget [(D.str "ask", v1), (D.str "flip", v2), (D.str "put", v3)] (.str "ask") = some v1 from rfl, wR_some]
    exact p _ _ t1 d1.app
  · rw [dct_get new_at rfl, show dget [(D.str "ask", v1), (D.str "flip", v2), (D.str "put", v3)] (.str "flip") = some v2 from rfl, wR_some]
    exact p _ _ t2 d1.app
  · rw [dct_get new_at rfl, show dget [(D.str "ask", v1), (D.str "flip", v2), (D.str "put", v3)] (.str "put") = some v3 from rfl, wR_some]
    exact p _ _ t3 d1.app
theorem thirdK (hT : TakeS cl tp) (h0 : F[0]? = some (some (.ref tp))) : DE cl tp nm ns F (.op .fdiv (.call "_law_take" (.cons (.var 0) (.cons (.int 4) .nil))) (.int 3)) (fun d => ∃ m : Int, d = .int m ∧ 0 ≤ m ∧ m < (2 : Nat)) := fun A t n P p => by
  rw [wR_op]
  refine (DE.take hT h0 (by decide) (by decide)) A t n _ fun d A1 ⟨m, e, m0, m1⟩ d1 => ?_
  subst e
  rw [wR_int, opB_fdiv (by decide) (by decide), wR_ok]
  exact p _ _ ⟨m / 3, rfl, by omega, by omega⟩ d1
theorem pickT5 {a1 a2 a3 a4 a5 ie : Ex} (h1 : DE cl tp nm ns F a1 (TT h n)) (h2 : DE cl tp nm ns F a2 (TT h n)) (h3 : DE cl tp nm ns F a3 (TT h n)) (h4 : DE cl tp nm ns F a4 (TT h n)) (h5 : DE cl tp nm ns F a5 (TT h n)) (hi : DE cl tp nm ns F ie (fun d => ∃ m : Int, d = .int m ∧ 0 ≤ m ∧ m < (5 : Nat))) :
    DE cl tp nm ns F (.ix (.lst (.cons a1 (.cons a2 (.cons a3 (.cons a4 (.cons a5 .nil)))))) ie) (TT h n) :=
  DE.pick (DL.cons h1 (dl4 h2 h3 h4 h5)) (fun ds ⟨d, r, e, g1, d2, d3, d4, d5, e2, g2, g3, g4, g5⟩ => ⟨by rw [e, e2]; rfl, fun q hq => by
    rw [e, e2] at hq
    simp only [List.mem_cons, List.not_mem_nil, or_false] at hq
    rcases hq with rfl | rfl | rfl | rfl | rfl <;> assumption⟩) (by decide) hi
end
theorem effect_body (hT : TakeS cl tp) (hL : LeafS cl tp) (hP : ProgS cl tp b) (hd : dep = ((b + 1 : Nat) : Int)) (hz : ns.length + 3 * (b + 1) ≤ 400) (t : TapeOk A tp) (n : NmOk A nm ns) {Pn Pb Pc : Fr → AH → Prop} :
    wS (sx cl N fn_17.body [some (.ref tp), some (.ref nm), some (.int dep), none, none, none, none, none, none, none] A) Pn Pb Pc (Out tp (b + 1) A) := by
  have hdn : (dep - 1).toNat = b := by omega
  have PX : ∀ {F : Fr}, F[0]? = some (some (.ref tp)) → F[1]? = some (some (.ref nm)) → F[2]? = some (some (.int dep)) → DE cl tp nm ns F (.call "_law_program" (.cons (.var 0) (.cons (.var 1) (.cons (.op .sub (.var 2) (.int 1)) .nil)))) (TT (H b) (NB b)) := fun h0 h1 h2 =>
    (DE.prog hP (dep := dep - 1) h0 h1 (sub_dep h2) (by omega) (by omega)).imp fun d g => by rw [hdn] at g; exact Gd1.tt g
  have P1 : ∀ {F : Fr} {x : String}, F[0]? = some (some (.ref tp)) → F[1]? = some (some (.ref nm)) → F[2]? = some (some (.int dep)) → x ∈ AN → DE cl tp nm ns F (.call "_law_program" (.cons (.var 0) (.cons (.op .add (.var 1) (.lst (.cons (.str x) .nil))) (.cons (.op .sub (.var 2) (.int 1)) .nil)))) (TT (H b) (NB b)) := fun {F x} h0 h1 h2 hx =>
    (DE.progN hP (xs := [x]) (dep := dep - 1) h0 h1 lst1 (fun z hz => by rw [List.mem_singleton.mp hz]; exact hx) (sub_dep h2) (by rw [hdn]; simp; omega) (by omega)).imp fun d g => by rw [hdn] at g; exact Gd1.tt g
  have PK : ∀ {F : Fr}, F[0]? = some (some (.ref tp)) → F[1]? = some (some (.ref nm)) → F[2]? = some (some (.int dep)) → DE cl tp nm ns F (.call "_law_program" (.cons (.var 0) (.cons (.op .add (.var 1) (.lst (.cons (.str "a") (.cons (.str "k") .nil)))) (.cons (.op .sub (.var 2) (.int 1)) .nil)))) (TT (H b) (NB b)) := fun {F} h0 h1 h2 =>
    (DE.progN hP (xs := ["a", "k"]) (dep := dep - 1) h0 h1 lst2 (by decide) (sub_dep h2) (by rw [hdn]; simp; omega) (by omega)).imp fun d g => by rw [hdn] at g; exact Gd1.tt g
  rw [fn_17, wS_seq, wS_set]
  refine (DE.take hT rfl (by decide) (by decide)) A t n _ fun d A1 ⟨k, e, _, _⟩ d1 => ?_
  subst e
  show wS (sx cl N _ [some (.ref tp), some (.ref nm), some (.int dep), some (.int k), none, none, none, none, none, none] A1) _ _ _ _
  rw [wS_seq, wS_set]
  refine (PX rfl rfl rfl) A1 d1.tape (n.dr t d1) _ fun d A2 ⟨p, e, gp⟩ d2' => ?_
  subst e
  have d2 := d1.trans d2'
  have n2 := n.dr t d2
  show wS (sx cl N _ [some (.ref tp), some (.ref nm), some (.int dep), some (.int k), some (toD p), none, none, none, none, none] A2) _ _ _ _
  have fin : ∀ {A3 : AH}, Dr tp A A3 → ∀ (d : D) (A' : AH), TT (H b + 2) (4 * NB b + 30) d → Dr tp A3 A' → Out tp (b + 1) A d A' := fun d3 d A' ⟨t', e, g⟩ dr => ⟨t', e, Sz.gd (by rw [show H (b + 1) = H b + 2 from by unfold H; omega, NB]; exact g), d3.trans dr⟩
  have hp : DE cl tp nm ns [some (.ref tp), some (.ref nm), some (.int dep), some (.int k), some (toD p), none, none, none, none, none] (.var 4) (TT (H b) (NB b)) := varE rfl gp
  have hb1 := NB_pos b
  have hH : 3 ≤ H b := by unfold H; omega
  have H1 : H b ≤ H b + 1 := by omega
  have cc := DE.ite (nm := nm) (ns := ns) (memE (cl := cl) (tp := tp) (ns := ns) (F := [some (.ref tp), some (.ref nm), some (.int dep), some (.int k), some (toD p), none, none, none, none, none]) rfl) ((varK (x := "c") (by decide)).up (h' := H b) (n' := NB b) (by omega) hb1) hp
  refine case_draw rfl (fun _ => (mk1 (k := .ref) (fun _ => rfl) rfl hp).up (by omega) (by omega)) d2.tape n2 (fin d2) fun _ => ?_
  refine case_draw rfl (fun _ => (mk2s (k := .lett) (fun _ _ _ => rfl) (fun _ => rfl) strE (mk1 (k := .ref) (fun _ => rfl) rfl hp) ((P1 (x := "c") rfl rfl rfl (by decide)).up H1 (Nat.le_refl _))).up (by omega) (by omega)) d2.tape n2 (fin d2) fun _ => ?_
  refine case_draw rfl (fun _ => (mk1 (k := .get) (fun _ => rfl) rfl cc).up (by omega) (by omega)) d2.tape n2 (fin d2) fun _ => ?_
  refine case_draw rfl (fun _ => (mk2 (k := .set) (fun _ _ => rfl) rfl cc (PX rfl rfl rfl)).up (by omega) (by omega)) d2.tape n2 (fin d2) fun _ => ?_
  refine case_draw rfl (fun _ => (mk1 (k := .raise) (fun _ => rfl) rfl hp).up (by omega) (by omega)) d2.tape n2 (fin d2) fun _ => ?_
  refine case_draw rfl (fun _ => (mk2m (k := fun _ => .tryy) (fun x hx d e => by subst hx; rfl) (fun _ => rfl) strE hp (P1 (x := "e") rfl rfl rfl (by decide))).up (by omega) (by omega)) d2.tape n2 (fin d2) fun _ => ?_
  refine case_draw rfl (fun _ => (mk1s (k := .perform) (fun _ _ => rfl) (fun _ => rfl) (pick3 (x := "ask") (y := "flip") (z := "put") (DE.take hT rfl (by decide) (by decide))) hp).up (by omega) (by omega)) d2.tape n2 (fin d2) fun _ => ?_
  -- handle
  rw [wS_seq, wS_set]
  show wS (sx cl N _ [some (.ref tp), some (.ref nm), some (.int dep), some (.int k), some (toD p), some (.ref A2.length), none, none, none, none] (A2 ++ [.lst []])) _ _ _ _
  have d3 : Dr tp A (A2 ++ [.lst []]) := d2.app
  rw [wS_seq, wS_for, wR_wk, wR_lst, wR_cons, wR_str, wR_cons, wR_str, wR_cons, wR_str, wR_nil, wR_if]
  refine ⟨fits (n := 3) rfl (by decide), ?_⟩
  have hw : wkOf ((A2 ++ [.lst []]) ++ [.lst [.str "ask", .str "flip", .str "put"]]) (.ref (A2 ++ [AO.lst []]).length) = some ⟨[.str "ask", .str "flip", .str "put"], [((A2 ++ [AO.lst []]).length, .lst [.str "ask", .str "flip", .str "put"])], none⟩ := by simp [wkOf]
  rw [hw, wR_some]
  have d4 : Dr tp A ((A2 ++ [AO.lst []]) ++ [.lst [.str "ask", .str "flip", .str "put"]]) := d3.app
  have nT : ∀ {B : AH} {a : Nat} {xs : List D}, TapeOk B tp → B[a]? = some (.lst xs) → a ≠ tp := fun tt h e => by
    obtain ⟨c, i, l, s, z, cells, h1, _⟩ := tt
    rw [← e, h] at h1; cases h1
  have c0 : ((A2 ++ [AO.lst []]) ++ [AO.lst [.str "ask", .str "flip", .str "put"]])[A2.length]? = some (.lst []) := app_at new_at
  have g0' : ((A2 ++ [AO.lst []]) ++ [AO.lst [.str "ask", .str "flip", .str "put"]])[(A2 ++ [AO.lst []]).length]? = some (.lst [.str "ask", .str "flip", .str "put"]) := new_at
  have hcg : A2.length ≠ (A2 ++ [AO.lst []]).length := by simp
  generalize hg : (A2 ++ [AO.lst []]).length = g at g0' hcg
  generalize hc : A2.length = c at c0 hcg
  have hcA : ∀ o, c ≠ tp → A[c]? ≠ some o := fun o hne h => by
    have := d2.kp c o hne h
    rw [← hc, new_none] at this; cases this
  have hctp : c ≠ tp := nT d4.tape c0
  have setDr : ∀ {B : AH} {o o' : AO}, Dr tp A B → B[c]? = some o → Dr tp A (B.set c o') := fun {B o o'} dB ho => by
    refine ⟨fun i oi ni hi => set_ne (dB.kp i oi ni hi) (fun e => hcA oi hctp (by rw [e]; exact hi)), ?_⟩
    obtain ⟨c', i, l, s, z, cells, h1, h2, h3, h4, h5, h6⟩ := dB.tape
    refine ⟨c', i, l, s, z, cells, set_ne h1 hctp, set_ne h2 (fun e => ?_), h3, h4, h5, h6⟩
    obtain ⟨c2, i2, l2, s2, z2, cells2, g1, g2, _, _, _, g6⟩ := t
    exact hcA _ hctp (by rw [e, h6, ← g6]; exact g2)
  refine forL_ind (fun i F A' => ∃ x6 x7 x8 x9 cs, F = [some (.ref tp), some (.ref nm), some (.int dep), some (.int k), some (toD p), some (.ref c), x6, x7, x8, x9] ∧ Dr tp A A' ∧ A'[c]? = some (.lst (czs cs)) ∧ A'[g]? = some (.lst [.str "ask", .str "flip", .str "put"]) ∧ cs.length ≤ i ∧ ∀ q ∈ cs, Sz (H b + 1) (NB b + 7) q.2) _ 0 _ _
    ⟨none, none, none, none, [], rfl, d4, c0, g0', Nat.le_refl _, fun q hq => by cases hq⟩ (fun j d F A5 e ⟨x6, x7, x8, x9, cs, eF, d5, hc5, hg5, hl, hcs⟩ => ?_) fun F A5 ⟨x6, x7, x8, x9, cs, eF, d5, hc5, hg5, hl, hcs⟩ => ?_
  · subst eF
    refine ⟨gOk_one hg5, ?_⟩
    have hown : ∃ own, d = .str own ∧ (own = "ask" ∨ own = "flip" ∨ own = "put") := by
      have := List.mem_of_getElem? e
      simp only [List.mem_cons, List.not_mem_nil, or_false] at this
      rcases this with rfl | rfl | rfl
      · exact ⟨_, rfl, .inl rfl⟩
      · exact ⟨_, rfl, .inr (.inl rfl)⟩
      · exact ⟨_, rfl, .inr (.inr rfl)⟩
    have hj : j < 3 := (List.getElem?_eq_some_iff.mp e).1
    obtain ⟨own, rfl, ho⟩ := hown
    have n5 := n.dr t d5
    refine ⟨[some (.ref tp), some (.ref nm), some (.int dep), some (.int k), some (toD p), some (.ref c), some (.str own), x7, x8, x9], rfl, ?_⟩
    rw [wS_seq, wS_ite, wR_tru]
    refine (DE.toss hT rfl (by decide) (by decide)) A5 d5.tape n5 _ fun d A6 ⟨r, e⟩ d6' => ?_
    subst e
    have d6 := d5.trans d6'
    have hc6 := d6'.kp _ _ hctp hc5
    have hg6 := d6'.kp _ _ (nT d5.tape hg5) hg5
    rw [truth_bl, wR_some]
    cases r with
    | false =>
      rw [if_neg (by decide), wS_skip, wS_skip]
      exact ⟨_, _, _, _, cs, rfl, d6, hc6, hg6, by omega, hcs⟩
    | true =>
      rw [if_pos rfl, wS_seq, wS_set]
      refine (PK rfl rfl rfl) A6 d6.tape (n.dr t d6) _ fun d A7 ⟨bt, e, gb⟩ d7' => ?_
      subst e
      have d7 := d6.trans d7'
      have hc7 := d7'.kp _ _ hctp hc6
      have hg7 := d7'.kp _ _ (nT d6.tape hg6) hg6
      show wS (sx cl N _ [some (.ref tp), some (.ref nm), some (.int dep), some (.int k), some (toD p), some (.ref c), some (.str own), some (toD bt), x8, x9] A7) _ _ _ _
      rw [wS_seq, wS_set]
      refine (answerK hT rfl rfl ho) A7 d7.tape (n.dr t d7) _ fun d A8 ⟨an, e, gan⟩ d8' => ?_
      subst e
      have d8 := d7.trans d8'
      have hc8 := d8'.kp _ _ hctp hc7
      have hg8 := d8'.kp _ _ (nT d7.tape hg7) hg7
      show wS (sx cl N _ [some (.ref tp), some (.ref nm), some (.int dep), some (.int k), some (toD p), some (.ref c), some (.str own), some (toD bt), some (toD an), x9] A8) _ _ _ _
      rw [wS_seq, wS_set]
      refine (mk2 (k := .app) (fun _ _ => rfl) rfl (varK (x := "k") (by decide)) (pickT (varE rfl gan) ((DE.leafN hL (xs := ["a"]) rfl rfl lst1 (by decide) (by simp; omega)).imp fun d ⟨t', e, g⟩ => ⟨t', e, g.sz⟩) (thirdK hT rfl))) A8 d8.tape (n.dr t d8) _ fun d A9 ⟨ag, e, gag⟩ d9' => ?_
      subst e
      have d9 := d8.trans d9'
      have hc9 := d9'.kp _ _ hctp hc8
      have hg9 := d9'.kp _ _ (nT d8.tape hg8) hg8
      show wS (sx cl N _ [some (.ref tp), some (.ref nm), some (.int dep), some (.int k), some (toD p), some (.ref c), some (.str own), some (toD bt), some (toD an), some (toD ag)] A9) _ _ _ _
      rw [wS_seq, wS_ex, wR_mth, wR_v5, mkM_lst hc9 rfl, wR_some, wR_cons]
      have v9 : DE cl tp nm ns [some (.ref tp), some (.ref nm), some (.int dep), some (.int k), some (toD p), some (.ref c), some (.str own), some (toD bt), some (toD an), some (toD ag)] (.var 9) (TT 2 3) := varE rfl gag
      have v7 : DE cl tp nm ns [some (.ref tp), some (.ref nm), some (.int dep), some (.int k), some (toD p), some (.ref c), some (.str own), some (toD bt), some (toD an), some (toD ag)] (.var 7) (TT (H b) (NB b)) := varE rfl gb
      have l4 : DE cl tp nm ns [some (.ref tp), some (.ref nm), some (.int dep), some (.int k), some (toD p), some (.ref c), some (.str own), some (toD bt), some (toD an), some (toD ag)] _ (TT (H b + 1) (NB b + 7)) := (mk2s (k := .lett) (fun _ _ _ => rfl) (fun _ => rfl) (strE (s := "u")) (v9.up (h' := H b) (by omega) (Nat.le_refl _)) v7).up (by omega) (by omega)
      have l5 : DE cl tp nm ns [some (.ref tp), some (.ref nm), some (.int dep), some (.int k), some (toD p), some (.ref c), some (.str own), some (toD bt), some (toD an), some (toD ag)] _ (TT (H b + 1) (NB b + 7)) := (mk2 (k := .pair) (fun _ _ => rfl) rfl v9 v9).up (by omega) (by omega)
      have l6 := pickT5 (v9.up (h' := H b + 1) (n' := NB b + 7) (by omega) (by omega)) (v9.up (by omega) (by omega)) (v7.up H1 (by omega)) l4 l5 (DE.take hT rfl (by decide) (by decide))
      have l7 := tup4 (strV (cl := cl) (tp := tp) (nm := nm) (ns := ns) (x := own) (i := 6) (F := [some (.ref tp), some (.ref nm), some (.int dep), some (.int k), some (toD p), some (.ref c), some (.str own), some (toD bt), some (toD an), some (toD ag)]) rfl) (strE (s := "a")) (strE (s := "k")) l6
      refine l7 A9 d9.tape (n.dr t d9) _ fun d A10 ⟨s1, s2, s3, s4, e, ⟨y1, e1, e1'⟩, ⟨y2, e2, e2'⟩, ⟨y3, e3, e3'⟩, ct, e4, gct⟩ d10' => ?_
      subst e e1 e1' e2 e2' e3 e3' e4
      have d10 := d9.trans d10'
      have hc10 := d10'.kp _ _ hctp hc9
      have hg10 := d10'.kp _ _ (nT d9.tape hg9) hg9
      rw [wR_nil, append_eq hc10 (by rw [sz]; unfold czs; rw [List.length_map]; omega), wR_ok, wS_skip, wS_skip]
      refine ⟨_, _, _, _, cs ++ [(y1, ct)], rfl, setDr d10 hc10, ?_, set_ne hg10 hcg, by rw [List.length_append]; simp; omega, fun q hq => ?_⟩
      · rw [set_at hc10]
        unfold czs
        rw [List.map_append]
        rfl
      · rcases List.mem_append.mp hq with hq | hq
        · exact hcs q hq
        · rw [List.mem_singleton.mp hq]; exact gct
  · subst eF
    refine ⟨gOk_one hg5, ?_⟩
    have n5 := n.dr t d5
    rw [wS_seq, wS_ret, wR_tup, wR_cons, wR_str, wR_cons, wR_v4, wR_cons, wR_str, wR_cons]
    refine (DE.ite (DE.toss hT rfl (by decide) (by decide)) ((DE.progN hP (xs := ["r"]) (dep := 0) rfl rfl lst1 (by decide) (fun A Q q => by rw [wR_int]; exact q) (by simp; omega) (by simp)).imp fun d g => (Gd1.tt g).mono (h' := 3) (n' := 1) (Nat.le_refl _) (Nat.le_refl _)) ((varK (x := "r") (by decide)).up (by omega) (Nat.le_refl _))) A5 d5.tape n5 _ fun d A6 ⟨r, er, gr⟩ d6 => ?_
    subst er
    have hc6 := d6.kp _ _ (nT d5.tape hc5) hc5
    have htup : biF A6 "tuple" [.ref c] = .ok (.tup (czs cs)) A6 := by
      show biTuple A6 [.ref c] = _
      simp only [biTuple, seqL_of hc6]
    rw [wR_cons, wR_bi, wR_cons, wR_v5, wR_nil, htup, wR_ok, wR_nil, wR_if]
    exact ⟨fits (n := 5) rfl (by decide), fin (d5.trans d6) _ _ (hdl gp gr hcs hl) (.refl d6.tape)⟩
end K01

/-! ## K01Y -/
namespace K01
open Ev
variable {N : Nat} {A : AH}
theorem takeS {n tp : Nat} (h : 1 ≤ n) : TakeS (callF pg N n) tp := fun A many t h0 h1 => by
  obtain ⟨m, rfl⟩ : ∃ m, n = m + 1 := ⟨n - 1, by omega⟩
  exact take m t h0 h1
theorem leafS {n tp : Nat} (h : 2 ≤ n) : LeafS (callF pg N n) tp := fun A nm ns t hn hz => by
  obtain ⟨m, rfl⟩ : ∃ m, n = m + 2 := ⟨n - 2, by omega⟩
  exact leaf_spec m t hn hz
theorem progS {tp : Nat} : ∀ (b n : Nat), 2 * b + 3 ≤ n → ProgS (callF pg N n) tp b := by
  intro b
  induction b using Nat.strongRecOn with
  | ind b ih =>
    intro n hn A nm ns dep t hnm hz hb
    obtain ⟨m, rfl⟩ : ∃ m, n = m + 1 := ⟨n - 1, by omega⟩
    rw [wR_call (fd := fn_19) rfl rfl]
    refine prog_body (takeS (by omega)) (leafS (by omega)) (fun c hc => ?_) hz t hnm
    obtain ⟨q, rfl⟩ : ∃ q, m = q + 1 := ⟨m - 1, by omega⟩
    refine ⟨ih c (by omega) _ (by omega), fun A nm ns t hnm hz => ?_, fun A nm ns t hnm hz => ?_⟩
    · rw [wR_call (fd := fn_17) rfl rfl]
      exact effect_body (takeS (by omega)) (leafS (by omega)) (ih c (by omega) q (by omega)) rfl hz t hnm
    · rw [wR_call (fd := fn_18) rfl rfl]
      exact shape_body (takeS (by omega)) (ih c (by omega) q (by omega)) rfl hz t hnm
/-! ### the terms are plain data -/
theorem le0 {a m : Nat} : a + 1 ≤ m + 4 ↔ a ≤ m + 3 := by omega
theorem le1 {a m : Nat} : a + 1 ≤ m + 3 ↔ a ≤ m + 2 := by omega
theorem le2 {a m : Nat} : a + 1 ≤ m + 2 ↔ a ≤ m + 1 := by omega
theorem le3 {a m : Nat} : a + 1 ≤ m + 1 ↔ a ≤ m := by omega
theorem pl_mk : ∀ (k : Kd) (ds : List D), ds.length = ar k → pls ds = true → pl (mk k ds) = true
  | .int _, [], _, h => rfl
  | .bool _, [], _, h => rfl
  | .unit, [], _, h => rfl
  | .var _, [], _, h => rfl
  | .nil, [], _, h => rfl
  | .lam _, [a], _, h => by simpa [mk, pl, pls, g0, g1, g2, g3, g4, cz] using h
  | .raise, [a], _, h => by simpa [mk, pl, pls, g0, g1, g2, g3, g4, cz] using h
  | .ref, [a], _, h => by simpa [mk, pl, pls, g0, g1, g2, g3, g4, cz] using h
  | .get, [a], _, h => by simpa [mk, pl, pls, g0, g1, g2, g3, g4, cz] using h
  | .fst, [a], _, h => by simpa [mk, pl, pls, g0, g1, g2, g3, g4, cz] using h
  | .snd, [a], _, h => by simpa [mk, pl, pls, g0, g1, g2, g3, g4, cz] using h
  | .fix _, [a], _, h => by simpa [mk, pl, pls, g0, g1, g2, g3, g4, cz] using h
  | .perform _, [a], _, h => by simpa [mk, pl, pls, g0, g1, g2, g3, g4, cz] using h
  | .field _, [a], _, h => by simpa [mk, pl, pls, g0, g1, g2, g3, g4, cz] using h
  | .yes, [a], _, h => by simpa [mk, pl, pls, g0, g1, g2, g3, g4, cz] using h
  | .rec1 _, [a], _, h => by simpa [mk, pl, pls, g0, g1, g2, g3, g4, cz] using h
  | .app, [a, b], _, h => by simpa [mk, pl, pls, g0, g1, g2, g3, g4, cz] using h
  | .pair, [a, b], _, h => by simpa [mk, pl, pls, g0, g1, g2, g3, g4, cz] using h
  | .set, [a, b], _, h => by simpa [mk, pl, pls, g0, g1, g2, g3, g4, cz] using h
  | .lett _, [a, b], _, h => by simpa [mk, pl, pls, g0, g1, g2, g3, g4, cz] using h
  | .op _, [a, b], _, h => by simpa [mk, pl, pls, g0, g1, g2, g3, g4, cz] using h
  | .tryy, [a, b], _, h => by simpa [mk, pl, pls, g0, g1, g2, g3, g4, cz] using h
  | .extend _, [a, b], _, h => by simpa [mk, pl, pls, g0, g1, g2, g3, g4, cz] using h
  | .cons, [a, b], _, h => by simpa [mk, pl, pls, g0, g1, g2, g3, g4, cz] using h
  | .rec2 _ _, [a, b], _, h => by simpa [mk, pl, pls, g0, g1, g2, g3, g4, cz] using h
  | .h0, [a, b], _, h => by simpa [mk, pl, pls, g0, g1, g2, g3, g4, cz] using h
  | .iff, [a, b, c], _, h => by simpa [mk, pl, pls, g0, g1, g2, g3, g4, cz] using h
  | .mtl, [a, b, c], _, h => by simpa [mk, pl, pls, g0, g1, g2, g3, g4, cz] using h
  | .mto, [a, b, c], _, h => by simpa [mk, pl, pls, g0, g1, g2, g3, g4, cz] using h
  | .h1 _, [a, b, c], _, h => by simpa [mk, pl, pls, g0, g1, g2, g3, g4, cz] using h
  | .h2 _ _, [a, b, c, d], _, h => by simpa [mk, pl, pls, g0, g1, g2, g3, g4, cz] using h
  | .h3 _ _ _, [a, b, c, d, e], _, h => by simpa [mk, pl, pls, g0, g1, g2, g3, g4, cz] using h
theorem dp_mk : ∀ (k : Kd) (ds : List D) (m : Nat), ds.length = ar k → (∀ d ∈ ds, dp d ≤ m) → dp (mk k ds) ≤ m + 4
  | .int _, [], m, _, h => by
    simp only [mk, dp, dps, g0, g1, g2, g3, g4, cz, List.getD_cons_zero, List.getD_cons_succ, Nat.max_le, le0, le1, le2, le3]
    omega
  | .bool _, [], m, _, h => by
    simp only [mk, dp, dps, g0, g1, g2, g3, g4, cz, List.getD_cons_zero, List.getD_cons_succ, Nat.max_le, le0, le1, le2, le3]
    omega
  | .unit, [], m, _, h => by
    simp only [mk, dp, dps, g0, g1, g2, g3, g4, cz, List.getD_cons_zero, List.getD_cons_succ, Nat.max_le, le0, le1, le2, le3]
    omega
  | .var _, [], m, _, h => by
    simp only [mk, dp, dps, g0, g1, g2, g3, g4, cz, List.getD_cons_zero, List.getD_cons_succ, Nat.max_le, le0, le1, le2, le3]
    omega
  | .nil, [], m, _, h => by
    simp only [mk, dp, dps, g0, g1, g2, g3, g4, cz, List.getD_cons_zero, List.getD_cons_succ, Nat.max_le, le0, le1, le2, le3]
    omega
  | .lam _, [a], m, _, h => by
    have h0 := h a (by simp)
    simp only [mk, dp, dps, g0, g1, g2, g3, g4, cz, List.getD_cons_zero, List.getD_cons_succ, Nat.max_le, le0, le1, le2, le3]
    omega
  | .raise, [a], m, _, h => by
    have h0 := h a (by simp)
    simp only [mk, dp, dps, g0, g1, g2, g3, g4, cz, List.getD_cons_zero, List.getD_cons_succ, Nat.max_le, le0, le1, le2, le3]
    omega
  | .ref, [a], m, _, h => by
    have h0 := h a (by simp)
    simp only [mk, dp, dps, g0, g1, g2, g3, g4, cz, List.getD_cons_zero, List.getD_cons_succ, Nat.max_le, le0, le1, le2, le3]
    omega
  | .get, [a], m, _, h => by
    have h0 := h a (by simp)
    simp only [mk, dp, dps, g0, g1, g2, g3, g4, cz, List.getD_cons_zero, List.getD_cons_succ, Nat.max_le, le0, le1, le2, le3]
    omega
  | .fst, [a], m, _, h => by
    have h0 := h a (by simp)
    simp only [mk, dp, dps, g0, g1, g2, g3, g4, cz, List.getD_cons_zero, List.getD_cons_succ, Nat.max_le, le0, le1, le2, le3]
    omega
  | .snd, [a], m, _, h => by
    have h0 := h a (by simp)
    simp only [mk, dp, dps, g0, g1, g2, g3, g4, cz, List.getD_cons_zero, List.getD_cons_succ, Nat.max_le, le0, le1, le2, le3]
    omega
  | .fix _, [a], m, _, h => by
    have h0 := h a (by simp)
    simp only [mk, dp, dps, g0, g1, g2, g3, g4, cz, List.getD_cons_zero, List.getD_cons_succ, Nat.max_le, le0, le1, le2, le3]
    omega
  | .perform _, [a], m, _, h => by
    have h0 := h a (by simp)
    simp only [mk, dp, dps, g0, g1, g2, g3, g4, cz, List.getD_cons_zero, List.getD_cons_succ, Nat.max_le, le0, le1, le2, le3]
    omega
  | .field _, [a], m, _, h => by
    have h0 := h a (by simp)
    simp only [mk, dp, dps, g0, g1, g2, g3, g4, cz, List.getD_cons_zero, List.getD_cons_succ, Nat.max_le, le0, le1, le2, le3]
    omega
  | .yes, [a], m, _, h => by
    have h0 := h a (by simp)
    simp only [mk, dp, dps, g0, g1, g2, g3, g4, cz, List.getD_cons_zero, List.getD_cons_succ, Nat.max_le, le0, le1, le2, le3]
    omega
  | .rec1 _, [a], m, _, h => by
    have h0 := h a (by simp)
    simp only [mk, dp, dps, g0, g1, g2, g3, g4, cz, List.getD_cons_zero, List.getD_cons_succ, Nat.max_le, le0, le1, le2, le3]
    omega
  | .app, [a, b], m, _, h => by
    have h0 := h a (by simp)
    have h1 := h b (by simp)
    simp only [mk, dp, dps, g0, g1, g2, g3, g4, cz, List.getD_cons_zero, List.getD_cons_succ, Nat.max_le, le0, le1, le2, le3]
    omega
  | .pair, [a, b], m, _, h => by
    have h0 := h a (by simp)
    have h1 := h b (by simp)
    simp only [mk, dp, dps, g0, g1, g2, g3, g4, cz, List.getD_cons_zero, List.getD_cons_succ, Nat.max_le, le0, le1, le2, le3]
    omega
  | .set, [a, b], m, _, h => by
    have h0 := h a (by simp)
    have h1 := h b (by simp)
    simp only [mk, dp, dps, g0, g1, g2, g3, g4, cz, List.getD_cons_zero, List.getD_cons_succ, Nat.max_le, le0, le1, le2, le3]
    omega
  | .lett _, [a, b], m, _, h => by
    have h0 := h a (by simp)
    have h1 := h b (by simp)
    simp only [mk, dp, dps, g0, g1, g2, g3, g4, cz, List.getD_cons_zero, List.getD_cons_succ, Nat.max_le, le0, le1, le2, le3]
    omega
  | .op _, [a, b], m, _, h => by
    have h0 := h a (by simp)
    have h1 := h b (by simp)
    simp only [mk, dp, dps, g0, g1, g2, g3, g4, cz, List.getD_cons_zero, List.getD_cons_succ, Nat.max_le, le0, le1, le2, le3]
    omega
  | .tryy, [a, b], m, _, h => by
    have h0 := h a (by simp)
    have h1 := h b (by simp)
    simp only [mk, dp, dps, g0, g1, g2, g3, g4, cz, List.getD_cons_zero, List.getD_cons_succ, Nat.max_le, le0, le1, le2, le3]
    omega
  | .extend _, [a, b], m, _, h => by
    have h0 := h a (by simp)
    have h1 := h b (by simp)
    simp only [mk, dp, dps, g0, g1, g2, g3, g4, cz, List.getD_cons_zero, List.getD_cons_succ, Nat.max_le, le0, le1, le2, le3]
    omega
  | .cons, [a, b], m, _, h => by
    have h0 := h a (by simp)
    have h1 := h b (by simp)
    simp only [mk, dp, dps, g0, g1, g2, g3, g4, cz, List.getD_cons_zero, List.getD_cons_succ, Nat.max_le, le0, le1, le2, le3]
    omega
  | .rec2 _ _, [a, b], m, _, h => by
    have h0 := h a (by simp)
    have h1 := h b (by simp)
    simp only [mk, dp, dps, g0, g1, g2, g3, g4, cz, List.getD_cons_zero, List.getD_cons_succ, Nat.max_le, le0, le1, le2, le3]
    omega
  | .h0, [a, b], m, _, h => by
    have h0 := h a (by simp)
    have h1 := h b (by simp)
    simp only [mk, dp, dps, g0, g1, g2, g3, g4, cz, List.getD_cons_zero, List.getD_cons_succ, Nat.max_le, le0, le1, le2, le3]
    omega
  | .iff, [a, b, c], m, _, h => by
    have h0 := h a (by simp)
    have h1 := h b (by simp)
    have h2 := h c (by simp)
    simp only [mk, dp, dps, g0, g1, g2, g3, g4, cz, List.getD_cons_zero, List.getD_cons_succ, Nat.max_le, le0, le1, le2, le3]
    omega
  | .mtl, [a, b, c], m, _, h => by
    have h0 := h a (by simp)
    have h1 := h b (by simp)
    have h2 := h c (by simp)
    simp only [mk, dp, dps, g0, g1, g2, g3, g4, cz, List.getD_cons_zero, List.getD_cons_succ, Nat.max_le, le0, le1, le2, le3]
    omega
  | .mto, [a, b, c], m, _, h => by
    have h0 := h a (by simp)
    have h1 := h b (by simp)
    have h2 := h c (by simp)
    simp only [mk, dp, dps, g0, g1, g2, g3, g4, cz, List.getD_cons_zero, List.getD_cons_succ, Nat.max_le, le0, le1, le2, le3]
    omega
  | .h1 _, [a, b, c], m, _, h => by
    have h0 := h a (by simp)
    have h1 := h b (by simp)
    have h2 := h c (by simp)
    simp only [mk, dp, dps, g0, g1, g2, g3, g4, cz, List.getD_cons_zero, List.getD_cons_succ, Nat.max_le, le0, le1, le2, le3]
    omega
  | .h2 _ _, [a, b, c, d], m, _, h => by
    have h0 := h a (by simp)
    have h1 := h b (by simp)
    have h2 := h c (by simp)
    have h3 := h d (by simp)
    simp only [mk, dp, dps, g0, g1, g2, g3, g4, cz, List.getD_cons_zero, List.getD_cons_succ, Nat.max_le, le0, le1, le2, le3]
    omega
  | .h3 _ _ _, [a, b, c, d, e], m, _, h => by
    have h0 := h a (by simp)
    have h1 := h b (by simp)
    have h2 := h c (by simp)
    have h3 := h d (by simp)
    have h4 := h e (by simp)
    simp only [mk, dp, dps, g0, g1, g2, g3, g4, cz, List.getD_cons_zero, List.getD_cons_succ, Nat.max_le, le0, le1, le2, le3]
    omega
theorem pls_of {xs : List D} (h : ∀ x ∈ xs, pl x = true) : pls xs = true := by
  induction xs with
  | nil => rfl
  | cons x r ih => rw [pls, h x List.mem_cons_self, ih fun y hy => h y (List.mem_cons_of_mem _ hy)]; rfl
theorem dps_of {xs : List D} {m : Nat} (h : ∀ x ∈ xs, dp x ≤ m) : dps xs ≤ m := by
  induction xs with
  | nil => exact Nat.zero_le _
  | cons x r ih => rw [dps]; have := h x List.mem_cons_self; have := ih fun y hy => h y (List.mem_cons_of_mem _ hy); omega
mutual
theorem good_toD : ∀ t : Tm, wf t → pl (toD t) = true ∧ dp (toD t) ≤ 4 * ht t
  | .nd k ps, h => by
    rw [wf] at h
    obtain ⟨h1, h2⟩ := good_toDs ps h.2
    have hl : (toDs ps).length = ar k := by rw [toDs_len]; exact h.1
    rw [toD, ht]
    refine ⟨pl_mk k _ hl (pls_of h1), ?_⟩
    have := dp_mk k _ (4 * htL ps) hl h2
    omega
theorem good_toDs : ∀ ps : List Tm, wfs ps → (∀ d ∈ toDs ps, pl d = true) ∧ ∀ d ∈ toDs ps, dp d ≤ 4 * htL ps
  | [], _ => ⟨fun d hd => (by cases hd), fun d hd => (by cases hd)⟩
  | t :: r, h => by
    obtain ⟨a1, a2⟩ := good_toD t h.1
    obtain ⟨b1, b2⟩ := good_toDs r h.2
    rw [toDs, htL]
    refine ⟨fun d hd => ?_, fun d hd => ?_⟩
    · rcases List.mem_cons.mp hd with rfl | hd
      · exact a1
      · exact b1 d hd
    · rcases List.mem_cons.mp hd with rfl | hd
      · omega
      · have := b2 d hd; omega
end
theorem good_set : ∀ (p : List Nat) (t s : Tm) (d : D) (m : Nat), wf t → atT t p = some s → pl d = true → dp d ≤ m → pl (setT t p d) = true ∧ dp (setT t p d) ≤ 4 * ht t + m
  | [], t, s, d, m, hw, h, h1, h2 => by
    cases t
    exact ⟨h1, by rw [setT]; omega⟩
  | i :: p, .nd k ps, s, d, m, hw, h, h1, h2 => by
    rw [wf] at hw
    obtain ⟨v, hv, hat⟩ := atT_step h
    obtain ⟨g1, g2⟩ := good_set p v s d m (wfs_mem hw.2 v (List.mem_of_getElem? hv)) hat h1 h2
    obtain ⟨b1, b2⟩ := good_toDs ps hw.2
    have hh := ht_mem (List.mem_of_getElem? hv)
    have hl : ((toDs ps).set i (setT v p d)).length = ar k := by rw [List.length_set, toDs_len]; exact hw.1
    rw [setT, hv, ht]
    refine ⟨pl_mk k _ hl (pls_of fun x hx => ?_), ?_⟩
    · rcases List.mem_or_eq_of_mem_set hx with hx | rfl
      · exact b1 x hx
      · exact g1
    · have := dp_mk k _ (4 * htL ps + m) hl fun x hx => by
        rcases List.mem_or_eq_of_mem_set hx with hx | rfl
        · have := b2 x hx; omega
        · omega
      show dp (mk k ((toDs ps).set i (setT v p d))) ≤ _
      omega
mutual
theorem good_put : ∀ (t : Tm) (m : List (String × D)) (q : Nat), wf t → (∀ kv ∈ m, pl kv.2 = true ∧ dp kv.2 ≤ q) → pl (putT t m) = true ∧ dp (putT t m) ≤ 4 * ht t + q
  | .nd k ps, m, q, h, hm => by
    rw [wf] at h
    unfold putT
    split
    · rename_i x
      unfold lk
      cases hf : m.find? fun kv => kv.1 == x with
      | none => exact ⟨rfl, by simp [mk, dp, dps, ht]; omega⟩
      | some kv =>
        obtain ⟨a, b⟩ := hm kv (List.mem_of_find?_eq_some hf)
        exact ⟨a, by simp; omega⟩
    · obtain ⟨b1, b2⟩ := good_putL k 0 ps m q h.2 hm
      have hl : (putL k 0 ps m).length = ar k := by rw [putL_len]; exact h.1
      rw [ht]
      refine ⟨pl_mk k _ hl (pls_of b1), ?_⟩
      have := dp_mk k _ (4 * htL ps + q) hl b2
      omega
theorem good_putL (k : Kd) : ∀ (i : Nat) (ps : List Tm) (m : List (String × D)) (q : Nat), wfs ps → (∀ kv ∈ m, pl kv.2 = true ∧ dp kv.2 ≤ q) → (∀ d ∈ putL k i ps m, pl d = true) ∧ ∀ d ∈ putL k i ps m, dp d ≤ 4 * htL ps + q
  | _, [], m, q, _, _ => ⟨fun d hd => (by cases hd), fun d hd => (by cases hd)⟩
  | i, t :: r, m, q, h, hm => by
    obtain ⟨a1, a2⟩ := good_put t (flt (bd k i) m) q h.1 fun kv hk => hm kv (List.mem_filter.mp hk).1
    obtain ⟨b1, b2⟩ := good_putL k (i + 1) r m q h.2 hm
    rw [putL, htL]
    refine ⟨fun d hd => ?_, fun d hd => ?_⟩
    · rcases List.mem_cons.mp hd with rfl | hd
      · exact a1
      · exact b1 d hd
    · rcases List.mem_cons.mp hd with rfl | hd
      · omega
      · have := b2 d hd; omega
end
end K01

/-! ## K01Z -/
namespace K01
open Ev PySem
mutual
theorem pd_pl : ∀ d : D, pl d = true → ∃ p, toPd d = some p ∧ PyData.canLay0 p = true ∧ PyData.depth p ≤ dp d ∧ PyData.eqv p p = true
  | .non, _ => ⟨_, rfl, rfl, Nat.le_refl _, rfl⟩
  | .bl b, _ => ⟨_, rfl, rfl, Nat.le_refl _, by simp [PyData.eqv]⟩
  | .int i, _ => ⟨_, rfl, rfl, Nat.le_refl _, by simp [PyData.eqv]⟩
  | .str s, _ => ⟨_, rfl, strOk_of s, Nat.le_refl _, by simp [PyData.eqv]⟩
  | .tup xs, h => by
    rw [pl, Bool.and_eq_true] at h
    obtain ⟨ps, e, h1, h2, h3⟩ := pds_pl xs h.1
    refine ⟨.tuple ps, by rw [toPd, e]; rfl, h1, ?_, h3⟩
    rw [dp]
    show PyData.depthAll ps + 1 ≤ _
    omega
  | .frl _, h => by cases h
  | .ref _, h => by cases h
  | .gl _, h => by cases h
theorem pds_pl : ∀ xs : List D, pls xs = true → ∃ ps, toPds xs = some ps ∧ PyData.canLayAll0 ps = true ∧ PyData.depthAll ps ≤ dps xs ∧ PyData.eqvAll ps ps = true
  | [], _ => ⟨[], rfl, rfl, Nat.le_refl _, rfl⟩
  | d :: r, h => by
    rw [pls, Bool.and_eq_true] at h
    obtain ⟨p, e, h1, h2, h3⟩ := pd_pl d h.1
    obtain ⟨ps, e', g1, g2, g3⟩ := pds_pl r h.2
    refine ⟨p :: ps, by rw [toPds, e, e'], ?_, ?_, ?_⟩
    · rw [PyData.canLayAll0, h1, g1]; rfl
    · rw [dps]
      show max (PyData.depth p) (PyData.depthAll ps) ≤ _
      omega
    · rw [PyData.eqvAll, h3, g3]; rfl
end
theorem ne_self {A : AH} {xs : List D} (h : pl (.tup xs) = true) (hd : dp (.tup xs) ≤ 64) : opC A .ne (.tup xs) (.tup xs) = some false := by
  obtain ⟨p, e, h1, h2, h3⟩ := pd_pl (.tup xs) h
  have hp : toP A (.tup xs) = some p := e
  have hs : SeqAt.shaped p = true := by
    unfold SeqAt.shaped
    rw [h1, decide_eq_true (by omega)]
    rfl
  show (Ev.eqD A (.tup xs) (.tup xs)).map (!·) = _
  simp only [Ev.eqD, hp, hs, Bool.and_self, if_true, h3]
  rfl
theorem mk_tup (k : Kd) (ds : List D) : ∃ xs, mk k ds = .tup xs := by cases k <;> exact ⟨_, rfl⟩
theorem strsOf_map (l : List String) : strsOf (l.map D.str) = some l := by
  induction l with
  | nil => rfl
  | cons x r ih => rw [List.map_cons, strsOf, ih]; rfl
theorem sorted_lst {A : AH} {a : Nat} {l : List String} (h : A[a]? = some (.lst (l.map .str))) (hl : l.length < 64) : biF A "sorted" [.ref a] = .ok (.ref A.length) (A ++ [.lst ((sortS l).map .str)]) := by
  show biSorted A [.ref a] = _
  have h1 : dctL A a = none := by simp [dctL, h]
  simp only [biSorted, h1, seqL_of h, Option.bind_some, strsOf_map, if_pos hl]
theorem sorted_dct {A : AH} {a : Nat} {l : List String} (h : A[a]? = some (.dct (dKs l))) (hl : l.length < 64) : biF A "sorted" [.ref a] = .ok (.ref A.length) (A ++ [.lst ((sortS l).map .str)]) := by
  show biSorted A [.ref a] = _
  have h1 : dctL A a = some (dKs l) := by simp [dctL, h]
  have h2 : (dKs l).map (·.1) = l.map D.str := by unfold dKs; rw [List.map_map]; rfl
  simp only [biSorted, h1, h2, strsOf_map, if_pos hl]
theorem pls_str (l : List String) : pls (l.map D.str) = true ∧ dps (l.map D.str) = 0 := by
  induction l with
  | nil => exact ⟨rfl, rfl⟩
  | cons x r ih => exact ⟨by rw [List.map_cons, pls, ih.1]; rfl, by rw [List.map_cons, dps, ih.2]; rfl⟩
theorem pls_paths (l : List (List Nat)) (h : ∀ p ∈ l, p.length ≤ 1000) : pls (l.map pD) = true ∧ dps (l.map pD) ≤ 1 := by
  have hi : ∀ p : List Nat, pls (p.map fun (i : Nat) => D.int i) = true ∧ dps (p.map fun (i : Nat) => D.int i) = 0 := fun p => by
    induction p with
    | nil => exact ⟨rfl, rfl⟩
    | cons x r ih => exact ⟨by rw [List.map_cons, pls, ih.1]; rfl, by rw [List.map_cons, dps, ih.2]; rfl⟩
  induction l with
  | nil => exact ⟨rfl, by simp [dps]⟩
  | cons p r ih =>
    obtain ⟨i1, i2⟩ := ih fun q hq => h q (List.mem_cons_of_mem _ hq)
    refine ⟨?_, ?_⟩
    · rw [List.map_cons, pls, i1]
      show (pls _ && decide _) && true = true
      rw [(hi p).1, decide_eq_true (by rw [List.length_map]; exact h p List.mem_cons_self)]
      rfl
    · rw [List.map_cons, dps]
      show max (dps (p.map fun (i : Nat) => D.int i) + 1) _ ≤ 1
      rw [(hi p).2]
      omega
end K01

/-! ## K01LawP -/
namespace K01
open Ev
variable {N n : Nat} {A : AH}
theorem sameL {A : AH} {a b : Nat} {xs : List D} (ha : A[a]? = some (.lst xs)) (hb : A[b]? = some (.lst xs)) (hz : xs.length ≤ PySem.sizeLine) (hp : pls xs = true) (hn : 2 * dps xs + 1 < n) : wR (callF pg N (n + 2) "_law_same" [.ref a, .ref b] A) (fun r A' => r = .bl true ∧ Kp A A') := same_lst rfl rfl rfl ha hb hz hp hn
theorem sameP {A : AH} {d : D} (hp : pl d = true) (hn : 2 * dp d + 1 < n) : wR (callF pg N n "_law_same" [d, d] A) (fun r A' => r = .bl true ∧ Kp A A') := same_pl rfl rfl rfl n d A hp hn
/-- not same(f(x), g(x)): false -/
theorem not_true {cl : Cl0} {F : Fr} {A : AH} {e : Ex} {P : D → AH → Prop} (h : wR (ev cl e F A) (fun r A' => r = .bl true ∧ P (.bl false) A')) : wR (ev cl (.not e) F A) P := by
  rw [wR_not]
  refine h.mono fun r A' ⟨er, p⟩ => ?_
  subst er
  exact p
theorem ne_int {A : AH} {i : Int} : opC A .ne (.int i) (.int i) = some false := by
  show (Ev.eqD A (.int i) (.int i)).map (!·) = _
  have : Ev.eqD A (.int i) (.int i) = some (decide (i = i)) := eq_int (A := A)
  rw [this]; simp
theorem NB4 : NB 4 ≤ 10000 := by decide
theorem H4 : H 4 = 11 := rfl
def vals : List (String × D) := [("x", .tup [.str "int", .int 5]), ("w", .tup [.str "lam", .str "x", .tup [.str "var", .str "x"]]), ("h", .tup [.str "unit"]), ("k", .tup [.str "bool", .bl true])]
theorem vals_nd : (vals.map (·.1)).Nodup := by decide
theorem vals_ok : ∀ kv ∈ vals, pl kv.2 = true ∧ dp kv.2 ≤ 8 := by
  intro kv h
  simp only [vals, List.mem_cons, List.not_mem_nil, or_false] at h
  rcases h with rfl | rfl | rfl | rfl <;> exact ⟨rfl, by decide⟩
theorem law_turn {tp : Nat} {s : D} {x2 x3 x4 x5 x6 x7 : Option D} (t : TapeOk A tp) {Pn Pb Pc : Fr → AH → Prop} {Pr : D → AH → Prop}
    (p : ∀ x3 x4 x5 x6 x7 A', TapeOk A' tp → Pn [some s, some (.ref tp), x2, x3, x4, x5, x6, x7] A') : wS (sx (callF pg N 230) N (match fn_28.body with | .seq _ (.seq (.for _ _ b) _) => b | _ => .skip) [some s, some (.ref tp), x2, x3, x4, x5, x6, x7] A) Pn Pb Pc Pr := by
  show wS (sx (callF pg N 230) N (.seq (.set 3 (.call "_law_program" _)) _) _ A) _ _ _ _
  rw [wS_seq, wS_set, wR_cl, wR_cons, wR_v1, wR_cons, wR_lst, wR_cons, wR_str, wR_cons, wR_str, wR_cons, wR_str, wR_nil, wR_if]
  refine ⟨fits (n := 3) rfl (by decide), ?_⟩
  rw [wR_cons, wR_int, wR_nil]
  have t1 : TapeOk (A ++ [AO.lst [.str "x", .str "c", .str "w"]]) tp := t.kp Kp.refl.app
  refine (progS 4 230 (by decide) _ A.length ["x", "c", "w"] 4 t1 ⟨new_at, by decide⟩ (by decide) (by decide)).mono fun r A2 ⟨u, er, gu, d2⟩ => ?_
  subst er
  have t2 := d2.tape
  have gu : Gd1 4 u := gu
  have hw := gu.w
  have hh : ht u ≤ 11 := gu.h
  have hnb : nodes u ≤ 10000 := Nat.le_trans gu.n NB4
  have hns : nodes u ≤ PySem.sizeLine := by rw [sz]; omega
  obtain ⟨plu, dpu⟩ := good_toD u hw
  show wS (sx _ N _ [some s, some (.ref tp), x2, some (toD u), x4, x5, x6, x7] A2) _ _ _ _
  rw [wS_seq, wS_set, wR_cl, wR_cons, wR_v3, wR_nil]
  refine (law_paths_spec 230 u A2 hw (by omega) (by decide) hns).mono fun r A3 ⟨ev, er, k3, _, he3⟩ => ?_
  subst er
  have t3 := t2.kp k3
  show wS (sx _ N _ [some s, some (.ref tp), x2, some (toD u), some (.ref ev), x5, x6, x7] A3) _ _ _ _
  obtain ⟨k, ps⟩ := u
  obtain ⟨gd1, gd2⟩ := good_toDs ps (by rw [wf] at hw; exact hw.2)
  have hpl : (toDs ps).length = ar k := by rw [toDs_len]; rw [wf] at hw; exact hw.1
  have hdps : dps (toDs ps) ≤ 44 := dps_of fun x hx => by have := gd2 x hx; rw [ht] at hh; omega
  have hpp := pls_paths (paths (.nd k ps)) fun p hp => by have := path_ht _ p hp; omega
  have hdt : (toD (.nd k ps)) = mk k (toDs ps) := rfl
  -- parts, paths, size
  rw [wS_seq, wS_ite, wR_tru, wR_or]
  refine not_true ?_
  rw [wR_cl, wR_cons, wR_cl, wR_cons, wR_v3, wR_nil]
  refine (pp_spec k (toDs ps) hpl).fl.mono fun r A4 ⟨a4, er, k4, _, h4⟩ => ?_
  subst er
  rw [wR_cons, wR_cl, wR_cons, wR_v3, wR_nil]
  refine (lp_spec k (toDs ps) hpl).fl.mono fun r A5 ⟨a5, er, k5, _, h5⟩ => ?_
  subst er
  rw [wR_nil]
  refine (sameL (n := 228) (k5 _ _ h4) h5 (by rw [sz, hpl]; have := ar_le k; omega) (pls_of gd1) (by omega)).mono fun r A6 ⟨er, k6⟩ => ⟨er, ?_⟩
  have k36 : Kp A3 A6 := k4.trans (k5.trans k6)
  show wR (ofO (some false) A6) _
  rw [wR_some, if_neg (by decide), wR_or]
  refine not_true ?_
  rw [wR_cl, wR_cons, wR_cl, wR_cons, wR_v3, wR_nil]
  refine (paths_spec 230 (.nd k ps) A6 hw (by omega) (by decide) hns).mono fun r A7 ⟨a7, er, k7, _, h7⟩ => ?_
  subst er
  rw [wR_cons, wR_v4, wR_nil]
  refine (sameL (n := 228) h7 (k7 _ _ (k36 _ _ he3)) (by rw [List.length_map, paths_len]; exact hns) hpp.1 (by omega)).mono fun r A8 ⟨er, k8⟩ => ⟨er, ?_⟩
  have k38 : Kp A3 A8 := k36.trans (k7.trans k8)
  show wR (ofO (some false) A8) _
  rw [wR_some, if_neg (by decide), wR_cmp, wR_cl, wR_cons, wR_v3, wR_nil]
  refine (size_spec 230 (.nd k ps) A8 hw (by omega)).mono fun r A9 ⟨er, k9⟩ => ?_
  subst er
  have k39 : Kp A3 A9 := k38.trans k9
  rw [wR_bi, wR_cons, wR_v4, wR_nil, len_lst (k39 _ _ he3), wR_ok, List.length_map, paths_len]
  have hne : ∀ i : Int, opC A9 .ne (.int i) (.int i) = some false := fun i => ne_int
  rw [hne]
  show wR (ofO (some (D.bl false)) A9) _
  rw [wR_some]
  show wR (ofO (some false) A9) _
  rw [wR_some, if_neg (by decide), wS_skip]
  -- free names
  have hvn := gu.v
  have hfl : (fr (.nd k ps)).length ≤ 13 := fr_len hvn
  rw [wS_seq, wS_ite, wR_tru]
  refine not_true ?_
  rw [wR_cl, wR_cons, wR_bi, wR_cons, wR_cl, wR_cons, wR_v3, wR_nil]
  refine (free_names_spec 230 (.nd k ps) A9 hw hvn (by omega)).mono fun r A10 ⟨a10, er, k10, _, h10⟩ => ?_
  subst er
  rw [wR_nil, sorted_dct h10 (by omega), wR_ok, wR_cons, wR_bi, wR_cons, wR_cl, wR_cons, wR_v3, wR_nil]
  refine (law_free_spec 230 (.nd k ps) _ hw hvn (by omega)).mono fun r A11 ⟨a11, er, k11, _, h11⟩ => ?_
  subst er
  have hss : (sortS (fr (.nd k ps))).length ≤ 13 := by unfold sortS; rw [List.length_mergeSort]; exact hfl
  obtain ⟨ps1, ps2⟩ := pls_str (sortS (fr (.nd k ps)))
  rw [wR_nil, sorted_lst h11 (by omega), wR_ok, wR_nil]
  refine (sameL (n := 228) (app_at (k11 _ _ new_at)) new_at (by rw [List.length_map, sz]; omega) ps1 (by omega)).mono fun r A12 ⟨er, k12⟩ => ⟨er, ?_⟩
  have k312 : Kp A3 A12 := k39.trans (k10.trans (Kp.refl.app.trans (k11.trans (Kp.refl.app.trans k12))))
  show wR (ofO (some false) A12) _
  rw [wR_some, if_neg (by decide), wS_skip]
  have t12 := t3.kp k312
  -- a path, a new part
  have he12 := k312 _ _ he3
  rw [wS_seq, wS_set, wR_ix, wR_v4, wR_cl, wR_cons, wR_v1, wR_cons, wR_bi, wR_cons, wR_v4, wR_nil, len_lst he12, wR_ok, wR_nil, List.length_map, paths_len]
  have hnp : 1 ≤ nodes (.nd k ps) := by rw [nodes]; omega
  refine (take 229 t12 (by omega) (by omega)).mono fun r A13 ⟨m, er, m0, m1, d13⟩ => ?_
  subst er
  have hevtp : ev ≠ tp := fun e => by
    obtain ⟨c, i, l, s, z, cells, h1, _⟩ := t12
    rw [← e, he12] at h1; cases h1
  have he13 := d13.kp _ _ hevtp he12
  have hmp : ∃ p, (paths (.nd k ps))[m.toNat]? = some p := ⟨_, List.getElem?_eq_getElem (by rw [paths_len]; omega)⟩
  obtain ⟨pth, hpth⟩ := hmp
  have hmem := List.mem_of_getElem? hpth
  obtain ⟨sub, hsub⟩ := atT_paths _ pth hmem
  have hplen := path_ht _ pth hmem
  have hix : opI A13 (.ref ev) (.int m) = some (pD pth) := by
    rw [opI_lst he13, show m = ((m.toNat : Nat) : Int) by omega, atI_nat, List.getElem?_map, hpth]; rfl
  rw [hix, wR_some]
  show wS (sx _ N _ [some s, some (.ref tp), x2, some (toD (.nd k ps)), some (.ref ev), some (pD pth), x6, x7] A13) _ _ _ _
  have t13 := d13.tape
  rw [wS_seq, wS_set, wR_cl, wR_cons, wR_v1, wR_cons, wR_lst, wR_cons, wR_str, wR_nil, wR_if]
  refine ⟨fits (n := 1) rfl (by decide), ?_⟩
  rw [wR_cons, wR_int, wR_nil]
  refine (progS 1 230 (by decide) _ A13.length ["y"] 1 (t13.kp Kp.refl.app) ⟨new_at, by decide⟩ (by decide) (by decide)).mono fun r A14 ⟨nw, er, gn, d14⟩ => ?_
  subst er
  have t14 := d14.tape
  have gn : Gd1 1 nw := gn
  obtain ⟨pln, dpn⟩ := good_toD nw gn.w
  have hhn : ht nw ≤ 5 := gn.h
  obtain ⟨gs1, gs2⟩ := good_set pth _ sub (toD nw) 20 hw hsub pln (by omega)
  have wsub := atT_wf hw hsub
  obtain ⟨pls', dps'⟩ := good_toD sub wsub
  have hhs : ht sub ≤ 11 := by
    have : ∀ (p : List Nat) (t s : Tm), atT t p = some s → ht s ≤ ht t := fun p => by
      induction p with
      | nil => intro t s e; cases t; cases e; exact Nat.le_refl _
      | cons i p ih =>
        intro t s e
        obtain ⟨k, ps⟩ := t
        obtain ⟨v, hv, e⟩ := atT_step e
        have h1 := ih v s e
        have h2 := ht_mem (List.mem_of_getElem? hv)
        rw [ht]; omega
    have := this pth _ sub hsub
    omega
  show wS (sx _ N _ [some s, some (.ref tp), x2, some (toD (.nd k ps)), some (.ref ev), some (pD pth), some (toD nw), x7] A14) _ _ _ _
  rw [wS_seq, wS_ite, wR_tru, wR_or]
  refine not_true ?_
  rw [wR_cl, wR_cons, wR_cl, wR_cons, wR_v3, wR_cons, wR_v5, wR_nil]
  refine (part_at_spec (n := 228) hw hsub).mono fun r A15 ⟨er, k15⟩ => ?_
  subst er
  rw [wR_cons, wR_cl, wR_cons, wR_v3, wR_cons, wR_v5, wR_nil]
  refine (law_at_spec (n := 228) hw hsub).mono fun r A16 ⟨er, k16⟩ => ?_
  subst er
  rw [wR_nil]
  refine (sameP (n := 230) pls' (by omega)).mono fun r A17 ⟨er, k17⟩ => ⟨er, ?_⟩
  show wR (ofO (some false) A17) _
  rw [wR_some, if_neg (by decide), wR_or, wR_cmp, wR_cl, wR_cons, wR_v3, wR_cons, wR_op, wR_v5, wR_tup, wR_cons, wR_int, wR_nil, wR_if]
  refine ⟨fits (n := 1) rfl (by decide), ?_⟩
  have hcat : opB A17 .add (pD pth) (.tup [.int 9]) = .ok (pD (pth ++ [9])) A17 := by
    show (if (pth.map fun (i : Nat) => D.int i).length + [D.int 9].length ≤ PySem.sizeLine then Res.ok (D.tup ((pth.map fun (i : Nat) => D.int i) ++ [D.int 9])) A17 else .no) = _
    rw [if_pos (by rw [List.length_map, sz]; simp; omega)]
    unfold pD
    rw [List.map_append]
    rfl
  rw [hcat, wR_ok, wR_nil]
  refine (part_at_none (n := 228) hw hsub).mono fun r A18 ⟨er, k18⟩ => ?_
  subst er
  rw [wR_non]
  show wR (ofO (some (D.bl false)) A18) _
  rw [wR_some]
  show wR (ofO (some false) A18) _
  rw [wR_some, if_neg (by decide)]
  refine not_true ?_
  rw [wR_cl, wR_cons, wR_cl, wR_cons, wR_v3, wR_cons, wR_v5, wR_cons, wR_v6, wR_nil]
  refine (with_part_spec pth 230 _ sub (toD nw) A18 hw hsub (by omega)).mono fun r A19 ⟨er, k19⟩ => ?_
  subst er
  rw [wR_cons, wR_cl, wR_cons, wR_v3, wR_cons, wR_v5, wR_cons, wR_v6, wR_nil]
  refine (law_set_spec pth 230 _ sub (toD nw) A19 hw hsub (by omega)).mono fun r A20 ⟨er, k20⟩ => ?_
  subst er
  rw [wR_nil]
  refine (sameP (n := 230) gs1 (by omega)).mono fun r A21 ⟨er, k21⟩ => ⟨er, ?_⟩
  show wR (ofO (some false) A21) _
  rw [wR_some, if_neg (by decide), wS_skip]
  have t21 := t14.kp (k15.trans (k16.trans (k17.trans (k18.trans (k19.trans (k20.trans k21))))))
  -- values put in
  rw [wS_seq, wS_set]
  refine wR_eq (a := .ref A21.length) (A := A21 ++ [.dct (vKs vals)]) (by kernel_rfl) ?_
  show wS (sx _ N _ [some s, some (.ref tp), x2, some (toD (.nd k ps)), some (.ref ev), some (pD pth), some (toD nw), some (.ref A21.length)] (A21 ++ [.dct (vKs vals)])) _ _ _ _
  have t22 := t21.kp (Kp.refl.app (J := [.dct (vKs vals)]))
  have hv22 : (A21 ++ [AO.dct (vKs vals)])[A21.length]? = some (.dct (vKs vals)) := new_at
  generalize A21 ++ [AO.dct (vKs vals)] = A22 at t22 hv22
  generalize A21.length = va at hv22
  obtain ⟨gp1, gp2⟩ := good_put (.nd k ps) vals 8 hw vals_ok
  rw [wS_seq, wS_ite, wR_tru, wR_or]
  refine not_true ?_
  rw [wR_cl, wR_cons, wR_cl, wR_cons, wR_v3, wR_cons, wR_v7, wR_nil]
  refine (put_in_spec 230 (.nd k ps) A22 va vals hw (by omega) hv22 vals_nd (by decide)).mono fun r A23 ⟨er, k23⟩ => ?_
  subst er
  rw [wR_cons, wR_cl, wR_cons, wR_v3, wR_cons, wR_v7, wR_nil]
  refine (law_put_spec 230 (.nd k ps) A23 va vals hw (by omega) (k23 _ _ hv22) vals_nd (by decide)).mono fun r A24 ⟨er, k24⟩ => ?_
  subst er
  rw [wR_nil]
  refine (sameP (n := 230) gp1 (by omega)).mono fun r A25 ⟨er, k25⟩ => ⟨er, ?_⟩
  show wR (ofO (some false) A25) _
  rw [wR_some, if_neg (by decide), wR_cmp, wR_cl, wR_cons, wR_v3, wR_cons]
  refine wR_eq (a := .ref A25.length) (A := A25 ++ [.dct (vKs [])]) (by kernel_rfl) ?_
  rw [wR_nil]
  refine (put_in_spec 230 (.nd k ps) _ A25.length [] hw (by omega) new_at List.nodup_nil (by decide)).mono fun r A26 ⟨er, k26⟩ => ?_
  subst er
  rw [putT_nil _ hw, wR_v3]
  obtain ⟨xs, hxs⟩ := mk_tup k (toDs ps)
  have hne : opC A26 .ne (toD (.nd k ps)) (toD (.nd k ps)) = some false := by
    rw [hdt, hxs]
    rw [hdt, hxs] at plu dpu
    exact ne_self plu (by omega)
  rw [hne]
  show wR (ofO (some (D.bl false)) A26) _
  rw [wR_some]
  show wR (ofO (some false) A26) _
  rw [wR_some, if_neg (by decide), wS_skip, wS_skip]
  exact p _ _ _ _ _ _ (t22.kp (k23.trans (k24.trans (k25.trans (Kp.refl.app.trans k26)))))
theorem law_pure (N : Nat) (ns : List Int) (h : ns.length ≤ 63) : ∃ A1, callF pg N 231 "law" [.frl (ns.map .int)] [] = .ok (.bl true) A1 := by
  have key : wR (callF pg N 231 "law" [.frl (ns.map .int)] []) (fun r A' => r = .bl true) := by
    rw [wR_call (fd := fn_28) rfl rfl]
    show wS (sx _ N fn_28.body [some (.frl (ns.map .int)), none, none, none, none, none, none, none] []) _ _ _ _
    show wS (sx _ N (.seq (.set 1 (.call "_law_tape" (.cons (.var 0) .nil))) _) _ _) _ _ _ _
    rw [wS_seq, wS_set, wR_cl, wR_cons, wR_v0, wR_nil]
    refine (tape_spec rfl h).mono fun r A ⟨tp, er, t⟩ => ?_
    subst er
    show wS (sx _ N (.seq (.for (.nm 2) (.rng (.cons (.int 4) .nil)) _) (.seq (.ret (.bl true)) .skip)) [some (.frl (ns.map .int)), some (.ref tp), none, none, none, none, none, none] A) _ _ _ _
    rw [wS_seq, wS_for, wR_rng, wR_cons, wR_int, wR_nil]
    show wR (ofO (some (⟨rngD 0 4, [], none⟩ : Wk)) A) _
    rw [wR_some]
    refine forL_ind (fun i F A' => TapeOk A' tp ∧ ∃ x2 x3 x4 x5 x6 x7, F = [some (.frl (ns.map .int)), some (.ref tp), x2, x3, x4, x5, x6, x7]) _ 0 _ A ⟨t, none, none, none, none, none, none, rfl⟩ (fun j d F A' e ⟨t', x2, x3, x4, x5, x6, x7, eF⟩ => ?_) fun F A' ⟨t', x2, x3, x4, x5, x6, x7, eF⟩ => ?_
    · subst eF
      refine ⟨rfl, [some (.frl (ns.map .int)), some (.ref tp), some d, x3, x4, x5, x6, x7], rfl, ?_⟩
      exact law_turn t' fun x3 x4 x5 x6 x7 A2 t2 => ⟨t2, _, _, _, _, _, _, rfl⟩
    · subst eF
      refine ⟨rfl, ?_⟩
      rw [wS_seq, wS_ret]
      exact rfl
  obtain ⟨a, A', e, rfl⟩ := eq_of_wR key
  exact ⟨A', e⟩
end K01

/-! ## K01Head -/
namespace K01
abbrev CALLS : Nat := 231
abbrev TURNS : Nat := 1000
open PySem PySem.Spec PyProof.Rows L2
/-! ### the head: facts by names, the run -/
def top (i : Nat) : Stmt := PySem.Challenge.pw_effecthouse_k01_parts_of_programs.main.body.getD i (.Pass ⟨0, 0, 0, 0⟩)
abbrev st_1 : Stmt := top 1
def d_1 : He.DefD := ⟨("parts_of", none), "parts_of", "parts_of", defArgs st_1, defBody st_1, defScope st_1, [], []⟩
abbrev st_2 : Stmt := top 2
def d_2 : He.DefD := ⟨("with_parts", none), "with_parts", "with_parts", defArgs st_2, defBody st_2, defScope st_2, [], []⟩
abbrev st_3 : Stmt := top 3
def d_3 : He.DefD := ⟨("bound_in", none), "bound_in", "bound_in", defArgs st_3, defBody st_3, defScope st_3, [], []⟩
abbrev st_4 : Stmt := top 4
def d_4 : He.DefD := ⟨("free_names", none), "free_names", "free_names", defArgs st_4, defBody st_4, defScope st_4, [], []⟩
abbrev st_5 : Stmt := top 5
def d_5 : He.DefD := ⟨("put_in", none), "put_in", "put_in", defArgs st_5, defBody st_5, defScope st_5, [], []⟩
abbrev st_6 : Stmt := top 6
def d_6 : He.DefD := ⟨("size", none), "size", "size", defArgs st_6, defBody st_6, defScope st_6, [], []⟩
abbrev st_7 : Stmt := top 7
def d_7 : He.DefD := ⟨("part_at", none), "part_at", "part_at", defArgs st_7, defBody st_7, defScope st_7, [], []⟩
abbrev st_8 : Stmt := top 8
def d_8 : He.DefD := ⟨("with_part", none), "with_part", "with_part", defArgs st_8, defBody st_8, defScope st_8, [], []⟩
abbrev st_9 : Stmt := top 9
def d_9 : He.DefD := ⟨("paths_of", none), "paths_of", "paths_of", defArgs st_9, defBody st_9, defScope st_9, [], []⟩
abbrev st_11 : Stmt := top 11
def d_11 : He.DefD := ⟨("_law_tape", none), "_law_tape", "_law_tape", defArgs st_11, defBody st_11, defScope st_11, [], []⟩
abbrev st_12 : Stmt := top 12
def d_12 : He.DefD := ⟨("_law_take", none), "_law_take", "_law_take", defArgs st_12, defBody st_12, defScope st_12, [], []⟩
abbrev st_13 : Stmt := top 13
def d_13 : He.DefD := ⟨("_law_is_integer", none), "_law_is_integer", "_law_is_integer", defArgs st_13, defBody st_13, defScope st_13, [], []⟩
abbrev st_14 : Stmt := top 14
def d_14 : He.DefD := ⟨("_law_same_items", none), "_law_same_items", "_law_same_items", defArgs st_14, defBody st_14, defScope st_14, [], []⟩
abbrev st_15 : Stmt := top 15
def d_15 : He.DefD := ⟨("_law_same", none), "_law_same", "_law_same", defArgs st_15, defBody st_15, defScope st_15, [], []⟩
abbrev st_16 : Stmt := top 16
def d_16 : He.DefD := ⟨("_law_leaf", none), "_law_leaf", "_law_leaf", defArgs st_16, defBody st_16, defScope st_16, [], []⟩
abbrev st_17 : Stmt := top 17
def d_17 : He.DefD := ⟨("_law_effect", none), "_law_effect", "_law_effect", defArgs st_17, defBody st_17, defScope st_17, [], []⟩
abbrev st_18 : Stmt := top 18
def d_18 : He.DefD := ⟨("_law_shape", none), "_law_shape", "_law_shape", defArgs st_18, defBody st_18, defScope st_18, [], []⟩
abbrev st_19 : Stmt := top 19
def d_19 : He.DefD := ⟨("_law_program", none), "_law_program", "_law_program", defArgs st_19, defBody st_19, defScope st_19, [], []⟩
abbrev st_20 : Stmt := top 20
def d_20 : He.DefD := ⟨("_law_parts", none), "_law_parts", "_law_parts", defArgs st_20, defBody st_20, defScope st_20, [], []⟩
abbrev st_21 : Stmt := top 21
def d_21 : He.DefD := ⟨("_law_bound", none), "_law_bound", "_law_bound", defArgs st_21, defBody st_21, defScope st_21, [], []⟩
abbrev st_22 : Stmt := top 22
def d_22 : He.DefD := ⟨("_law_with", none), "_law_with", "_law_with", defArgs st_22, defBody st_22, defScope st_22, [], []⟩
abbrev st_23 : Stmt := top 23
def d_23 : He.DefD := ⟨("_law_paths", none), "_law_paths", "_law_paths", defArgs st_23, defBody st_23, defScope st_23, [], []⟩
abbrev st_24 : Stmt := top 24
def d_24 : He.DefD := ⟨("_law_at", none), "_law_at", "_law_at", defArgs st_24, defBody st_24, defScope st_24, [], []⟩
abbrev st_25 : Stmt := top 25
def d_25 : He.DefD := ⟨("_law_set", none), "_law_set", "_law_set", defArgs st_25, defBody st_25, defScope st_25, [], []⟩
abbrev st_26 : Stmt := top 26
def d_26 : He.DefD := ⟨("_law_free", none), "_law_free", "_law_free", defArgs st_26, defBody st_26, defScope st_26, [], []⟩
abbrev st_27 : Stmt := top 27
def d_27 : He.DefD := ⟨("_law_put", none), "_law_put", "_law_put", defArgs st_27, defBody st_27, defScope st_27, [], []⟩
abbrev st_28 : Stmt := top 28
def d_28 : He.DefD := ⟨("law", none), "law", "law", defArgs st_28, defBody st_28, defScope st_28, [], []⟩
def fn : List He.DefD := ([d_1, d_2, d_3, d_4, d_5, d_6, d_7, d_8, d_9, d_11, d_12, d_13, d_14, d_15, d_16, d_17, d_18, d_19, d_20, d_21, d_22, d_23, d_24, d_25, d_26, d_27, d_28] : List He.DefD)
def fa : List He.Fa := ([.glo "parts_of", .glo "with_parts", .glo "bound_in", .glo "free_names", .glo "put_in", .glo "size", .glo "part_at", .glo "with_part", .glo "paths_of", .glo "_law_tape", .glo "_law_take", .glo "_law_is_integer", .glo "_law_same_items", .glo "_law_same", .glo "_law_leaf", .glo "_law_effect", .glo "_law_shape", .glo "_law_program", .glo "_law_parts", .glo "_law_bound", .glo "_law_with", .glo "_law_paths", .glo "_law_at", .glo "_law_set", .glo "_law_free", .glo "_law_put", .glo "law", .free "abs", .free "bool", .free "dict"] : List He.Fa) ++ ([.free "enumerate", .free "int", .free "isinstance", .free "len", .free "list", .free "range", .free "sorted", .free "str", .free "sum", .free "tuple", .free "zip"] : List He.Fa)
abbrev R : PySem.W.OpenRow := PySem.W.OpenLaw.row PySem.Challenge.rw_effecthouse_k01_parts_of_programs
abbrev hk : PySem.W.Hook := He.hookD 4 fa fn
def ob (s : PySem.W.SharedT) : He.AlD := He.obsDG 4 fa fn (HandSHeadRun.getT s)
theorem ob_eq (s : PySem.W.SharedT) : ob s = hk.obs s.abs := He.obsDG_eq (HandSHeadRun.getT_eq s)
def loose : List PySem.Str := (["parts_of", "with_parts", "bound_in", "free_names", "put_in", "size", "part_at", "with_part", "paths_of", "_law_tape", "_law_take", "_law_is_integer", "_law_same_items", "_law_same", "_law_leaf", "_law_effect", "_law_shape", "_law_program", "_law_parts", "_law_bound", "_law_with", "_law_paths", "_law_at", "_law_set", "_law_free", "_law_put"] : List PySem.Str)
theorem run (w : World) : HandSHeadRun.RunEq R (PySem.W.view R.prog [28]) hk ob 3000 loose w := by
  intro os
  kernel_rfl
/-! ### each def is the evaluator's -/
def fns : List String := (["parts_of", "with_parts", "bound_in", "free_names", "put_in", "size", "part_at", "with_part", "paths_of", "_law_tape", "_law_take", "_law_is_integer", "_law_same_items", "_law_same", "_law_leaf", "_law_effect", "_law_shape", "_law_program", "_law_parts", "_law_bound", "_law_with", "_law_paths", "_law_at", "_law_set", "_law_free", "_law_put", "law"] : List String)
def csts : List (String × Ev.D) := []
section
variable {K : PySem.W.Frag} {h : Heap} {mg : Str → Option Value}
def t_1 : Ev.FT := ⟨"parts_of", 1, ns_1, d_1⟩
theorem b_1 : Ev.rowB pg fns csts t_1 = true := by decide +kernel
theorem ro_1 (X : K.In h) (G : h.Ns mainGlobals mg) (c : He.SaysD fa fn K) : Ev.RowOk K mg pg fns csts t_1 := by
  obtain ⟨fd, F⟩ := c.def_ 0 (d := d_1) rfl
  exact ⟨⟨_, fd, _, _, He.glo_ok X G (c.fact 0 (f := .glo "parts_of") rfl), F, F.bindsN fun _ _ _ _ _ _ us hl => match us, hl with | [_], _ => rfl⟩, ⟨rfl, rfl, rfl, by decide +kernel, rfl, by decide +kernel, by decide +kernel⟩, b_1⟩
def t_2 : Ev.FT := ⟨"with_parts", 2, ns_2, d_2⟩
theorem b_2 : Ev.rowB pg fns csts t_2 = true := by decide +kernel
theorem ro_2 (X : K.In h) (G : h.Ns mainGlobals mg) (c : He.SaysD fa fn K) : Ev.RowOk K mg pg fns csts t_2 := by
  obtain ⟨fd, F⟩ := c.def_ 1 (d := d_2) rfl
  exact ⟨⟨_, fd, _, _, He.glo_ok X G (c.fact 1 (f := .glo "with_parts") rfl), F, F.bindsN fun _ _ _ _ _ _ us hl => match us, hl with | [_, _], _ => rfl⟩, ⟨rfl, rfl, rfl, by decide +kernel, rfl, by decide +kernel, by decide +kernel⟩, b_2⟩
def t_3 : Ev.FT := ⟨"bound_in", 2, ns_3, d_3⟩
theorem b_3 : Ev.rowB pg fns csts t_3 = true := by decide +kernel
theorem ro_3 (X : K.In h) (G : h.Ns mainGlobals mg) (c : He.SaysD fa fn K) : Ev.RowOk K mg pg fns csts t_3 := by
  obtain ⟨fd, F⟩ := c.def_ 2 (d := d_3) rfl
  exact ⟨⟨_, fd, _, _, He.glo_ok X G (c.fact 2 (f := .glo "bound_in") rfl), F, F.bindsN fun _ _ _ _ _ _ us hl => match us, hl with | [_, _], _ => rfl⟩, ⟨rfl, rfl, rfl, by decide +kernel, rfl, by decide +kernel, by decide +kernel⟩, b_3⟩
def t_4 : Ev.FT := ⟨"free_names", 1, ns_4, d_4⟩
theorem b_4 : Ev.rowB pg fns csts t_4 = true := by decide +kernel
theorem ro_4 (X : K.In h) (G : h.Ns mainGlobals mg) (c : He.SaysD fa fn K) : Ev.RowOk K mg pg fns csts t_4 := by
  obtain ⟨fd, F⟩ := c.def_ 3 (d := d_4) rfl
  exact ⟨⟨_, fd, _, _, He.glo_ok X G (c.fact 3 (f := .glo "free_names") rfl), F, F.bindsN fun _ _ _ _ _ _ us hl => match us, hl with | [_], _ => rfl⟩, ⟨rfl, rfl, rfl, by decide +kernel, rfl, by decide +kernel, by decide +kernel⟩, b_4⟩
def t_5 : Ev.FT := ⟨"put_in", 2, ns_5, d_5⟩
theorem b_5 : Ev.rowB pg fns csts t_5 = true := by decide +kernel
theorem ro_5 (X : K.In h) (G : h.Ns mainGlobals mg) (c : He.SaysD fa fn K) : Ev.RowOk K mg pg fns csts t_5 := by
  obtain ⟨fd, F⟩ := c.def_ 4 (d := d_5) rfl
  exact ⟨⟨_, fd, _, _, He.glo_ok X G (c.fact 4 (f := .glo "put_in") rfl), F, F.bindsN fun _ _ _ _ _ _ us hl => match us, hl with | [_, _], _ => rfl⟩, ⟨rfl, rfl, rfl, by decide +kernel, rfl, by decide +kernel, by decide +kernel⟩, b_5⟩
def t_6 : Ev.FT := ⟨"size", 1, ns_6, d_6⟩
theorem b_6 : Ev.rowB pg fns csts t_6 = true := by decide +kernel
theorem ro_6 (X : K.In h) (G : h.Ns mainGlobals mg) (c : He.SaysD fa fn K) : Ev.RowOk K mg pg fns csts t_6 := by
  obtain ⟨fd, F⟩ := c.def_ 5 (d := d_6) rfl
  exact ⟨⟨_, fd, _, _, He.glo_ok X G (c.fact 5 (f := .glo "size") rfl), F, F.bindsN fun _ _ _ _ _ _ us hl => match us, hl with | [_], _ => rfl⟩, ⟨rfl, rfl, rfl, by decide +kernel, rfl, by decide +kernel, by decide +kernel⟩, b_6⟩
def t_7 : Ev.FT := ⟨"part_at", 2, ns_7, d_7⟩
theorem b_7 : Ev.rowB pg fns csts t_7 = true := by decide +kernel
theorem ro_7 (X : K.In h) (G : h.Ns mainGlobals mg) (c : He.SaysD fa fn K) : Ev.RowOk K mg pg fns csts t_7 := by
  obtain ⟨fd, F⟩ := c.def_ 6 (d := d_7) rfl
  exact ⟨⟨_, fd, _, _, He.glo_ok X G (c.fact 6 (f := .glo "part_at") rfl), F, F.bindsN fun _ _ _ _ _ _ us hl => match us, hl with | [_, _], _ => rfl⟩, ⟨rfl, rfl, rfl, by decide +kernel, rfl, by decide +kernel, by decide +kernel⟩, b_7⟩
def t_8 : Ev.FT := ⟨"with_part", 3, ns_8, d_8⟩
theorem b_8 : Ev.rowB pg fns csts t_8 = true := by decide +kernel
theorem ro_8 (X : K.In h) (G : h.Ns mainGlobals mg) (c : He.SaysD fa fn K) : Ev.RowOk K mg pg fns csts t_8 := by
  obtain ⟨fd, F⟩ := c.def_ 7 (d := d_8) rfl
  exact ⟨⟨_, fd, _, _, He.glo_ok X G (c.fact 7 (f := .glo "with_part") rfl), F, F.bindsN fun _ _ _ _ _ _ us hl => match us, hl with | [_, _, _], _ => rfl⟩, ⟨rfl, rfl, rfl, by decide +kernel, rfl, by decide +kernel, by decide +kernel⟩, b_8⟩
def t_9 : Ev.FT := ⟨"paths_of", 1, ns_9, d_9⟩
theorem b_9 : Ev.rowB pg fns csts t_9 = true := by decide +kernel
theorem ro_9 (X : K.In h) (G : h.Ns mainGlobals mg) (c : He.SaysD fa fn K) : Ev.RowOk K mg pg fns csts t_9 := by
  obtain ⟨fd, F⟩ := c.def_ 8 (d := d_9) rfl
  exact ⟨⟨_, fd, _, _, He.glo_ok X G (c.fact 8 (f := .glo "paths_of") rfl), F, F.bindsN fun _ _ _ _ _ _ us hl => match us, hl with | [_], _ => rfl⟩, ⟨rfl, rfl, rfl, by decide +kernel, rfl, by decide +kernel, by decide +kernel⟩, b_9⟩
def t_11 : Ev.FT := ⟨"_law_tape", 1, ns_11, d_11⟩
theorem b_11 : Ev.rowB pg fns csts t_11 = true := by decide +kernel
theorem ro_11 (X : K.In h) (G : h.Ns mainGlobals mg) (c : He.SaysD fa fn K) : Ev.RowOk K mg pg fns csts t_11 := by
  obtain ⟨fd, F⟩ := c.def_ 9 (d := d_11) rfl
  exact ⟨⟨_, fd, _, _, He.glo_ok X G (c.fact 9 (f := .glo "_law_tape") rfl), F, F.bindsN fun _ _ _ _ _ _ us hl => match us, hl with | [_], _ => rfl⟩, ⟨rfl, rfl, rfl, by decide +kernel, rfl, by decide +kernel, by decide +kernel⟩, b_11⟩
def t_12 : Ev.FT := ⟨"_law_take", 2, ns_12, d_12⟩
theorem b_12 : Ev.rowB pg fns csts t_12 = true := by decide +kernel
theorem ro_12 (X : K.In h) (G : h.Ns mainGlobals mg) (c : He.SaysD fa fn K) : Ev.RowOk K mg pg fns csts t_12 := by
  obtain ⟨fd, F⟩ := c.def_ 10 (d := d_12) rfl
  exact ⟨⟨_, fd, _, _, He.glo_ok X G (c.fact 10 (f := .glo "_law_take") rfl), F, F.bindsN fun _ _ _ _ _ _ us hl => match us, hl with | [_, _], _ => rfl⟩, ⟨rfl, rfl, rfl, by decide +kernel, rfl, by decide +kernel, by decide +kernel⟩, b_12⟩
def t_13 : Ev.FT := ⟨"_law_is_integer", 1, ns_13, d_13⟩
theorem b_13 : Ev.rowB pg fns csts t_13 = true := by decide +kernel
theorem ro_13 (X : K.In h) (G : h.Ns mainGlobals mg) (c : He.SaysD fa fn K) : Ev.RowOk K mg pg fns csts t_13 := by
  obtain ⟨fd, F⟩ := c.def_ 11 (d := d_13) rfl
  exact ⟨⟨_, fd, _, _, He.glo_ok X G (c.fact 11 (f := .glo "_law_is_integer") rfl), F, F.bindsN fun _ _ _ _ _ _ us hl => match us, hl with | [_], _ => rfl⟩, ⟨rfl, rfl, rfl, by decide +kernel, rfl, by decide +kernel, by decide +kernel⟩, b_13⟩
def t_14 : Ev.FT := ⟨"_law_same_items", 2, ns_14, d_14⟩
theorem b_14 : Ev.rowB pg fns csts t_14 = true := by decide +kernel
theorem ro_14 (X : K.In h) (G : h.Ns mainGlobals mg) (c : He.SaysD fa fn K) : Ev.RowOk K mg pg fns csts t_14 := by
  obtain ⟨fd, F⟩ := c.def_ 12 (d := d_14) rfl
  exact ⟨⟨_, fd, _, _, He.glo_ok X G (c.fact 12 (f := .glo "_law_same_items") rfl), F, F.bindsN fun _ _ _ _ _ _ us hl => match us, hl with | [_, _], _ => rfl⟩, ⟨rfl, rfl, rfl, by decide +kernel, rfl, by decide +kernel, by decide +kernel⟩, b_14⟩
def t_15 : Ev.FT := ⟨"_law_same", 2, ns_15, d_15⟩
theorem b_15 : Ev.rowB pg fns csts t_15 = true := by decide +kernel
theorem ro_15 (X : K.In h) (G : h.Ns mainGlobals mg) (c : He.SaysD fa fn K) : Ev.RowOk K mg pg fns csts t_15 := by
  obtain ⟨fd, F⟩ := c.def_ 13 (d := d_15) rfl
  exact ⟨⟨_, fd, _, _, He.glo_ok X G (c.fact 13 (f := .glo "_law_same") rfl), F, F.bindsN fun _ _ _ _ _ _ us hl => match us, hl with | [_, _], _ => rfl⟩, ⟨rfl, rfl, rfl, by decide +kernel, rfl, by decide +kernel, by decide +kernel⟩, b_15⟩
def t_16 : Ev.FT := ⟨"_law_leaf", 2, ns_16, d_16⟩
theorem b_16 : Ev.rowB pg fns csts t_16 = true := by decide +kernel
theorem ro_16 (X : K.In h) (G : h.Ns mainGlobals mg) (c : He.SaysD fa fn K) : Ev.RowOk K mg pg fns csts t_16 := by
  obtain ⟨fd, F⟩ := c.def_ 14 (d := d_16) rfl
  exact ⟨⟨_, fd, _, _, He.glo_ok X G (c.fact 14 (f := .glo "_law_leaf") rfl), F, F.bindsN fun _ _ _ _ _ _ us hl => match us, hl with | [_, _], _ => rfl⟩, ⟨rfl, rfl, rfl, by decide +kernel, rfl, by decide +kernel, by decide +kernel⟩, b_16⟩
def t_17 : Ev.FT := ⟨"_law_effect", 3, ns_17, d_17⟩
theorem b_17 : Ev.rowB pg fns csts t_17 = true := by decide +kernel
theorem ro_17 (X : K.In h) (G : h.Ns mainGlobals mg) (c : He.SaysD fa fn K) : Ev.RowOk K mg pg fns csts t_17 := by
  obtain ⟨fd, F⟩ := c.def_ 15 (d := d_17) rfl
  exact ⟨⟨_, fd, _, _, He.glo_ok X G (c.fact 15 (f := .glo "_law_effect") rfl), F, F.bindsN fun _ _ _ _ _ _ us hl => match us, hl with | [_, _, _], _ => rfl⟩, ⟨rfl, rfl, rfl, by decide +kernel, rfl, by decide +kernel, by decide +kernel⟩, b_17⟩
def t_18 : Ev.FT := ⟨"_law_shape", 3, ns_18, d_18⟩
theorem b_18 : Ev.rowB pg fns csts t_18 = true := by decide +kernel
theorem ro_18 (X : K.In h) (G : h.Ns mainGlobals mg) (c : He.SaysD fa fn K) : Ev.RowOk K mg pg fns csts t_18 := by
  obtain ⟨fd, F⟩ := c.def_ 16 (d := d_18) rfl
  exact ⟨⟨_, fd, _, _, He.glo_ok X G (c.fact 16 (f := .glo "_law_shape") rfl), F, F.bindsN fun _ _ _ _ _ _ us hl => match us, hl with | [_, _, _], _ => rfl⟩, ⟨rfl, rfl, rfl, by decide +kernel, rfl, by decide +kernel, by decide +kernel⟩, b_18⟩
def t_19 : Ev.FT := ⟨"_law_program", 3, ns_19, d_19⟩
theorem b_19 : Ev.rowB pg fns csts t_19 = true := by decide +kernel
theorem ro_19 (X : K.In h) (G : h.Ns mainGlobals mg) (c : He.SaysD fa fn K) : Ev.RowOk K mg pg fns csts t_19 := by
  obtain ⟨fd, F⟩ := c.def_ 17 (d := d_19) rfl
  exact ⟨⟨_, fd, _, _, He.glo_ok X G (c.fact 17 (f := .glo "_law_program") rfl), F, F.bindsN fun _ _ _ _ _ _ us hl => match us, hl with | [_, _, _], _ => rfl⟩, ⟨rfl, rfl, rfl, by decide +kernel, rfl, by decide +kernel, by decide +kernel⟩, b_19⟩
def t_20 : Ev.FT := ⟨"_law_parts", 1, ns_20, d_20⟩
theorem b_20 : Ev.rowB pg fns csts t_20 = true := by decide +kernel
theorem ro_20 (X : K.In h) (G : h.Ns mainGlobals mg) (c : He.SaysD fa fn K) : Ev.RowOk K mg pg fns csts t_20 := by
  obtain ⟨fd, F⟩ := c.def_ 18 (d := d_20) rfl
  exact ⟨⟨_, fd, _, _, He.glo_ok X G (c.fact 18 (f := .glo "_law_parts") rfl), F, F.bindsN fun _ _ _ _ _ _ us hl => match us, hl with | [_], _ => rfl⟩, ⟨rfl, rfl, rfl, by decide +kernel, rfl, by decide +kernel, by decide +kernel⟩, b_20⟩
def t_21 : Ev.FT := ⟨"_law_bound", 2, ns_21, d_21⟩
theorem b_21 : Ev.rowB pg fns csts t_21 = true := by decide +kernel
theorem ro_21 (X : K.In h) (G : h.Ns mainGlobals mg) (c : He.SaysD fa fn K) : Ev.RowOk K mg pg fns csts t_21 := by
  obtain ⟨fd, F⟩ := c.def_ 19 (d := d_21) rfl
  exact ⟨⟨_, fd, _, _, He.glo_ok X G (c.fact 19 (f := .glo "_law_bound") rfl), F, F.bindsN fun _ _ _ _ _ _ us hl => match us, hl with | [_, _], _ => rfl⟩, ⟨rfl, rfl, rfl, by decide +kernel, rfl, by decide +kernel, by decide +kernel⟩, b_21⟩
def t_22 : Ev.FT := ⟨"_law_with", 2, ns_22, d_22⟩
theorem b_22 : Ev.rowB pg fns csts t_22 = true := by decide +kernel
theorem ro_22 (X : K.In h) (G : h.Ns mainGlobals mg) (c : He.SaysD fa fn K) : Ev.RowOk K mg pg fns csts t_22 := by
  obtain ⟨fd, F⟩ := c.def_ 20 (d := d_22) rfl
  exact ⟨⟨_, fd, _, _, He.glo_ok X G (c.fact 20 (f := .glo "_law_with") rfl), F, F.bindsN fun _ _ _ _ _ _ us hl => match us, hl with | [_, _], _ => rfl⟩, ⟨rfl, rfl, rfl, by decide +kernel, rfl, by decide +kernel, by decide +kernel⟩, b_22⟩
def t_23 : Ev.FT := ⟨"_law_paths", 1, ns_23, d_23⟩
theorem b_23 : Ev.rowB pg fns csts t_23 = true := by decide +kernel
theorem ro_23 (X : K.In h) (G : h.Ns mainGlobals mg) (c : He.SaysD fa fn K) : Ev.RowOk K mg pg fns csts t_23 := by
  obtain ⟨fd, F⟩ := c.def_ 21 (d := d_23) rfl
  exact ⟨⟨_, fd, _, _, He.glo_ok X G (c.fact 21 (f := .glo "_law_paths") rfl), F, F.bindsN fun _ _ _ _ _ _ us hl => match us, hl with | [_], _ => rfl⟩, ⟨rfl, rfl, rfl, by decide +kernel, rfl, by decide +kernel, by decide +kernel⟩, b_23⟩
def t_24 : Ev.FT := ⟨"_law_at", 2, ns_24, d_24⟩
theorem b_24 : Ev.rowB pg fns csts t_24 = true := by decide +kernel
theorem ro_24 (X : K.In h) (G : h.Ns mainGlobals mg) (c : He.SaysD fa fn K) : Ev.RowOk K mg pg fns csts t_24 := by
  obtain ⟨fd, F⟩ := c.def_ 22 (d := d_24) rfl
  exact ⟨⟨_, fd, _, _, He.glo_ok X G (c.fact 22 (f := .glo "_law_at") rfl), F, F.bindsN fun _ _ _ _ _ _ us hl => match us, hl with | [_, _], _ => rfl⟩, ⟨rfl, rfl, rfl, by decide +kernel, rfl, by decide +kernel, by decide +kernel⟩, b_24⟩
def t_25 : Ev.FT := ⟨"_law_set", 3, ns_25, d_25⟩
theorem b_25 : Ev.rowB pg fns csts t_25 = true := by decide +kernel
theorem ro_25 (X : K.In h) (G : h.Ns mainGlobals mg) (c : He.SaysD fa fn K) : Ev.RowOk K mg pg fns csts t_25 := by
  obtain ⟨fd, F⟩ := c.def_ 23 (d := d_25) rfl
  exact ⟨⟨_, fd, _, _, He.glo_ok X G (c.fact 23 (f := .glo "_law_set") rfl), F, F.bindsN fun _ _ _ _ _ _ us hl => match us, hl with | [_, _, _], _ => rfl⟩, ⟨rfl, rfl, rfl, by decide +kernel, rfl, by decide +kernel, by decide +kernel⟩, b_25⟩
def t_26 : Ev.FT := ⟨"_law_free", 1, ns_26, d_26⟩
theorem b_26 : Ev.rowB pg fns csts t_26 = true := by decide +kernel
theorem ro_26 (X : K.In h) (G : h.Ns mainGlobals mg) (c : He.SaysD fa fn K) : Ev.RowOk K mg pg fns csts t_26 := by
  obtain ⟨fd, F⟩ := c.def_ 24 (d := d_26) rfl
  exact ⟨⟨_, fd, _, _, He.glo_ok X G (c.fact 24 (f := .glo "_law_free") rfl), F, F.bindsN fun _ _ _ _ _ _ us hl => match us, hl with | [_], _ => rfl⟩, ⟨rfl, rfl, rfl, by decide +kernel, rfl, by decide +kernel, by decide +kernel⟩, b_26⟩
def t_27 : Ev.FT := ⟨"_law_put", 2, ns_27, d_27⟩
theorem b_27 : Ev.rowB pg fns csts t_27 = true := by decide +kernel
theorem ro_27 (X : K.In h) (G : h.Ns mainGlobals mg) (c : He.SaysD fa fn K) : Ev.RowOk K mg pg fns csts t_27 := by
  obtain ⟨fd, F⟩ := c.def_ 25 (d := d_27) rfl
  exact ⟨⟨_, fd, _, _, He.glo_ok X G (c.fact 25 (f := .glo "_law_put") rfl), F, F.bindsN fun _ _ _ _ _ _ us hl => match us, hl with | [_, _], _ => rfl⟩, ⟨rfl, rfl, rfl, by decide +kernel, rfl, by decide +kernel, by decide +kernel⟩, b_27⟩
def t_28 : Ev.FT := ⟨"law", 1, ns_28, d_28⟩
theorem b_28 : Ev.rowB pg fns csts t_28 = true := by decide +kernel
theorem ro_28 (X : K.In h) (G : h.Ns mainGlobals mg) (c : He.SaysD fa fn K) : Ev.RowOk K mg pg fns csts t_28 := by
  obtain ⟨fd, F⟩ := c.def_ 26 (d := d_28) rfl
  exact ⟨⟨_, fd, _, _, He.glo_ok X G (c.fact 26 (f := .glo "law") rfl), F, F.bindsN fun _ _ _ _ _ _ us hl => match us, hl with | [_], _ => rfl⟩, ⟨rfl, rfl, rfl, by decide +kernel, rfl, by decide +kernel, by decide +kernel⟩, b_28⟩
def rows : List Ev.FT := ([t_1, t_2, t_3, t_4, t_5, t_6, t_7, t_8, t_9, t_11, t_12, t_13, t_14, t_15, t_16, t_17, t_18, t_19, t_20, t_21, t_22, t_23, t_24, t_25, t_26, t_27, t_28] : List Ev.FT)
theorem ro (X : K.In h) (G : h.Ns mainGlobals mg) (c : He.SaysD fa fn K) : ∀ t ∈ rows, Ev.RowOk K mg pg fns csts t := by
  intro t ht
  simp only [rows, List.mem_append, List.mem_cons, List.not_mem_nil, or_false, or_assoc] at ht
  rcases ht with ht | ht | ht | ht | ht | ht | ht | ht | ht | ht | ht | ht | ht | ht | ht | ht | ht | ht | ht | ht | ht | ht | ht | ht | ht | ht | ht
  · subst ht; exact ro_1 X G c
  · subst ht; exact ro_2 X G c
  · subst ht; exact ro_3 X G c
  · subst ht; exact ro_4 X G c
  · subst ht; exact ro_5 X G c
  · subst ht; exact ro_6 X G c
  · subst ht; exact ro_7 X G c
  · subst ht; exact ro_8 X G c
  · subst ht; exact ro_9 X G c
  · subst ht; exact ro_11 X G c
  · subst ht; exact ro_12 X G c
  · subst ht; exact ro_13 X G c
  · subst ht; exact ro_14 X G c
  · subst ht; exact ro_15 X G c
  · subst ht; exact ro_16 X G c
  · subst ht; exact ro_17 X G c
  · subst ht; exact ro_18 X G c
  · subst ht; exact ro_19 X G c
  · subst ht; exact ro_20 X G c
  · subst ht; exact ro_21 X G c
  · subst ht; exact ro_22 X G c
  · subst ht; exact ro_23 X G c
  · subst ht; exact ro_24 X G c
  · subst ht; exact ro_25 X G c
  · subst ht; exact ro_26 X G c
  · subst ht; exact ro_27 X G c
  · subst ht; exact ro_28 X G c
theorem bn (X : K.In h) (G : h.Ns mainGlobals mg) (c : He.SaysD fa fn K) : ∀ x ∈ Ev.biNames ++ Ev.tyBi ++ ["enumerate", "zip", "range"] ++ Ev.tyNames, mg (Str.ofString x) = none := by
  intro x hx
  have hx : x = "len" ∨ x = "abs" ∨ x = "isinstance" ∨ x = "sum" ∨ x = "sorted" ∨ x = "tuple" ∨ x = "list" ∨ x = "dict" ∨ x = "int" ∨ x = "enumerate" ∨ x = "zip" ∨ x = "range" ∨ x = "bool" ∨ x = "int" ∨ x = "str" ∨ x = "tuple" ∨ x = "list" ∨ x = "dict" := by simpa [Ev.biNames, Ev.tyBi, Ev.tyNames] using hx
  rcases hx with rfl | rfl | rfl | rfl | rfl | rfl | rfl | rfl | rfl | rfl | rfl | rfl | rfl | rfl | rfl | rfl | rfl | rfl
  · exact He.free_ok X G (c.fact 33 (f := .free "len") rfl)
  · exact He.free_ok X G (c.fact 27 (f := .free "abs") rfl)
  · exact He.free_ok X G (c.fact 32 (f := .free "isinstance") rfl)
  · exact He.free_ok X G (c.fact 38 (f := .free "sum") rfl)
  · exact He.free_ok X G (c.fact 36 (f := .free "sorted") rfl)
  · exact He.free_ok X G (c.fact 39 (f := .free "tuple") rfl)
  · exact He.free_ok X G (c.fact 34 (f := .free "list") rfl)
  · exact He.free_ok X G (c.fact 29 (f := .free "dict") rfl)
  · exact He.free_ok X G (c.fact 31 (f := .free "int") rfl)
  · exact He.free_ok X G (c.fact 30 (f := .free "enumerate") rfl)
  · exact He.free_ok X G (c.fact 40 (f := .free "zip") rfl)
  · exact He.free_ok X G (c.fact 35 (f := .free "range") rfl)
  · exact He.free_ok X G (c.fact 28 (f := .free "bool") rfl)
  · exact He.free_ok X G (c.fact 31 (f := .free "int") rfl)
  · exact He.free_ok X G (c.fact 37 (f := .free "str") rfl)
  · exact He.free_ok X G (c.fact 39 (f := .free "tuple") rfl)
  · exact He.free_ok X G (c.fact 34 (f := .free "list") rfl)
  · exact He.free_ok X G (c.fact 29 (f := .free "dict") rfl)
theorem facts {P : Program} {w : World} {f : Addr} (X : K.In h) (G : h.Ns mainGlobals mg) (hfa : mg ("law" : Str) = some (.ref f)) (c : He.SaysD fa fn K) :
    ∃ fd : FuncData, (∀ (s : Shared) (v : Value), BindsTo s fd ⟨[v], []⟩ [("script", v)]) ∧ ∀ base : Heap, K.In base → base.Ns mainGlobals mg → FnOk P w K mg base (Ev.CXw P) CALLS f fd ["script"] (Ev.spEv ⟨K, mg⟩ (Ev.callF pg TURNS CALLS) "law") := by
  obtain ⟨fd, F⟩ := c.def_ 26 (d := d_28) rfl
  have e := hfa.symm.trans (He.glo_ok X G (c.fact 26 (f := .glo "law") rfl))
  cases e
  have b := FunD.bindsA (ps := ["script"]) F fun _ _ _ _ _ _ us hl => match us, hl with | [_], _ => rfl
  refine ⟨fd, fun s v => b s [v] rfl, fun base _ _ => ?_⟩
  have fb : Ev.FreeB mg := fun t ht => bn X G c t (List.mem_append_right _ ht)
  have hbn := fun x hx => bn X G c x (List.mem_append_left Ev.tyNames hx)
  have hcs : ∀ p ∈ csts, ∃ v u, mg (Str.ofString p.1) = some u ∧ RelV v u ∧ ∀ φ H, Ev.Rep ⟨K, mg⟩ φ H p.2 v := fun p hp => by cases hp
  exact Ev.cxw_of (Ev.fn_law (t := t_28) fb hbn hcs (fun A hr f hm => Ev.fns_ok (rows := rows) fb hbn hcs rfl (ro X G c) _ A hr f hm) F (ro_28 X G c).S b_28)
end
def endLaw (ns : List Int) : Prop := ∃ A1, Ev.callF pg TURNS CALLS "law" [.frl (ns.map .int)] [] = .ok (.bl true) A1
theorem law_end (ns : List Int) (h : ns.length ≤ 63) : endLaw ns := law_pure TURNS ns h
end K01
open PySem PySem.W PySem.Calls PyProof.Rows
theorem PySem.Challenge.cw_effecthouse_k01_parts_of_programs_holds : PySem.Challenge.rw_effecthouse_k01_parts_of_programs.Holds := by
  w_on; o_law
  refine HandSHeadRun.head_any (r := OpenLaw.row PySem.Challenge.rw_effecthouse_k01_parts_of_programs) (q := view (OpenLaw.row PySem.Challenge.rw_effecthouse_k01_parts_of_programs).prog [28]) (H := K01.hk) (ob := K01.ob) (M := 3000) (loose := K01.loose) (d := HandSHeadRun.topDef (OpenLaw.row PySem.Challenge.rw_effecthouse_k01_parts_of_programs).prog 28) (kwd := []) K01.ob_eq
    (by kernel_rfl) (fun s => by kernel_rfl) K01.run (by kernel_rfl) (by kernel_rfl) (by kernel_rfl) (by rfl) (by first | assumption | decide +kernel) (by decide +kernel) ⟨rfl, rfl, rfl, rfl, rfl, by decide +kernel⟩ ?hw ?hc
  case hw => w_witness2
  case hc =>
    refine L2.walk_ofE (l := PySem.Challenge.rw_effecthouse_k01_parts_of_programs) (n := 63) (k := K01.CALLS) (x := "script") (CX := Ev.CXw (PySem.Challenge.rw_effecthouse_k01_parts_of_programs).prog) rfl (by decide) (by kernel_rfl) ⟨rfl, by decide, by decide⟩ ?F ?G
    case G => exact fun H s e s' z => Ev.noex z
    intro w mg fa h Y G hmg0
    obtain ⟨K, KX, c⟩ := Y
    have hmg : mg ("law" : PySem.Str) = some (.ref fa) := by
      have e : (HandSHeadRun.topDef (OpenLaw.row PySem.Challenge.rw_effecthouse_k01_parts_of_programs).prog 28).name = ("law" : PySem.Str) := by kernel_rfl
      rw [← e]
      exact hmg0
    obtain ⟨fd, hb, hF⟩ := K01.facts (P := (PySem.Challenge.rw_effecthouse_k01_parts_of_programs).prog) (w := w) KX G hmg c
    exact ⟨K, fd, _, KX, hb, fun H a ns hl hO hS => Ev.law_of (t := K01.t_28) (pg := K01.pg) (NN := K01.TURNS) (n := K01.CALLS) hO hS (K01.law_end ns hl), hF⟩

