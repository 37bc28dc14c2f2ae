import PyProof.Rows.All
import Wide.All
import OpenK.AllK
import Wide.FinOn
import HandS.List
import HandS.Base
import HandS.Call
import HandS.Exc
import HandS.CallSlots
import HandS.Defaults
import KE.KExcSuper
import HandS.ExcInit
import HandS.Comp
import HandS.Dict
import HandS.Iter
import HandS.TupMul
import HandS.TupAny
import HandS.IsInst
import HandS.More
import HandS.Flow
import KE.KEqDict
import HandS.DictComp
import HandS.Deep
import KE.GoesMore
import KE.GoesZip
import KE.GoesEnum
import HandS.Style
import HandS.TryOnly
import HandS.ExcOwn
import HandS.HeadEnd
import HandS.HeadHook2
import KE.KStateDown
import HandS.Ends
import HandS.Words
import HandS.WordsExc
import HandS.Head0
import HandS.Head1
import HandS.Head2
import HandS.HeadHook1
import PySem.Challenge.RW_effecthouse_k26_whole_patterns
set_option Elab.async false
set_option linter.all false
set_option maxRecDepth 100000
set_option maxHeartbeats 4000000
/-! ## EvCore -/
/-! EvCore: values, heaps, terms, the evaluator. -/
namespace Ev
open PySem

/-- values: tuples are trees; frl: a list that is only read (the script); ref: an object of the evaluator's own heap; gl: what a module's name stands for -/
inductive D where
  | non | bl (b : Bool) | int (i : Int) | str (s : String) | tup (xs : List D) | frl (xs : List D) | ref (n : Nat) | gl (x : String)
  deriving Inhabited

mutual
def D.beq : D → D → Bool
  | .non, .non => true
  | .bl a, .bl b => a == b
  | .int a, .int b => a == b
  | .str a, .str b => a == b
  | .tup xs, .tup ys => D.beqs xs ys
  | .frl xs, .frl ys => D.beqs xs ys
  | .ref a, .ref b => a == b
  | .gl a, .gl b => a == b
  | _, _ => false
def D.beqs : List D → List D → Bool
  | [], [] => true
  | a :: r, b :: s => D.beq a b && D.beqs r s
  | _, _ => false
end
mutual
theorem D.beq_eq : ∀ a b : D, D.beq a b = true → a = b
  | .non, b, h => by cases b <;> simp_all [D.beq]
  | .bl a, b, h => by cases b <;> simp_all [D.beq]
  | .int a, b, h => by cases b <;> simp_all [D.beq]
  | .str a, b, h => by cases b <;> simp_all [D.beq]
  | .tup xs, b, h => by
    cases b with
    | tup ys => rw [D.beqs_eq xs ys (by simpa [D.beq] using h)]
    | _ => simp [D.beq] at h
  | .frl xs, b, h => by
    cases b with
    | frl ys => rw [D.beqs_eq xs ys (by simpa [D.beq] using h)]
    | _ => simp [D.beq] at h
  | .ref a, b, h => by cases b <;> simp_all [D.beq]
  | .gl a, b, h => by cases b <;> simp_all [D.beq]
theorem D.beqs_eq : ∀ a b : List D, D.beqs a b = true → a = b
  | [], b, h => by cases b <;> simp_all [D.beqs]
  | a :: r, b, h => by
    cases b with
    | nil => simp [D.beqs] at h
    | cons c s =>
      have h' : D.beq a c = true ∧ D.beqs r s = true := by simpa [D.beqs] using h
      rw [D.beq_eq a c h'.1, D.beqs_eq r s h'.2]
end
mutual
theorem D.beq_refl : ∀ a : D, D.beq a a = true
  | .non => rfl
  | .bl a => by simp [D.beq]
  | .int a => by simp [D.beq]
  | .str a => by simp [D.beq]
  | .tup xs => by simp [D.beq, D.beqs_refl xs]
  | .frl xs => by simp [D.beq, D.beqs_refl xs]
  | .ref a => by simp [D.beq]
  | .gl a => by simp [D.beq]
theorem D.beqs_refl : ∀ a : List D, D.beqs a a = true
  | [] => rfl
  | a :: r => by simp [D.beqs, D.beq_refl a, D.beqs_refl r]
end
instance : DecidableEq D := fun a b => match h : D.beq a b with
  | true => isTrue (D.beq_eq a b h)
  | false => isFalse fun e => by rw [e, D.beq_refl] at h; cases h

/-- objects: a list, a dict, a dict that is walked, an instance -/
inductive AO where
  | lst (xs : List D) | dct (kvs : List (D × D)) | lk (kvs : List (D × D)) | ins (c : String) (fs : List (String × D))
  deriving Inhabited, DecidableEq
abbrev AH := List AO
structure Xc where
  cls : String
  fs : List (String × D)

inductive Res (α : Type) where
  | ok (a : α) (A : AH) | exc (x : Xc) (A : AH) | no
abbrev Fr := List (Option D)
/-- a statement's end -/
inductive SR where
  | nx (F : Fr) (A : AH) | bk (F : Fr) (A : AH) | ct (F : Fr) (A : AH) | rt (d : D) (A : AH) | exc (x : Xc) (F : Fr) (A : AH) | no

def bnd {α β : Type} (r : Res α) (f : α → AH → Res β) : Res β := match r with
  | .ok a A => f a A
  | .exc x A => .exc x A
  | .no => .no
/-- a value on the way to a statement's end -/
def bns {α : Type} (F : Fr) (r : Res α) (f : α → AH → SR) : SR := match r with
  | .ok a A => f a A
  | .exc x A => .exc x F A
  | .no => .no
def ofO {α : Type} (o : Option α) (A : AH) : Res α := match o with
  | some a => .ok a A
  | none => .no

inductive BOp where
  | add | sub | mul | fdiv | mod
  deriving DecidableEq
inductive COp where
  | eq | ne | lt | le | gt | ge | is | isnt | mem | nmem
  deriving DecidableEq
/-- what is stored to -/
inductive Tg where
  | nm (i : Nat) | tu (ts : Tg) | nil | cons (a r : Tg)

inductive Ex where
  | var (i : Nat)
  | int (i : Int) | str (s : String) | bl (b : Bool) | non
  | gl (x : String) | cst (x : String) (d : D)
  | tup (es : Ex) | lst (es : Ex) | dct (es : Ex)
  | nil | cons (a r : Ex)
  | op (o : BOp) (a b : Ex) | neg (a : Ex)
  | cmp (o : COp) (a b : Ex) | chn (o p : COp) (a b c : Ex)
  | and (a b : Ex) | or (a b : Ex) | not (a : Ex) | ite (c a b : Ex)
  | ix (a i : Ex) | sl (a lo hi : Ex)
  | call (f : String) (es : Ex) | bi (f : String) (es : Ex) | mth (m : String) (o es : Ex)
  | lc (t : Tg) (it cond elt : Ex) (own : List Nat)
  | dc (t : Tg) (it cond k v : Ex) (own : List Nat)
  | wk (e : Ex) | enm (e : Ex) | zip (a b : Ex) | rng (es : Ex)
  | fld (a : Ex) (c f : String) | mk (c f : String) (es : Ex) | mc (c m f : String) (o es : Ex)

/-- what an except clause's suite may say: values of written things and of the exception's fields -/
inductive HE where
  | non | bl (b : Bool) | int (i : Int) | str (s : String) | fld (f : String) | tup (es : HE) | nil | cons (a r : HE)
inductive Hd where
  | ret (e : HE) | set (i : Nat) (e : HE) | cont | brk | pas

inductive Sm where
  | skip | seq (a b : Sm)
  | ex (e : Ex) | set (i : Nat) (e : Ex) | asg (t : Tg) (e : Ex) | sub (o i e : Ex)
  | ret (e : Ex) | ite (c : Ex) (a b : Sm) | for (t : Tg) (it : Ex) (b : Sm) | whl (c : Ex) (b : Sm) | brk | cont
  | fst (o : Ex) (c f : String) (e : Ex) | fau (o : Ex) (c f : String) (op : BOp) (e : Ex)
  | rs0 (c : String) | rs2 (c : String) (es : Ex) | tr (b : Sm) (c : String) (cs : List String) (i : Option Nat) (h : Hd)

/-! ### values -/
def keyOk : D → Bool
  | .int _ | .str _ => true
  | _ => false
/-- keys: ints and texts alone -/
def keyEq : D → D → Bool
  | .int i, .int j => i == j
  | .str s, .str t => s == t
  | _, _ => false
def dget (kvs : List (D × D)) (k : D) : Option D := (kvs.find? fun kv => keyEq kv.1 k).map (·.2)
def dput (kvs : List (D × D)) (k v : D) : List (D × D) :=
  if kvs.any fun kv => keyEq kv.1 k then kvs.map fun kv => if keyEq kv.1 k then (kv.1, v) else kv else kvs ++ [(k, v)]
def ddrop (kvs : List (D × D)) (k : D) : List (D × D) := kvs.filter fun kv => !keyEq kv.1 k
def dmerge (kvs more : List (D × D)) : List (D × D) := more.foldl (fun a kv => dput a kv.1 kv.2) kvs

/-- a list's items, for reading -/
def seqL (A : AH) (n : Nat) : Option (List D) := match A[n]? with
  | some (.lst xs) => some xs
  | _ => none
def dctL (A : AH) (n : Nat) : Option (List (D × D)) := match A[n]? with
  | some (.dct kvs) => some kvs
  | some (.lk kvs) => some kvs
  | _ => none
/-- a list's or a tuple's items -/
def seqOf (A : AH) : D → Option (List D)
  | .tup xs => some xs
  | .ref n => seqL A n
  | _ => none
def truth (A : AH) : D → Option Bool
  | .non => some false
  | .bl b => some b
  | .int i => some (i != 0)
  | .str s => if s.length ≤ sizeLine then some (s != "") else none
  | .tup xs => some (!xs.isEmpty)
  | .ref n => match A[n]? with
    | some (.lst xs) => some (!xs.isEmpty)
    | some (.dct kvs) => some (!kvs.isEmpty)
    | _ => none
  | .frl _ => none
  | .gl _ => none

/-! ### data without objects but lists, for == -/
mutual
def toPd : D → Option PyData
  | .non => some .none
  | .bl b => some (.bool b)
  | .int i => some (.int i)
  | .str s => some (.str (Str.ofString s))
  | .tup xs => (toPds xs).map .tuple
  | .frl _ => none
  | .ref _ => none
  | .gl _ => none
def toPds : List D → Option (List PyData)
  | [] => some []
  | d :: r => match toPd d, toPds r with
    | some p, some ps => some (p :: ps)
    | _, _ => none
end
def toP (A : AH) : D → Option PyData
  | .ref a => match seqL A a with
    | some xs => (toPds xs).map .list
    | none => none
  | d => toPd d
def eqD (A : AH) (x y : D) : Option Bool := match toP A x, toP A y with
  | some p, some q => if SeqAt.shaped p && SeqAt.shaped q then some (PyData.eqv p q) else none
  | _, _ => none
/-- dicts of such data, whatever the order -/
def dctO (A : AH) : D → Option (List (D × D))
  | .ref n => match A[n]? with
    | some (.dct kvs) => some kvs
    | _ => none
  | _ => none
def eqH (kb : List (D × D)) : List (D × D) → Option Bool
  | [] => some true
  | (k, v) :: r => match dget kb k with
    | none => some false
    | some w => match toPd v, toPd w with
      | some p, some q => if SeqAt.shaped p && SeqAt.shaped q then (match eqH kb r with
        | some b => some (PyData.eqv p q && b)
        | none => none) else none
      | _, _ => none
def eqK (ka kb : List (D × D)) : Option Bool := if ka.length = kb.length then eqH kb ka else some false
def eqO (A : AH) (x y : D) : Option Bool := match dctO A x, dctO A y with
  | some ka, some kb => eqK ka kb
  | _, _ => eqD A x y
/-- a value for == by its kind alone -/
def flatD : D → Bool
  | .non | .bl _ | .int _ | .str _ => true
  | _ => false
def flatEq : D → D → Bool
  | .non, .non => true
  | .bl a, .bl b => a == b
  | .bl a, .int j => (if a then 1 else 0) == j
  | .int i, .bl b => i == (if b then 1 else 0)
  | .int i, .int j => i == j
  | .str s, .str t => s == t
  | _, _ => false
/-- data of any depth -/
def memP (A : AH) (x : D) (xs : List D) (mk : List PyData → PyData) : Option Bool := match toP A x, toPds xs with
  | some p, some ps => if SeqAt.shaped p && SeqAt.shaped (mk ps) then some (ps.any fun z => PyData.eqv z p) else none
  | _, _ => none
def memD (A : AH) (x y : D) : Option Bool := match y with
  | .ref n => match dctL A n with
    | some kvs => if keyOk x then some (dget kvs x).isSome else none
    | none => match seqL A n with
      | some xs => if flatD x && xs.all flatD then some (xs.any fun z => flatEq z x) else memP A x xs .list
      | none => none
  | .tup xs => if flatD x && xs.all flatD then some (xs.any fun z => flatEq z x) else memP A x xs .tuple
  | _ => none

/-! ### operators -/
def opB (A : AH) (o : BOp) (x y : D) : Res D := match o, x, y with
  | .add, .int i, .int j => .ok (.int (i + j)) A
  | .sub, .int i, .int j => .ok (.int (i - j)) A
  | .mul, .int i, .int j => if i.natAbs < 18446744073709551616 || j.natAbs < 18446744073709551616 then .ok (.int (i * j)) A else .no
  | .fdiv, .int i, .int j => if 0 < j && j < 1073741824 then .ok (.int (i / j)) A else .no
  | .mod, .int i, .int j => if 0 < j then .ok (.int (i % j)) A else .no
  | .add, .str s, .str t => if s.length + t.length ≤ sizeLine then .ok (.str (s ++ t)) A else .no
  | .add, .tup xs, .tup ys => if xs.length + ys.length ≤ sizeLine then .ok (.tup (xs ++ ys)) A else .no
  | .add, .ref a, .ref b => match A[a]?, A[b]? with
    | some (.lst xs), some (.lst ys) => if xs.length + ys.length ≤ sizeLine then .ok (.ref A.length) (A ++ [.lst (xs ++ ys)]) else .no
    | _, _ => .no
  | .mul, .tup xs, .int k => if !xs.isEmpty && decide (xs.length ≤ 1000) && decide (0 ≤ k) && decide (k ≤ 1000) then .ok (.tup (List.replicate k.toNat xs).flatten) A else .no
  | _, _, _ => .no
def cmpI (f : Int → Int → Bool) : D → D → Option Bool
  | .int i, .int j => some (f i j)
  | _, _ => none
def isNon : D → Bool
  | .non => true
  | _ => false
/-- is None -/
def isN (d : D) : D → Option Bool
  | .non => some (isNon d)
  | _ => none
def opC (A : AH) (o : COp) (x y : D) : Option Bool := match o with
  | .eq => eqO A x y
  | .ne => (eqO A x y).map (!·)
  | .lt => cmpI (fun i j => decide (i < j)) x y
  | .le => cmpI (fun i j => decide (i ≤ j)) x y
  | .gt => cmpI (fun i j => decide (j < i)) x y
  | .ge => cmpI (fun i j => decide (j ≤ i)) x y
  | .is => match x with
    | .gl _ => none
    | _ => isN x y
  | .isnt => match x with
    | .gl _ => none
    | _ => (isN x y).map (!·)
  | .mem => memD A x y
  | .nmem => (memD A x y).map (!·)

def opI (A : AH) (o i : D) : Option D := match o with
  | .tup xs => match i with
    | .int k => L2.atI xs k
    | _ => none
  | .ref n => match dctL A n with
    | some kvs => if keyOk i then dget kvs i else none
    | none => match seqL A n, i with
      | some xs, .int k => L2.atI xs k
      | _, _ => none
  | _ => none
def cutD (xs : List D) (lo hi : Option Int) : List D := (xs.drop (HT.sIx xs.length 0 lo)).take (HT.sIx xs.length xs.length hi - HT.sIx xs.length 0 lo)
def opS (A : AH) (o : D) (lo hi : Option Int) : Res D := match o with
  | .tup xs => .ok (.tup (cutD xs lo hi)) A
  | .ref n => match seqL A n with
    | some xs => .ok (.ref A.length) (A ++ [.lst (cutD xs lo hi)])
    | none => .no
  | _ => .no
/-- o[i] = v -/
def opSet (A : AH) (o i v : D) : Option AH := match o with
  | .ref n => match A[n]? with
    | some (.lst xs) => match i with
      | .int k => (L2.ixN xs.length k).map fun j => A.set n (.lst (xs.set j v))
      | _ => none
    | some (.dct kvs) => if keyOk i && kvs.length < sizeLine then some (A.set n (.dct (dput kvs i v))) else none
    | _ => none
  | _ => none

/-! ### instances -/
def fput (f : String) (v : D) : List (String × D) → List (String × D)
  | [] => [(f, v)]
  | (g, x) :: r => if g = f then (g, v) :: r else (g, x) :: fput f v r
def fget (fs : List (String × D)) (f : String) : Option D := match fs with
  | [] => none
  | (g, x) :: r => if g = f then some x else fget r f
def fldD (A : AH) (c f : String) : D → Option D
  | .ref n => match A[n]? with
    | some (.ins k fs) => if k = c then fget fs f else none
    | _ => none
  | _ => none
def fstD (A : AH) (c f : String) (x v : D) : Option AH := match x with
  | .ref n => match A[n]? with
    | some (.ins k fs) => if k = c ∧ fs.length < 1000 then some (A.set n (.ins c (fput f v fs))) else none
    | _ => none
  | _ => none
/-- an instance of c without a field m -/
def isMe (A : AH) (c m : String) : D → Bool
  | .ref n => match A[n]? with
    | some (.ins k fs) => decide (k = c) && (fget fs m).isNone
    | _ => false
  | _ => false
def augI : BOp → D → D → Option D
  | .add, .int i, .int j => some (.int (i + j))
  | .sub, .int i, .int j => some (.int (i - j))
  | _, _, _ => none
/-! ### exceptions -/
mutual
def evH (x : Xc) : HE → Option D
  | .non => some .non
  | .bl b => some (.bl b)
  | .int i => some (.int i)
  | .str s => some (.str s)
  | .fld f => fget x.fs f
  | .tup es => match evHs x es with
    | some ds => if ds.length ≤ sizeLine then some (.tup ds) else none
    | none => none
  | .nil => none
  | .cons _ _ => none
def evHs (x : Xc) : HE → Option (List D)
  | .nil => some []
  | .cons a r => match evH x a, evHs x r with
    | some d, some ds => some (d :: ds)
    | _, _ => none
  | _ => none
end
def fset (F : Fr) (i : Nat) (d : D) : Fr := F.set i (some d)
def wipeO (F : Fr) : Option Nat → Fr
  | none => F
  | some i => F.set i none
def hdS (x : Xc) (h : Hd) (F : Fr) (A : AH) : SR := match h with
  | .ret e => match evH x e with
    | some d => .rt d A
    | none => .no
  | .set j e => match evH x e with
    | some d => .nx (fset F j d) A
    | none => .no
  | .cont => .ct F A
  | .brk => .bk F A
  | .pas => .nx F A
def wipS (i : Option Nat) : SR → SR
  | .nx F A => .nx (wipeO F i) A
  | .bk F A => .bk (wipeO F i) A
  | .ct F A => .ct (wipeO F i) A
  | .rt d A => .rt d A
  | _ => .no
def inO (F : Fr) : Option Nat → Bool
  | none => true
  | some i => decide (i < F.length)
def trR (c : String) (cs : List String) (i : Option Nat) (h : Hd) : SR → SR
  | .exc x F A => if x.cls = c then (if inO F i then wipS i (hdS x h (wipeO F i) A) else .no) else if cs.contains x.cls then .exc x F A else .no
  | r => r

def tyName (A : AH) : D → Option String
  | .non => some "NoneType"
  | .bl _ => some "bool"
  | .int _ => some "int"
  | .str _ => some "str"
  | .tup _ => some "tuple"
  | .ref n => match A[n]? with
    | some (.lst _) => some "list"
    | some (.dct _) => some "dict"
    | some (.lk _) => some "dict"
    | _ => none
  | _ => none
def tyNames : List String := ["bool", "int", "str", "tuple", "list", "dict"]
def isA (A : AH) (x : D) (t : String) : Option Bool := match tyName A x with
  | some n => if tyNames.contains t then some (n == t || (n == "bool" && t == "int")) else none
  | none => none
def intsOf : List D → Option (List Int)
  | [] => some []
  | .int i :: r => (intsOf r).map (i :: ·)
  | _ :: _ => none
def strsOf : List D → Option (List String)
  | [] => some []
  | .str s :: r => (strsOf r).map (s :: ·)
  | _ :: _ => none
def strLe (a b : String) : Bool := decide (a.toList.map Char.toNat ≤ b.toList.map Char.toNat)
def sortI (xs : List Int) : List Int := xs.mergeSort (fun a b => decide (a ≤ b))
def sortS (xs : List String) : List String := xs.mergeSort strLe
/-- built-in functions -/
def biLen (A : AH) : List D → Res D
  | [.tup xs] => .ok (.int xs.length) A
  | [.ref n] => match dctL A n with
    | some kvs => .ok (.int kvs.length) A
    | none => match seqL A n with
      | some xs => .ok (.int xs.length) A
      | none => .no
  | _ => .no
def biTuple (A : AH) : List D → Res D
  | [.tup xs] => .ok (.tup xs) A
  | [.ref n] => match seqL A n with
    | some xs => .ok (.tup xs) A
    | none => .no
  | _ => .no
def biList (A : AH) : List D → Res D
  | [.tup xs] => .ok (.ref A.length) (A ++ [.lst xs])
  | [.ref n] => match seqL A n with
    | some xs => .ok (.ref A.length) (A ++ [.lst xs])
    | none => .no
  | _ => .no
/-- a list of pairs with keys -/
def pairsOf : List D → Option (List (D × D))
  | [] => some []
  | .tup [k, v] :: r => if keyOk k then (pairsOf r).map ((k, v) :: ·) else none
  | _ :: _ => none
def biDict (A : AH) : List D → Res D
  | [.ref n] => match dctL A n with
    | some kvs => .ok (.ref A.length) (A ++ [.dct kvs])
    | none => match (seqL A n).bind pairsOf with
      | some kvs => if kvs.length ≤ sizeLine then .ok (.ref A.length) (A ++ [.dct (dmerge [] kvs)]) else .no
      | none => .no
  | _ => .no
def biMax (A : AH) : List D → Res D
  | [.int i, .int j] => .ok (.int (if j > i then j else i)) A
  | _ => .no
def blsOf : List D → Option (List Bool)
  | [] => some []
  | .bl b :: r => (blsOf r).map (b :: ·)
  | _ :: _ => none
def biAny (A : AH) : List D → Res D
  | [.ref n] => match (seqL A n).bind blsOf with
    | some bs => .ok (.bl (bs.any id)) A
    | none => .no
  | _ => .no
def biAll (A : AH) : List D → Res D
  | [.ref n] => match (seqL A n).bind blsOf with
    | some bs => .ok (.bl (bs.all id)) A
    | none => .no
  | _ => .no
def biInt (A : AH) : List D → Res D
  | [.int i] => .ok (.int i) A
  | [.bl b] => .ok (.int (if b then 1 else 0)) A
  | _ => .no
def biAbs (A : AH) : List D → Res D
  | [.int i] => .ok (.int (if i < 0 then -i else i)) A
  | _ => .no
def biIsi (A : AH) : List D → Res D
  | [x, .gl t] => ofO ((isA A x t).map .bl) A
  | _ => .no
def biSum (A : AH) : List D → Res D
  | [.ref n] => match (seqL A n).bind intsOf with
    | some ns => .ok (.int ns.sum) A
    | none => .no
  | _ => .no
def biSorted (A : AH) : List D → Res D
  | [.ref n] => match dctL A n with
    | some kvs => match strsOf (kvs.map (·.1)) with
      | some ss => if ss.length < 64 then .ok (.ref A.length) (A ++ [.lst ((sortS ss).map .str)]) else .no
      | none => .no
    | none => match (seqL A n).bind strsOf with
      | some ss => if ss.length < 64 then .ok (.ref A.length) (A ++ [.lst ((sortS ss).map .str)]) else .no
      | none => .no
  | _ => .no
def biF (A : AH) (f : String) (vs : List D) : Res D :=
  match f with
  | "len" => biLen A vs
  | "tuple" => biTuple A vs
  | "list" => biList A vs
  | "dict" => biDict A vs
  | "int" => biInt A vs
  | "abs" => biAbs A vs
  | "isinstance" => biIsi A vs
  | "sum" => biSum A vs
  | "sorted" => biSorted A vs
  | "max" => biMax A vs
  | "any" => biAny A vs
  | "all" => biAll A vs
  | _ => .no
/-- methods of built-in types -/
def mtAppend (A : AH) (n : Nat) : List D → Res D
  | [y] => match A[n]? with
    | some (.lst xs) => if xs.length < sizeLine then .ok .non (A.set n (.lst (xs ++ [y]))) else .no
    | _ => .no
  | _ => .no
def mtExtend (A : AH) (n : Nat) : List D → Res D
  | [.ref b] => match A[n]?, A[b]? with
    | some (.lst xs), some (.lst ys) => if xs.length + ys.length ≤ sizeLine then .ok .non (A.set n (.lst (xs ++ ys))) else .no
    | _, _ => .no
  | _ => .no
def mtPop (A : AH) (n : Nat) : List D → Res D
  | [] => match A[n]? with
    | some (.lst xs) => match xs.getLast? with
      | some y => .ok y (A.set n (.lst xs.dropLast))
      | none => .no
    | _ => .no
  | [k, d] => match A[n]? with
    | some (.dct kvs) => if keyOk k then (match dget kvs k with
      | some v => .ok v (A.set n (.dct (ddrop kvs k)))
      | none => .ok d A) else .no
    | _ => .no
  | _ => .no
def mtGet (A : AH) (n : Nat) : List D → Res D
  | [k] => match A[n]? with
    | some (.dct kvs) => if keyOk k then .ok ((dget kvs k).getD .non) A else .no
    | _ => .no
  | [k, d] => match A[n]? with
    | some (.dct kvs) => if keyOk k then .ok ((dget kvs k).getD d) A else .no
    | _ => .no
  | _ => .no
def mtUpdate (A : AH) (n : Nat) : List D → Res D
  | [.ref b] => if b = n then .no else match A[n]?, A[b]? with
    | some (.dct kvs), some (.dct more) => if kvs.length + more.length ≤ sizeLine then .ok .non (A.set n (.dct (dmerge kvs more))) else .no
    | _, _ => .no
  | _ => .no
def mtLPop (A : AH) (n : Nat) (vs : List D) : Res D := match vs with
  | [] => mtPop A n []
  | _ => .no
def mtDPop (A : AH) (n : Nat) (vs : List D) : Res D := match vs with
  | [k, d] => mtPop A n [k, d]
  | _ => .no
/-- where a value stands first -/
def ixD (y : D) : List D → Option Nat
  | [] => none
  | z :: r => if flatEq z y then some 0 else (ixD y r).map (· + 1)
def mtIndex (A : AH) (n : Nat) : List D → Res D
  | [y] => match A[n]? with
    | some (.lst xs) => if flatD y && xs.all flatD then (match ixD y xs with
      | some j => .ok (.int (j : Nat)) A
      | none => .no) else .no
    | _ => .no
  | _ => .no
/-- the receiver's kind: a list, a dict -/
def mkD (A : AH) : D → Option Bool
  | .ref n => match A[n]? with
    | some (.lst _) => some false
    | some (.dct _) => some true
    | _ => none
  | _ => none
def mtG (k : Bool) (m : String) : Option (AH → Nat → List D → Res D) := match k with
  | false => match m with
    | "append" => some mtAppend
    | "extend" => some mtExtend
    | "pop" => some mtLPop
    | "index" => some mtIndex
    | _ => none
  | true => match m with
    | "get" => some mtGet
    | "pop" => some mtDPop
    | "update" => some mtUpdate
    | _ => none
def mkM (A : AH) (m : String) (d : D) : Option Bool := match mkD A d with
  | some k => if (mtG k m).isSome then some k else none
  | none => none
def mtF (A : AH) (k : Bool) (m : String) (o : D) (vs : List D) : Res D := match o with
  | .ref n => match mtG k m with
    | some f => f A n vs
    | none => .no
  | _ => .no

/-! ### what is walked -/
abbrev Guard := List (Nat × AO)
def gOk (A : AH) (g : Guard) : Bool := g.all fun p => decide (A[p.1]? = some p.2)
/-- a walk: the items, what must stand as it stood, a dict that is locked -/
structure Wk where
  items : List D
  g : Guard
  lock : Option Nat := none
def lockA (A : AH) : Option Nat → AH
  | none => A
  | some n => match A[n]? with
    | some (.dct kvs) => A.set n (.lk kvs)
    | _ => A
def unlockA (A : AH) : Option Nat → AH
  | none => A
  | some n => match A[n]? with
    | some (.lk kvs) => A.set n (.dct kvs)
    | _ => A
/-- the walk of a value -/
def wkOf (A : AH) (d : D) : Option Wk := match d with
  | .tup xs => some ⟨xs, [], none⟩
  | .frl xs => some ⟨xs, [], none⟩
  | .ref n => match A[n]? with
    | some (.lst xs) => some ⟨xs, [(n, .lst xs)], none⟩
    | some (.dct kvs) => some ⟨kvs.map (·.1), [(n, .lk kvs)], some n⟩
    | _ => none
  | _ => none
def enumD : Nat → List D → List D
  | _, [] => []
  | i, d :: r => .tup [.int i, d] :: enumD (i + 1) r
def zipD : List D → List D → List D
  | a :: r, b :: s => .tup [a, b] :: zipD r s
  | _, _ => []
/-- enumerate, zip: no dicts -/
def wkEnum (A : AH) (d : D) : Option Wk := match wkOf A d with
  | some ⟨xs, g, none⟩ => some ⟨enumD 0 xs, g, none⟩
  | _ => none
def wkZip (A : AH) (d e : D) : Option Wk := match wkOf A d, wkOf A e with
  | some ⟨xs, g, none⟩, some ⟨ys, k, none⟩ => some ⟨zipD xs ys, g ++ k, none⟩
  | _, _ => none
def small (i : Int) : Bool := -4611686018427387904 ≤ i && i < 4611686018427387904
def rngD (lo hi : Int) : List D := (List.range (hi - lo).toNat).map fun (i : Nat) => .int (lo + i)
def wkRng : List D → Option Wk
  | [.int j] => if small j then some ⟨rngD 0 j, [], none⟩ else none
  | [.int i, .int j] => if small i && small j then some ⟨rngD i j, [], none⟩ else none
  | _ => none

/-! ### stores -/
mutual
def asgT : Tg → D → Fr → Option Fr
  | .nm i, d, F => some (fset F i d)
  | .tu ts, .tup xs, F => asgTs ts xs F
  | _, _, _ => none
def asgTs : Tg → List D → Fr → Option Fr
  | .nil, [], F => some F
  | .cons a r, d :: ds, F => match asgT a d F with
    | some F' => asgTs r ds F'
    | none => none
  | _, _, _ => none
end
def wipeF (F : Fr) : List Nat → Fr
  | [] => F
  | i :: r => (wipeF F r).set i none

/-! ### loops -/
def lcL (asg : D → Fr → Option Fr) (g : Guard) (body : Fr → AH → Res (Option D)) (F : Fr) : List D → List D → AH → Res (List D)
  | [], acc, A => if gOk A g then .ok acc A else .no
  | d :: r, acc, A => if gOk A g then (match asg d F with
    | some F' => bnd (body F' A) fun o A' => (match o with
      | some y => if acc.length < sizeLine then lcL asg g body F r (acc ++ [y]) A' else .no
      | none => lcL asg g body F r acc A')
    | none => .no) else .no
def dcL (asg : D → Fr → Option Fr) (g : Guard) (body : Fr → AH → Res (Option (D × D))) (F : Fr) : List D → List (D × D) → AH → Res (List (D × D))
  | [], acc, A => if gOk A g then .ok acc A else .no
  | d :: r, acc, A => if gOk A g then (match asg d F with
    | some F' => bnd (body F' A) fun o A' => (match o with
      | some (k, v) => if acc.length < sizeLine && keyOk k then dcL asg g body F r (dput acc k v) A' else .no
      | none => dcL asg g body F r acc A')
    | none => .no) else .no
def forL (asg : D → Fr → Option Fr) (g : Guard) (body : Fr → AH → SR) : List D → Fr → AH → SR
  | [], F, A => if gOk A g then .nx F A else .no
  | d :: r, F, A => if gOk A g then (match asg d F with
    | some F' => (match body F' A with
      | .nx F2 A2 => forL asg g body r F2 A2
      | .ct F2 A2 => forL asg g body r F2 A2
      | .bk F2 A2 => .nx F2 A2
      | x => x)
    | none => .no) else .no
def whlL (c : Fr → AH → Res Bool) (body : Fr → AH → SR) : Nat → Fr → AH → SR
  | 0, _, _ => .no
  | n + 1, F, A => match c F A with
    | .ok false A' => .nx F A'
    | .ok true A' => (match body F A' with
      | .nx F2 A2 => whlL c body n F2 A2
      | .ct F2 A2 => whlL c body n F2 A2
      | .bk F2 A2 => .nx F2 A2
      | x => x)
    | .exc x A' => .exc x F A'
    | .no => .no
/-- a walk's end: the dict is unlocked; an exception within is not served -/
def unlR {α : Type} (l : Option Nat) (r : Res α) : Res α := match l, r with
  | none, r => r
  | some n, .ok a A => .ok a (unlockA A (some n))
  | some _, _ => .no
def unlS (l : Option Nat) (r : SR) : SR := match l, r with
  | none, r => r
  | some n, .nx F A => .nx F (unlockA A (some n))
  | some n, .bk F A => .bk F (unlockA A (some n))
  | some n, .ct F A => .ct F (unlockA A (some n))
  | some n, .rt d A => .rt d (unlockA A (some n))
  | some _, _ => .no
/-- nothing is raised -/
def nox {α : Type} : Res α → Res α
  | .ok a A => .ok a A
  | _ => .no
def tru (r : Res D) : Res Bool := bnd r fun d A => ofO (truth A d) A
/-- pairs of a display -/
def pairUp : List D → Option (List (D × D))
  | [] => some []
  | k :: v :: r => if keyOk k then (pairUp r).map ((k, v) :: ·) else none
  | _ => none

/-! ### the evaluator -/
section
variable (cl : String → List D → AH → Res D)
mutual
def ev : Ex → Fr → AH → Res D
  | .var i, F, A => match F[i]? with
    | some (some d) => .ok d A
    | _ => .no
  | .int i, _, A => .ok (.int i) A
  | .str s, _, A => .ok (.str s) A
  | .bl b, _, A => .ok (.bl b) A
  | .non, _, A => .ok .non A
  | .gl x, _, A => .ok (.gl x) A
  | .cst _ d, _, A => .ok d A
  | .tup es, F, A => bnd (evs es F A) fun ds A' => if ds.length ≤ sizeLine then .ok (.tup ds) A' else .no
  | .lst es, F, A => bnd (evs es F A) fun ds A' => if ds.length ≤ sizeLine then .ok (.ref A'.length) (A' ++ [.lst ds]) else .no
  | .dct es, F, A => bnd (evs es F A) fun ds A' => match pairUp ds with
    | some kvs => if kvs.length ≤ 15 then .ok (.ref A'.length) (A' ++ [.dct (dmerge [] kvs)]) else .no
    | none => .no
  | .op o a b, F, A => bnd (ev a F A) fun x A1 => bnd (ev b F A1) fun y A2 => opB A2 o x y
  | .neg a, F, A => bnd (ev a F A) fun x A1 => match x with
    | .int i => .ok (.int (-i)) A1
    | _ => .no
  | .cmp o a b, F, A => bnd (ev a F A) fun x A1 => bnd (ev b F A1) fun y A2 => ofO ((opC A2 o x y).map .bl) A2
  | .chn o p a b c, F, A => bnd (ev a F A) fun x A1 => bnd (ev b F A1) fun y A2 => bnd (ofO (opC A2 o x y) A2) fun r A3 =>
    if r then bnd (ev c F A3) fun z A4 => ofO ((opC A4 p y z).map .bl) A4 else .ok (.bl false) A3
  | .and a b, F, A => bnd (ev a F A) fun x A1 => bnd (ofO (truth A1 x) A1) fun r A2 => if r then ev b F A2 else .ok x A2
  | .or a b, F, A => bnd (ev a F A) fun x A1 => bnd (ofO (truth A1 x) A1) fun r A2 => if r then .ok x A2 else ev b F A2
  | .not a, F, A => bnd (ev a F A) fun x A1 => ofO ((truth A1 x).map fun b => .bl (!b)) A1
  | .ite c a b, F, A => bnd (ev c F A) fun x A1 => bnd (ofO (truth A1 x) A1) fun r A2 => if r then ev a F A2 else ev b F A2
  | .ix a i, F, A => bnd (ev a F A) fun x A1 => bnd (ev i F A1) fun y A2 => ofO (opI A2 x y) A2
  | .sl a lo hi, F, A => bnd (ev a F A) fun x A1 => bnd (evo lo F A1) fun l A2 => bnd (evo hi F A2) fun h A3 => opS A3 x l h
  | .call f es, F, A => bnd (evs es F A) fun ds A1 => cl f ds A1
  | .bi f es, F, A => bnd (evs es F A) fun ds A1 => biF A1 f ds
  | .mth m o es, F, A => bnd (ev o F A) fun x A1 => bnd (ofO (mkM A1 m x) A1) fun k A2 => bnd (evs es F A2) fun ds A3 => mtF A3 k m x ds
  | .lc t it c e own, F, A => bnd (evw it F A) fun w A1 => unlR w.lock (bnd
      (lcL (asgT t) w.g (fun F' A' => nox (bnd (evc c F' A') fun b A2 => if b then bnd (ev e F' A2) fun y A3 => .ok (some y) A3 else .ok none A2)) (wipeF F own) w.items [] (lockA A1 w.lock))
      fun ds A2 => .ok (.ref A2.length) (A2 ++ [.lst ds]))
  | .dc t it c k v own, F, A => bnd (evw it F A) fun w A1 => unlR w.lock (bnd
      (dcL (asgT t) w.g (fun F' A' => nox (bnd (evc c F' A') fun b A2 => if b then bnd (ev k F' A2) fun x A3 => bnd (ev v F' A3) fun y A4 => .ok (some (x, y)) A4 else .ok none A2)) (wipeF F own) w.items [] (lockA A1 w.lock))
      fun ds A2 => .ok (.ref A2.length) (A2 ++ [.dct ds]))
  | .fld a c f, F, A => bnd (ev a F A) fun x A1 => ofO (fldD A1 c f x) A1
  | .mk c f es, F, A => bnd (evs es F A) fun ds A1 => bnd (cl f (.ref A1.length :: ds) (A1 ++ [.ins c []])) fun r A2 => match r with
    | .non => .ok (.ref A1.length) A2
    | _ => .no
  | .mc c m f o es, F, A => bnd (ev o F A) fun x A1 => if isMe A1 c m x then bnd (evs es F A1) fun ds A2 => cl f (x :: ds) A2 else .no
  | .nil, _, _ => .no
  | .cons _ _, _, _ => .no
  | .wk _, _, _ => .no
  | .enm _, _, _ => .no
  | .zip _ _, _, _ => .no
  | .rng _, _, _ => .no
def evs : Ex → Fr → AH → Res (List D)
  | .nil, _, A => .ok [] A
  | .cons a r, F, A => bnd (ev a F A) fun x A1 => bnd (evs r F A1) fun xs A2 => .ok (x :: xs) A2
  | _, _, _ => .no
/-- a slice's part -/
def evo : Ex → Fr → AH → Res (Option Int)
  | .nil, _, A => .ok none A
  | .cons e _, F, A => bnd (ev e F A) fun x A1 => match x with
    | .int i => .ok (some i) A1
    | _ => .no
  | _, _, _ => .no
/-- a comprehension's test -/
def evc : Ex → Fr → AH → Res Bool
  | .nil, _, A => .ok true A
  | .cons e _, F, A => tru (ev e F A)
  | _, _, _ => .no
/-- what is walked -/
def evw : Ex → Fr → AH → Res Wk
  | .enm e, F, A => bnd (ev e F A) fun x A1 => ofO (wkEnum A1 x) A1
  | .zip a b, F, A => bnd (ev a F A) fun x A1 => bnd (ev b F A1) fun y A2 => ofO (wkZip A2 x y) A2
  | .rng es, F, A => bnd (evs es F A) fun ds A1 => ofO (wkRng ds) A1
  | .wk e, F, A => bnd (ev e F A) fun x A1 => ofO (wkOf A1 x) A1
  | _, _, _ => .no
end
/-- statements; N: the turns that a while may take -/
def sx (N : Nat) : Sm → Fr → AH → SR
  | .skip, F, A => .nx F A
  | .seq a b, F, A => match sx N a F A with
    | .nx F' A' => sx N b F' A'
    | x => x
  | .ex e, F, A => bns F (ev cl e F A) fun _ A' => .nx F A'
  | .set i e, F, A => bns F (ev cl e F A) fun d A' => .nx (fset F i d) A'
  | .asg t e, F, A => bns F (ev cl e F A) fun d A' => match asgT t d F with
    | some F' => .nx F' A'
    | none => .no
  | .sub o i e, F, A => bns F (ev cl e F A) fun v A1 => bns F (ev cl o F A1) fun x A2 => bns F (ev cl i F A2) fun y A3 => match opSet A3 x y v with
    | some A4 => .nx F A4
    | none => .no
  | .ret e, F, A => bns F (ev cl e F A) fun d A' => .rt d A'
  | .ite c a b, F, A => bns F (tru (ev cl c F A)) fun r A' => if r then sx N a F A' else sx N b F A'
  | .for t it b, F, A => bns F (evw cl it F A) fun w A1 => unlS w.lock (forL (asgT t) w.g (fun F' A' => sx N b F' A') w.items F (lockA A1 w.lock))
  | .whl c b, F, A => whlL (fun F' A' => tru (ev cl c F' A')) (fun F' A' => sx N b F' A') N F A
  | .brk, F, A => .bk F A
  | .cont, F, A => .ct F A
  | .fst o c f e, F, A => bns F (ev cl e F A) fun v A1 => bns F (ev cl o F A1) fun x A2 => match fstD A2 c f x v with
    | some A3 => .nx F A3
    | none => .no
  | .fau o c f op e, F, A => bns F (ev cl o F A) fun x A1 => match fldD A1 c f x with
    | some u => bns F (ev cl e F A1) fun v A2 => match augI op u v with
      | some w => match fstD A2 c f x w with
        | some A3 => .nx F A3
        | none => .no
      | none => .no
    | none => .no
  | .rs0 c, F, A => .exc ⟨c, []⟩ F A
  | .rs2 c es, F, A => bns F (evs cl es F A) fun ds A1 => match ds with
    | [a, b] => .exc ⟨c, [("code", a), ("path", b)]⟩ F A1
    | _ => .no
  | .tr b c cs i h, F, A => trR c cs i h (sx N b F A)
end

/-! ### programs -/
structure Fd where
  np : Nat
  ns : Nat
  body : Sm
abbrev Pg := String → Option Fd
def startF (fd : Fd) (ds : List D) : Fr := ds.map some ++ List.replicate (fd.ns - fd.np) none
/-- a call, by at most n calls one in another -/
def callF (P : Pg) (N : Nat) : Nat → String → List D → AH → Res D
  | 0, _, _, _ => .no
  | n + 1, f, ds, A => match P f with
    | none => .no
    | some fd => if ds.length = fd.np then (match sx (callF P N n) N fd.body (startF fd ds) A with
      | .nx _ A' => .ok .non A'
      | .rt d A' => .ok d A'
      | .exc x _ A' => .exc x A'
      | _ => .no) else .no
end Ev

/-! ## XProb -/
/-! XProb: an own exception over an own class over ValueError, whose __init__ calls super's with a written text and stores two fields. -/
namespace PySem
namespace ProbX
open PySem.W PySem.Calls PyProof.Rows PySem.HandSPX
def pA (q : Nat → Pos) : Arguments := { posonlyargs := [], args := [{ arg := "self", annotation := none, pos := q 0 }, { arg := "code", annotation := none, pos := q 1 }, { arg := "path", annotation := none, pos := q 2 }], vararg := none, kwonlyargs := [], kw_defaults := [], kwarg := none, defaults := [] }
def pB (q : Nat → Pos) (msg : Str) : List Stmt :=
  [.Expr (.Call (.Attribute (.Call (.Name "super" (q 3)) [] [] (q 4)) "__init__" (q 5)) [.Constant (.str msg) 0 (q 6)] [] (q 7)) (q 8),
   .Assign [.Attribute (.Name "self" (q 9)) "code" (q 10)] (.Name "code" (q 11)) (q 12),
   .Assign [.Attribute (.Name "self" (q 13)) "path" (q 14)] (.Name "path" (q 15)) (q 16)]
def pS : Scope := { kind := .function, names := [(PySem.Str.ofString "self", .local), (PySem.Str.ofString "code", .local), (PySem.Str.ofString "path", .local), (PySem.Str.ofString "__class__", .free), (PySem.Str.ofString "super", .globalImplicit)], isGenerator := false, isCoroutine := false, more := [] }
abbrev veTail : List Value := [.type "ValueError", .type "Exception", .type "BaseException", .type "object"]
/-- what the written part says of the class, at C, of its __init__, at fI, and of the cell of __class__ -/
structure ProbTxt (prog : Program) (K : Frag) (mg : Str → Option Value) (C fI : Addr) : Prop where
  gC : mg "TypeProblem" = some (.ref C)
  gS : mg "super" = none
  cls : ∃ nm q N bs bm sn sub ab col dd k0 k1 k2 k3 k5, K.lookup C = some (excClassObj nm q C N bs bm true sn sub ab col dd k0 k1 k2 k3 k5 "ValueError.__new__") ∧ refsVE bm = true
  ini : excInitIn K C veTail "ValueError.__new__" = true
  sup : ks_superIn K C C "__init__" = some (some (.builtin "ValueError.__init__"))
  opq : nsIn K cStatics "thirdparty.any" = some none
  subC : mroIn K C (.ref C) = some true
  subV : subIn K (.ref C) (.type "ValueError") = some true
  sa : findIn K (.ref C) "__setattr__" = some (some (.builtin "object.__setattr__"))
  ga : findIn K (.ref C) "__getattribute__" = some (some (.builtin "BaseException.__getattribute__"))
  gg : findIn K (.ref C) "__getattr__" = some none
  noC : findIn K (.ref C) "code" = some none
  noP : findIn K (.ref C) "path" = some none
  iC : findIn K (.ref C) "__init__" = some (some (.ref fI))
  tC : typeIn K (.ref fI) = some (.type "function")
  kC : keepIn K (.ref C) = true
  exC : subIn K (.ref C) (.type "BaseException") = some true
  tyC : typeIn K (.ref C) = some (.type "type")
  hdC : hasDictIn K C = true
  te : exmOne K (.ref C) (.ref C) = some true
  top : (prog.main.scope.names.lookup ("super" : Str)).isSome = false
  fn : ∃ (oc : Value) (od : Option Addr) (doc pm : Value) (an : Option Addr) (cda cc : Addr) (ct : Value) (osl : Array (Option Value)) (q : Nat → Pos) (msg : Str)
    (ccl cl : Value) (cdd cld : Option Addr) (ccs csl : Array (Option Value)) (vs : Array Value) (file : Str) (tf : Tok),
    K.lookup fI = some ⟨oc, od, .func (ksFn "__init__" "TypeProblem.__init__" (pA q) (pB q msg) pS .none .none doc pm an (.ref cda) ct cc), osl⟩ ∧ codeIn K (.ref cda) "TypeProblem.__init__" = true ∧
    K.lookup cda = some ⟨ccl, cdd, .fields vs, ccs⟩ ∧ vs[2]? = some (.str file tf) ∧ ((prog.main.file : Str) == file) = true ∧ K.lookup cc = some ⟨cl, cld, .cell (some (.ref C)), csl⟩ ∧ ((q 5).endLine == (q 7).line) = true
theorem call_line {o : Expr} {name : Str} {apos pos : Pos} {args : List Expr} {env : Env} (hf : methodCallForm (args.length + ([] : List Keyword).length) (backTo pos (starEach args env)) (backToKw pos (keywordEach [] env)) = true) (hl : (apos.endLine == pos.line) = true) :
    eval (.Call (.Attribute o name apos) args [] pos) env = (do
      let ov ← attributeBase o name env (eval o env)
      standAt apos.atName
      let (f, first) ← holding [ov] (getMethod ov name (do return (← importBound o env).getD true))
      callWith pos f first (backTo pos (starEach args env)) []) := by
  have hpos : methodCallPos true o env apos pos = pure pos := by unfold methodCallPos; simp [hl]
  rw [arm_eval_Call]
  unfold methodCall
  rw [hf, hpos]
  simp only [pure_bind, calleeOf, if_true]
  rfl
theorem one_size (v : Value) : [v].length ≤ sizeLine := by
  rw [sizeLine_eq]
  exact (by decide : 1 ≤ 16777216)
theorem two_size (v u : Value) : [v, u].length ≤ sizeLine := by
  rw [sizeLine_eq]
  exact (by decide : 2 ≤ 16777216)
theorem kept_but {K : Frag} {h h' : Heap} {x : Addr} (X : K.In h) (hx : K.lookup x = none) (k : ∀ b o, b ≠ x → h.get? b = some o → h'.get? b = some o) : K.In h' := fun a o e =>
  k a o (fun z => by rw [z, hx] at e; cases e) (X a o e)
theorem ldX {M : Model} {s : Shared} {name : Str} {scope : Scope} {L a : Addr} {cd : Value} {cc : Addr} {m : Str → Option Value} {x : Str} {pos : Pos} {v : Value} {Q : Value → Shared → Prop} {A : Around} {E : Value → Shared → Prop} (hn : s.heap.Ns L m) (hv : m x = some v) (h : Q v s)
    (hk : scope.kind = .function := by rfl) (hl : (ksEnv name scope L a cd cc).kindOf x = some .local := by rfl) (hd : (x == ("__debug__" : Str)) = false := by decide) :
    wpAny M A (eval (.Name x pos) (ksEnv name scope L a cd cc)) Q E s := wpAny_Name (wpAny_loadName_local hk hl hn hv h) hd
/-- what __init__ leaves of a fresh exception at x -/
structure InitEnd (h h' : Heap) (x C dx : Addr) (v1 v2 : Value) : Prop where
  keep : ∀ b o, b ≠ x → h.get? b = some o → h'.get? b = some o
  obj : ∃ t1, h'.get? x = some { cls := .ref C, dict := some dx, data := .fields #[.ref t1, .none, .none, .none, .bool false, .none] }
  dbig : h.objs.size ≤ dx
  dne : dx ≠ x
  ns : h'.Ns1 dx (fun y => if y = "path" then some v2 else if y = "code" then some v1 else none)
/-- a made one -/
structure OwnMade (h h' : Heap) (e C d : Addr) (v1 v2 : Value) : Prop where
  keep : ∀ b o, h.get? b = some o → h'.get? b = some o
  new : h.objs.size ≤ e
  obj : ∃ oe vs, h'.get? e = some oe ∧ oe.cls = .ref C ∧ oe.dict = some d ∧ oe.data = .fields vs ∧ vs[1]? = some .none
  dbig : h.objs.size ≤ d
  dne : d ≠ e
  ns : h'.Ns1 d (fun y => if y = "path" then some v2 else if y = "code" then some v1 else none)
section
variable {prog : Program} {w : World} {A : Around} {E : Value → Shared → Prop} {R : Result → Shared → Prop} {s : Shared} {K : Frag} {mg : Str → Option Value} {C fI : Addr}
/-- super().__init__(msg) called: the args are laid anew -/
theorem sup_call (T : ProbTxt prog K mg C fI) {u x t0 : Addr} {rest : List Value} {Q : Value → Shared → Prop} (X : K.In s.heap) (hu : s.heap.get? u = some (kxs_mw "ValueError.__init__" x)) (he : s.heap.get? x = some (excO C t0)) (hz : rest.length ≤ sizeLine)
    (h : ∀ h' t1, (∀ b o, b ≠ x → s.heap.get? b = some o → h'.get? b = some o) → h'.get? x = some (excO C t1) → Q .none { s with heap := h' }) :
    wpAny (model prog w) A (call (.ref u) rest) Q E s := by
  obtain ⟨nm, N', qn, bs, bm, hdct, sn, sub, ab, col, dd, k0, k1, k2, k3, k5, hC, hT⟩ := excInit_of X T.ini
  obtain ⟨hh, g, d, tk, os⟩ := s
  refine wpAny_call (codeAny_of_tree ?_)
  show wpAny _ A.in1 (callAny (.ref u) ⟨rest, []⟩) _ _ _
  simp only [callAny]
  refine wpAny_bind (wpAny_load hu ?_)
  simp only [kxs_mw, show (Value.type "method-wrapper" == Value.type "method" || Value.type "method-wrapper" == Value.type "builtin_function_or_method" || Value.type "method-wrapper" == Value.type "method-wrapper") = true by decide, if_true]
  refine KFB.if_so (by decide) ?_
  refine wpAny_bind (PySem.W.check_bound_init PySem.F.excBase_ValueError.toExcCallFacts hC he rfl ?_)
  refine wpAny_bind (wpAny_pure (wpAny_pure ?_))
  refine ⟨plainId_quiet PySem.F.excBase_ValueError.init.plain _, codeAny_builtin PySem.F.excBase_ValueError.initEntry ?_⟩
  exact exc_init_tree (cls := .ref C) (t0 := t0) (dv := none) (c2 := .none) (c3 := .none) (b4 := .bool false) he hz fun h' k e' _ => h h' _ k e'
theorem prob_init (T : ProbTxt prog K mg C fI) {x t0 : Addr} {v1 v2 : Value} (X : K.In s.heap) (hlim : s.heap.NoLimit) (hg : s.heap.Ns mainGlobals mg) (hb : ∃ mb, s.heap.Ns builtinsNs mb ∧ ∀ y : Str, y ≠ "__name__" → mb y = bootBuiltins y)
    (hx : s.heap.get? x = some (excO C t0)) (hnx : K.lookup x = none) (hroom : A.depth < recursionLimit)
    (hq : ∀ h' tk dx, InitEnd s.heap h' x C dx v1 v2 → R (.ok (.ret .none)) { s with heap := h', toks := tk }) :
    codeAny (model prog w) A (.call (.ref fI) ⟨[.ref x, v1, v2], []⟩) R s := by
  obtain ⟨oc, od, doc, pm, an, cda, cc, ct, osl, q, msg, ccl, cl, cdd, cld, ccs, csl, vs, file, tf, ho, hcd, hcode, hvs, hfile, hcell, hline⟩ := T.fn
  obtain ⟨nm, qn, N, bs, bm, sn, sub, ab, col, dd, k0, k1, k2, k3, k5, hC, hbm⟩ := T.cls
  obtain ⟨mb, hb, hmb⟩ := hb
  have hcl : clsIn K C = some { name := nm, bases := bs, mro := .ref C :: bm, ns := N, qualname := qn, hasDict := true, slotNames := sn, subclasses := sub, abstract := ab, collection := col, hasDel := false } := by unfold clsIn; rw [hC] <;> rfl
  obtain ⟨hh, g, d, tk, os⟩ := s
  refine ks_codeAny_call_defAt (fd := ksFn "__init__" "TypeProblem.__init__" (pA q) (pB q msg) pS .none .none doc pm an (.ref cda) ct cc) (body := pB q msg) (binds := [("self", .ref x), ("code", v1), ("path", v2)]) hroom (X _ _ ho) rfl hlim (codeRec_of X hcd) rfl
    (BindsTo.of_eq (by first | rfl | with_unfolding_all rfl)) (show ∀ y ∈ pS.names, y.2 ≠ .cell by decide) (fun y hy => ?_) (fun h₀ hns k => ?_) rfl rfl rfl
  · simp only [List.mem_cons, List.not_mem_nil, or_false] at hy
    rcases hy with rfl | rfl | rfl <;> rfl
  show _root_.PySem.wpAt (model prog w) (A.deeper (ksEnv "TypeProblem.__init__" pS hh.objs.size fI (.ref cda) cc)) (.func (pB q msg) (ksEnv "TypeProblem.__init__" pS hh.objs.size fI (.ref cda) cc)) (execs (pB q msg) (ksEnv "TypeProblem.__init__" pS hh.objs.size fI (.ref cda) cc)) _ _ _
  have X₀ : K.In h₀ := X.keeps k
  have hx₀ := k _ _ hx
  have hxL : hh.objs.size ≠ x := Nat.ne_of_gt (Heap.lt_size hx)
  refine ks_wpAt_execs_cons (ks_wpAt_Expr_any (ks_wpAt_MethodCall ?_ (call_line rfl hline)))
  have hxc : x ≠ C := fun z => by
    rw [z, hC] at hnx
    cases hnx
  have hCl := X₀ _ _ hC
  have g₀ := hg.keeps k
  have b₀ := hb.keeps k
  refine ks_wpAt_super_base (env := ksEnv "TypeProblem.__init__" pS hh.objs.size fI (.ref cda) cc) rfl rfl (by decide) rfl (X₀ _ _ ho) rfl (ar := { arg := "self", annotation := none, pos := q 0 }) rfl rfl (X₀ _ _ hcode) rfl hvs hfile T.top ?_
  refine ks_loadName_global rfl rfl (loadGlobal_builtin (env := ksEnv "TypeProblem.__init__" pS hh.objs.size fI (.ref cda) cc) g₀ T.gS b₀ ((hmb "super" (by decide)).trans (by rfl)) ⟨rfl, ?_⟩)
  refine wpAny_loadName_free rfl rfl rfl ⟨_, X₀ _ _ hcell, rfl⟩ ?_
  refine wpAny_loadName_local rfl rfl hns (by rfl) ?_
  refine ks_wpAny_isType_cls hCl rfl ⟨rfl, ?_⟩
  refine ks_wpAny_call_super hCl rfl hx₀ rfl (fun c e => by cases e) (looks_mroIn X₀ T.subC) (fun h₁ e₁ k₁ => ?_)
  have X₁ : K.In h₁ := X₀.keeps k₁
  have hx₁ := k₁ _ _ hx₀
  have I₁ : InstAt h₁ x (excO C t0) C none := ⟨hx₁, rfl, rfl, trivial⟩
  have hcl' := T.sup
  unfold ks_superIn at hcl'
  rw [hcl] at hcl'
  refine kxs_getMethod (B := "ValueError") kxs_ValueError e₁ (looks_opaque X₁ T.opq) (l₀ := .ref C :: bm) (fun A Q E s k q => wpAny_bind ((looks_clsIn X₁ hcl) A _ E s k (wpAny_pure q))) rfl X₁ hcl' (I₁.type.andThen (looks_subIn X₁ T.subV)) hxc (by decide) ?_
  refine kxs_callWith (i := "ValueError.__init__") (x := x) rfl (evalArgs_plain (spliced_cons (wpAny_Constant_str (k := 0) (pos := q 6) ?_)))
  have hu : (h₁.push (kxs_mw "ValueError.__init__" x)).get? h₁.objs.size = some (kxs_mw "ValueError.__init__" x) := Heap.get?_push_at rfl rfl
  have kp : ∀ b o, h₁.get? b = some o → (h₁.push (kxs_mw "ValueError.__init__" x)).get? b = some o := fun b o e => Heap.get?_push_of_some _ e
  refine wpAny_pure ⟨hu, ?_⟩
  refine sup_call T (X₁.keeps kp) hu (kp _ _ hx₁) (one_size _) (fun h₂ t1 k₂ hx₂ => ?_)
  have keep₂ : ∀ b o, b ≠ x → h₀.get? b = some o → h₂.get? b = some o := fun b o hb e => k₂ b o hb (kp _ _ (k₁ _ _ e))
  have n₂ : h₂.Ns hh.objs.size (fun y => ([("self", .ref x), ("code", v1), ("path", v2)] : List (Str × Value)).reverse.lookup y) := by
    obtain ⟨oL, es, ep, hL, r⟩ := hns
    exact ⟨oL, es, ep, keep₂ _ _ hxL hL, r⟩
  have X₂ : K.In h₂ := kept_but X₀ hnx keep₂
  refine wpAt_of_wpAny ?_
  refine wpAny_execs_cons (plainObj_wpAny_Assign_Attribute ?_)
  refine ldX (v := v1) n₂ (by first | rfl | with_unfolding_all rfl | kernel_rfl) (ldX (v := .ref x) n₂ (by first | rfl | with_unfolding_all rfl | kernel_rfl) ?_)
  refine set_plain X₂ (ox := excO C t1) (od := none) ⟨hx₂, rfl, rfl, trivial⟩ T.sa ?_
  refine exc_osa X₂ hx₂ hcl (show refsVE (.ref C :: bm) = true from hbm) rfl T.noC (fun h₃ tk₃ dx k₃ dn dne hx₃ hn₃ => ?_)
  have X₃ : K.In h₃ := kept_but X₂ hnx k₃
  have n₃ : h₃.Ns hh.objs.size (fun y => ([("self", .ref x), ("code", v1), ("path", v2)] : List (Str × Value)).reverse.lookup y) := by
    obtain ⟨oL, es, ep, hL, r⟩ := n₂
    exact ⟨oL, es, ep, k₃ _ _ hxL hL, r⟩
  refine wpAny_execs_cons (plainObj_wpAny_Assign_Attribute ?_)
  refine ldX (v := v2) n₃ (by first | rfl | with_unfolding_all rfl | kernel_rfl) (ldX (v := .ref x) n₃ (by first | rfl | with_unfolding_all rfl | kernel_rfl) ?_)
  have w₃ : PySem.Within (fun y => if y = "code" then some v1 else none) ["code"] := PySem.Within.cons _ _ PySem.Within.nil
  obtain ⟨oD, esD, epD, hoD, hdD, _⟩ := hn₃.count w₃
  refine set_plain X₃ (od := some oD) ⟨hx₃, rfl, rfl, hoD⟩ T.sa ?_
  refine OEX.osa_old X₃ hx₃ hn₃ w₃ (by decide) hcl (show refsVE (.ref C :: bm) = true from hbm) rfl T.noP (fun h₄ tk₄ k₄ hn₄ => ?_)
  refine wpAny_execs_nil (hq h₄ tk₄ dx ⟨fun b o hb e => ?_, ⟨t1, (k₄ _ _ (Ne.symm dne) hx₃)⟩, ?_, dne, hn₄⟩)
  · have hbd : b ≠ dx := fun z => by
      have y := Heap.lt_size (keep₂ b o hb (k _ _ e))
      rw [z] at y
      exact absurd (Nat.lt_of_lt_of_le y dn) (Nat.lt_irrefl _)
    exact k₄ _ _ hbd (k₃ _ _ hb (keep₂ b o hb (k _ _ e)))
  · have z : hh.objs.size < h₂.objs.size := n₂.lt
    exact Nat.le_of_lt (Nat.lt_of_lt_of_le z dn)
theorem prob_made (T : ProbTxt prog K mg C fI) {v1 v2 : Value} (X : K.In s.heap) (hlim : s.heap.NoLimit) (hg : s.heap.Ns mainGlobals mg) (hb : ∃ mb, s.heap.Ns builtinsNs mb ∧ ∀ y : Str, y ≠ "__name__" → mb y = bootBuiltins y) (hroom : A.depth + 1 < recursionLimit)
    (hq : ∀ h' tk e d, OwnMade s.heap h' e C d v1 v2 → R (.ok (.ret (.ref e))) { s with heap := h', toks := tk }) :
    codeAny (model prog w) A (.call (.ref C) ⟨[v1, v2], []⟩) R s := by
  obtain ⟨nm, q, N, bs, bm, sn, sub, ab, col, dd, k0, k1, k2, k3, k5, hC, hbm⟩ := T.cls
  obtain ⟨hp, g, dr, tk, os⟩ := s
  have k : ∀ b o, hp.get? b = some o → ((hp.push (kdv_tup [v1, v2])).push (excO C hp.objs.size)).get? b = some o := fun b o e => Heap.get?_push_of_some _ (Heap.get?_push_of_some _ e)
  have hget : ((hp.push (kdv_tup [v1, v2])).push (excO C hp.objs.size)).get? (hp.objs.size + 1) = some (excO C hp.objs.size) := by heap_get
  have hnx : K.lookup (hp.objs.size + 1) = none := by
    cases e : K.lookup (hp.objs.size + 1) with
    | none => rfl
    | some o =>
      have z : hp.get? (hp.objs.size + 1) = some o := X _ _ e
      exact absurd (Nat.lt_of_succ_lt (Heap.lt_size z)) (Nat.lt_irrefl _)
  obtain ⟨mb, hb, hmb⟩ := hb
  refine call_own PySem.F.excBase_ValueError (fun X => refsVE_contains X bm hbm) (X _ _ hC) (looks_findIn X T.iC) (fun self => bind_fn X self T.tC) (two_size v1 v2) ?_
  refine prob_init (s := ⟨(hp.push (kdv_tup [v1, v2])).push (excO C hp.objs.size), g, dr, tk, os⟩) T (X.keeps k) (hlim.keeps k) (hg.keeps k) ⟨mb, hb.keeps k, hmb⟩ hget hnx ?_ fun h' tk' dx ⟨k', hx, dn, dne, hns⟩ => ?_
  · show A.depth + 1 < recursionLimit
    exact hroom
  · have old : ∀ b o, hp.get? b = some o → h'.get? b = some o := fun b o e => k' b o (Nat.ne_of_lt (Nat.lt_succ_of_lt (Heap.lt_size e))) (k b o e)
    have z : hp.objs.size + 1 + 1 ≤ dx := by
      first
        | (simpa only [Heap.size_push] using dn)
        | exact dn
        | (have q := dn; rw [Heap.size_push, Heap.size_push] at q; exact q)
    obtain ⟨t1, hx⟩ := hx
    exact ⟨rfl, hq h' tk' (hp.objs.size + 1) dx ⟨old, Nat.le_succ _, ⟨_, _, hx, rfl, rfl, rfl, rfl⟩, Nat.le_trans (Nat.le_trans (Nat.le_succ _) (Nat.le_succ _)) z, dne, hns⟩⟩
end
end ProbX
end PySem
namespace L2
open PySem PySem.Spec PyProof.Rows
abbrev xdP (v1 v2 : V) : List (Str × V) := [(("path" : Str), v2), (("code" : Str), v1)]
theorem xdP_code {v1 v2 : V} : List.lookup ("code" : Str) (xdP v1 v2) = some v1 := by
  have q : (("code" : Str) == ("path" : Str)) = false := by decide +kernel
  simp [xdP, List.lookup, q]
theorem xdP_path {v1 v2 : V} : List.lookup ("path" : Str) (xdP v1 v2) = some v2 := by simp [xdP, List.lookup]
theorem relO_prob {v1 v2 : V} {u1 u2 : Value} (r1 : RelV v1 u1) (r2 : RelV v2 u2) (f : Str) : RelO (List.lookup f (xdP v1 v2)) (if f = "path" then some u2 else if f = "code" then some u1 else none) := by
  by_cases hp : f = "path"
  · subst hp
    rw [if_pos rfl, xdP_path]
    exact r2
  · rw [if_neg hp]
    by_cases hc : f = "code"
    · subst hc
      rw [if_pos rfl, xdP_code]
      exact r1
    · rw [if_neg hc]
      have qp : (f == ("path" : Str)) = false := by simpa using hp
      have qc : (f == ("code" : Str)) = false := by simpa using hc
      have q2 : List.lookup f (xdP v1 v2) = none := by simp [xdP, List.lookup, qp, qc]
      rw [q2]
      trivial
section
variable {X : Cx} {C fI : Addr}
/-- TypeProblem(e1, e2) -/
def tMkProb (C : Addr) (ta : TA) : St → Hp → XK → Prop := fun σ H Q => ta σ H fun vs H1 => ∃ v1 v2, vs = [v1, v2] ∧ ∀ d, H1 d = none → Q (.ref C) (some d) (upd H1 d (.xd (xdP v1 v2)))
theorem pmk_prob {a b : Expr} {ta : TA} {p pos : Pos} {k : Nat} (T : PySem.ProbX.ProbTxt X.prog X.K X.mg C fI) (hr : Room k X.A) (ha : PA X [a, b] ta) (hg : Gl X "TypeProblem")
    (he : starEach (a :: [b]) X.env = (false, eval a X.env) :: starEach [b] X.env) (hpl : (backTo pos (starEach [b] X.env)).any (·.1) = false) :
    PMk X (.Call (.Name "TypeProblem" p) [a, b] [] pos) (tMkProb C ta) := by
  intro pins s σ H Q I h
  refine wpAny_Call_Name_kw (ld_glob I hg T.gC ?_)
  refine PySem.W.callWith_K (h₀ := X.base) I.ok.mod.kin T.kC (thn (ha.run pos pins s σ H _ I h) fun us s1 hh => ?_) he hpl
  obtain ⟨vs, H1, I1, r1, v1, v2, ev, q1⟩ := hh
  subst ev
  refine ⟨I1.kIn, ?_⟩
  cases r1 with
  | cons rv rn =>
    rename_i u1 us'
    cases rn with
    | cons rw' rn =>
      rename_i u2 us''
      cases rn
      show wpAny _ _ (call (.ref C) [u1, u2]) _ _ _
      have hlim := I1.nolimit
      have hgl := I1.mod.glob.keeps I1.bk
      obtain ⟨mb, hb1, hb2⟩ := I1.mod.blt
      have hbl := hb1.keeps I1.bk
      obtain ⟨hp, g, dr, tk, os⟩ := s1
      refine wpAny_call (PySem.ProbX.prob_made T I1.kIn hlim hgl ⟨mb, hbl, hb2⟩ (by have := hr.dp; omega) fun h' tk' e d M => ?_)
      show MkP X pins σ Q (.ref e) ⟨h', g, dr, tk', os⟩
      obtain ⟨oe, fv, hoe, hc, hd, hdat, h1⟩ := M.obj
      have hns := M.ns
      obtain ⟨G', g1, g2⟩ := restrict h' fun b => decide (b ≠ e)
      have gk : ∀ b, b ≠ e → G'.get? b = h'.get? b := fun b hb => g1 b (decide_eq_true hb)
      have ge : G'.get? e = none := g2 e (by simp)
      have old : ∀ b o, hp.get? b = some o → G'.get? b = some o := fun b o q => (gk b (Nat.ne_of_lt (Nat.lt_of_lt_of_le (Heap.lt_size q) M.new))).trans (M.keep b o q)
      have ob : ObjOk X.prog X.w (upd H1 d (.xd (xdP v1 v2))) G' d (.xd (xdP v1 v2)) :=
        ⟨_, hns.at (fun o q => (gk d M.dne).trans q), fun f => relO_prob rv rw' f⟩
      have J : Inv X pins σ (upd H1 d (.xd (xdP v1 v2))) ⟨G', g, dr, tk', os⟩ := I1.laid (t' := tk') old M.dbig ob
      refine ⟨e, oe, fv, ⟨G', g, dr, tk', os⟩, _, .ref C, some d, rfl, J, fun b o q => ?_, ge, hoe, ⟨hc, hd⟩, hdat, h1, ?_, rfl, I1.bare, raises_own T.exC T.tyC, q1 d (I1.hok.fresh M.dbig)⟩
      · by_cases hb : b = e
        · have q' : G'.get? b = some o := q
          rw [hb, ge] at q'; cases q'
        · exact (gk b hb).symm.trans q
      · rw [upd_ne (Ne.symm M.dne)]
        exact I1.hok.fresh M.new
/-- e.code, e.path: e the exception that the suite holds (at a; its class cls, its dict d) -/
def tFldP (C : Addr) (f : Str) (a : Addr) (cls : Value) (d : Option Addr) (te : TE) : TE := fun σ H Q => te σ H fun x H1 => x = .ref a ∧ cls = .ref C ∧ ∃ (dd : Addr) (v1 v2 v : V), d = some dd ∧ H1 dd = some (.xd (xdP v1 v2)) ∧ List.lookup f (xdP v1 v2) = some v ∧ Q v H1
theorem pe_fldP {a : Addr} {oe : Obj} {cls : Value} {d : Option Addr} {pn : List (Addr × Obj)} {e : Expr} {te : TE} {f : Str} {pos : Pos} (T : PySem.ProbX.ProbTxt X.prog X.K X.mg C fI) (hn : PySem.W.findIn X.K (.ref C) f = some none) (hz : Zc cls d oe) (hf : ∃ vs, oe.data = .fields vs) (he : PE (X.suite a ((a, oe) :: pn)) e te)
    (hb : attributeBase e f X.env (eval e X.env) = eval e X.env) :
    PE (X.suite a ((a, oe) :: pn)) (.Attribute e f pos) (tFldP C f a cls d te) := by
  refine ⟨fun pins s σ H Q I h => ?_⟩
  refine attr_of hb (thn (he.run pins s σ H _ I h) fun u s1 hh => ?_)
  obtain ⟨x, H1, I1, rx, ex, ec, dd, v1, v2, v, ed, ea, l, q⟩ := hh
  subst ex
  obtain rfl : u = Value.ref a := rx
  subst ec
  subst ed
  obtain ⟨ha, _⟩ := I1.pin (a, oe) (List.mem_append_left _ List.mem_cons_self)
  obtain ⟨vs, hd⟩ := hf
  have hx : ObjOk X.prog X.w H1 s1.heap dd (.xd (xdP v1 v2)) := I1.hok dd _ ea
  obtain ⟨mA, hns, hr⟩ := hx
  obtain ⟨od, ho, hl⟩ := lookIn_ns hns
  obtain ⟨u, hu, ru⟩ := RelO.some_of (v := v) (o := mA f) (by rw [← l]; exact hr f)
  have J : PySem.W.InstAt s1.heap a oe C (some od) := ⟨ha, hz.1, by unfold PySem.W.notCls; rw [hd] <;> rfl, by rw [hz.2]; exact ho⟩
  exact HandSPX.exc_get I1.kIn J T.ga T.gg T.exC (PySem.W.findObj_own T.hdC hn rfl (by rw [hl, hu])) (handed_of ru) ⟨v, H1, I1.tok _, ru, q⟩
end
end L2

/-! ## EvRep -/
/-! EvRep: how the evaluator's values and heaps stand in the abstract heap of the hand layer. -/
namespace Ev
open PySem PySem.Spec PyProof.Rows L2

/-- what the module's names stand for: the written part, the globals -/
structure Md where
  K : PySem.W.Frag
  mg : Str → Option Value
abbrev Ph := List Addr

def FzL (K : PySem.W.Frag) (H : Hp) (a : Addr) (xs : List V) : Prop :=
  (∃ o, H a = some (.frz o (.lst xs))) ∨
    ∃ (o : Obj) (its : Array Value) (n : Nat), K.lookup a = some o ∧ o.cls = .type "list" ∧ o.dict = none ∧ o.data = .seq its n ∧ its.size ≤ sizeLine ∧ Vals xs its.toList
theorem FzL.sq {K : PySem.W.Frag} {H : Hp} {a : Addr} {xs : List V} (h : FzL K H a xs) : SqL K H a xs := by
  rcases h with h | h
  · exact .inl (.inr h)
  · exact .inr h
def GV (mg : Str → Option Value) (x : Str) (v : V) : Prop := ∃ u, RelV v u ∧ (mg x = some u ∨ (mg x = none ∧ bootBuiltins x = some u))

mutual
def Rep (G : Md) (φ : Ph) (H : Hp) : D → V → Prop
  | .non, v => v = .non
  | .bl b, v => v = .bl b
  | .int i, v => v = .int i
  | .str s, v => v = .str (Str.ofString s)
  | .tup ds, v => ∃ a vs, v = .ref a ∧ SqT G.K H a vs ∧ Reps G φ H ds vs
  | .frl ds, v => ∃ a vs, v = .ref a ∧ FzL G.K H a vs ∧ Reps G φ H ds vs
  | .ref n, v => ∃ a, φ[n]? = some a ∧ v = .ref a
  | .gl x, v => GV G.mg (Str.ofString x) v
def Reps (G : Md) (φ : Ph) (H : Hp) : List D → List V → Prop
  | [], vs => vs = []
  | d :: ds, vs => ∃ v r, vs = v :: r ∧ Rep G φ H d v ∧ Reps G φ H ds r
end
def KR : D → Key → Prop
  | .int i, .inl j => j = i
  | .str s, .inr x => x = Str.ofString s
  | _, _ => False
def KReps (G : Md) (φ : Ph) (H : Hp) : List (D × D) → List (Key × V) → Prop
  | [], ks => ks = []
  | (k, d) :: r, ks => ∃ j v s, ks = (j, v) :: s ∧ KR k j ∧ Rep G φ H d v ∧ KReps G φ H r s
/-- an instance's fields -/
def FReps (G : Md) (φ : Ph) (H : Hp) : List (String × D) → List (Str × V) → Prop
  | [], ks => ks = []
  | (f, d) :: r, ks => ∃ v s, ks = (Str.ofString f, v) :: s ∧ Rep G φ H d v ∧ FReps G φ H r s
def ORep (G : Md) (φ : Ph) (H : Hp) : AO → HO → Prop
  | .lst ds, ho => ∃ vs, ho = .lst vs ∧ Reps G φ H ds vs
  | .dct kvs, ho => ∃ ks, ho = .dK ks ∧ KReps G φ H kvs ks
  | .lk kvs, ho => ∃ o ks, ho = .frz o (.dK ks) ∧ KReps G φ H kvs ks
  | .ins c fs, ho => ∃ C dx vs, ho = .ins C dx vs ∧ G.mg (Str.ofString c) = some (.ref C) ∧ FReps G φ H fs vs
structure HR (G : Md) (φ : Ph) (H : Hp) (A : AH) : Prop where
  len : φ.length = A.length
  inj : ∀ (i j : Nat) (a : Addr), φ[i]? = some a → φ[j]? = some a → i = j
  at_ : ∀ (n : Nat) (a : Addr) (o : AO), φ[n]? = some a → A[n]? = some o → ∃ ho, H a = some ho ∧ ORep G φ H o ho
structure Ext (φ : Ph) (H : Hp) (φ' : Ph) (H' : Hp) : Prop where
  pre : ∃ m, φ' = φ ++ m
  keep : ∀ a o, H a = some o → a ∉ φ → H' a = some o
  new : ∀ a, a ∈ φ' → a ∉ φ → H a = none
  frz : ∀ a o u, H a = some (.frz o u) → H' a = some (.frz o u)
/-- not locked -/
def NF (H : Hp) (a : Addr) : Prop := ∀ o u, H a ≠ some (.frz o u)
theorem NF.lst {H : Hp} {a : Addr} {vs : List V} (e : H a = some (.lst vs)) : NF H a := fun o u z => by rw [e] at z; cases z
theorem NF.dK {H : Hp} {a : Addr} {ks : List (Key × V)} (e : H a = some (.dK ks)) : NF H a := fun o u z => by rw [e] at z; cases z

theorem Ext.refl {φ : Ph} {H : Hp} : Ext φ H φ H := ⟨⟨[], by simp⟩, fun _ _ e _ => e, fun a h n => absurd h n, fun _ _ _ e => e⟩
theorem Ext.trans {φ φ1 φ2 : Ph} {H H1 H2 : Hp} (a : Ext φ H φ1 H1) (b : Ext φ1 H1 φ2 H2) : Ext φ H φ2 H2 := by
  obtain ⟨m1, e1⟩ := a.pre
  obtain ⟨m2, e2⟩ := b.pre
  refine ⟨⟨m1 ++ m2, by rw [e2, e1, List.append_assoc]⟩, fun c o e n => ?_, fun c h n => ?_, fun c o u e => b.frz c o u (a.frz c o u e)⟩
  · refine b.keep c o (a.keep c o e n) fun h => ?_
    rw [a.new c h n] at e; cases e
  · by_cases h1 : c ∈ φ1
    · exact a.new c h1 n
    · have := b.new c h h1
      cases e : H c with
      | none => rfl
      | some o => rw [a.keep c o e n] at this; cases this
theorem Ext.get {φ φ' : Ph} {H H' : Hp} (x : Ext φ H φ' H') {n : Nat} {a : Addr} (h : φ[n]? = some a) : φ'[n]? = some a := by
  obtain ⟨m, e⟩ := x.pre
  rw [e, List.getElem?_append_left (List.getElem?_eq_some_iff.mp h).1]; exact h
theorem Ext.mem {φ φ' : Ph} {H H' : Hp} (x : Ext φ H φ' H') {a : Addr} (h : a ∈ φ) : a ∈ φ' := by
  obtain ⟨m, e⟩ := x.pre
  rw [e]; exact List.mem_append_left _ h

/-- an object that the evaluator's heap may hold -/
def Held : HO → Prop
  | .lst _ => True
  | .dK _ => True
  | .frz _ (.dK _) => True
  | .ins _ _ _ => True
  | _ => False
section
variable {G : Md} {φ φ' : Ph} {H H' : Hp} {A : AH}
theorem ORep.held {o : AO} {ho : HO} (h : ORep G φ H o ho) : Held ho := by
  cases o with
  | lst ds => obtain ⟨vs, rfl, _⟩ := h; trivial
  | dct kvs => obtain ⟨ks, rfl, _⟩ := h; trivial
  | lk kvs => obtain ⟨o, ks, rfl, _⟩ := h; trivial
  | ins c fs => obtain ⟨C, dx, vs, rfl, _⟩ := h; trivial
theorem HR.mem (h : HR G φ H A) {a : Addr} (ha : a ∈ φ) : ∃ (n : Nat) (o : AO) (ho : HO), φ[n]? = some a ∧ A[n]? = some o ∧ H a = some ho ∧ ORep G φ H o ho := by
  obtain ⟨n, hn, e⟩ := List.mem_iff_getElem.mp ha
  have h1 : φ[n]? = some a := by rw [List.getElem?_eq_getElem hn, e]
  have h2 : n < A.length := by rw [← h.len]; exact hn
  obtain ⟨ho, e1, e2⟩ := h.at_ n a _ h1 (List.getElem?_eq_getElem h2)
  exact ⟨n, _, ho, h1, List.getElem?_eq_getElem h2, e1, e2⟩
theorem HR.notMem (h : HR G φ H A) {a : Addr} {ho : HO} (e : H a = some ho) (n : ¬ Held ho) : a ∉ φ := fun ha => by
  obtain ⟨_, _, ho', _, _, e1, e2⟩ := h.mem ha
  rw [e] at e1; cases e1
  exact n e2.held
theorem HR.notMemN (h : HR G φ H A) {a : Addr} (e : H a = none) : a ∉ φ := fun ha => by
  obtain ⟨_, _, ho', _, _, e1, e2⟩ := h.mem ha
  rw [e] at e1; cases e1
/-- tuples and what is known -/
def Still : HO → Prop
  | .tup _ => True
  | .frz _ (.tup _) => True
  | .frz _ (.lst _) => True
  | _ => False
theorem Still.notHeld {o : HO} (s : Still o) : ¬ Held o := fun h => by
  cases o with
  | frz o u => cases u <;> first | exact s | exact h
  | _ => first | exact s | exact h
structure Mono (φ : Ph) (H : Hp) (φ' : Ph) (H' : Hp) : Prop where
  pre : ∃ m, φ' = φ ++ m
  still : ∀ a o, H a = some o → Still o → H' a = some o
theorem Mono.get (x : Mono φ H φ' H') {n : Nat} {a : Addr} (h : φ[n]? = some a) : φ'[n]? = some a := by
  obtain ⟨m, e⟩ := x.pre
  rw [e, List.getElem?_append_left (List.getElem?_eq_some_iff.mp h).1]; exact h
theorem Ext.mono (h : HR G φ H A) (x : Ext φ H φ' H') : Mono φ H φ' H' := ⟨x.pre, fun a o e s => x.keep a o e (h.notMem e s.notHeld)⟩
theorem SqT.mono {a : Addr} {xs : List V} (x : Mono φ H φ' H') (q : SqT G.K H a xs) : SqT G.K H' a xs := by
  rcases q with (q | ⟨o, q⟩) | q
  · exact .inl (.inl (x.still _ _ q trivial))
  · exact .inl (.inr ⟨o, x.still _ _ q trivial⟩)
  · exact .inr q
theorem FzL.mono {a : Addr} {xs : List V} (x : Mono φ H φ' H') (q : FzL G.K H a xs) : FzL G.K H' a xs := by
  rcases q with ⟨o, q⟩ | q
  · exact .inl ⟨o, x.still _ _ q trivial⟩
  · exact .inr q
mutual
theorem Rep.mono (x : Mono φ H φ' H') : ∀ (d : D) (v : V), Rep G φ H d v → Rep G φ' H' d v
  | .non, _, r => r
  | .bl _, _, r => r
  | .int _, _, r => r
  | .str _, _, r => r
  | .tup ds, v, r => by
    obtain ⟨a, vs, e, q, rs⟩ := r
    exact ⟨a, vs, e, SqT.mono x q, Reps.mono x ds vs rs⟩
  | .frl ds, v, r => by
    obtain ⟨a, vs, e, q, rs⟩ := r
    exact ⟨a, vs, e, FzL.mono x q, Reps.mono x ds vs rs⟩
  | .ref n, v, r => by
    obtain ⟨a, e1, e2⟩ := r
    exact ⟨a, x.get e1, e2⟩
  | .gl _, _, r => r
theorem Reps.mono (x : Mono φ H φ' H') : ∀ (ds : List D) (vs : List V), Reps G φ H ds vs → Reps G φ' H' ds vs
  | [], _, r => r
  | d :: ds, vs, r => by
    obtain ⟨v, s, e, r1, r2⟩ := r
    exact ⟨v, s, e, Rep.mono x d v r1, Reps.mono x ds s r2⟩
end
theorem KReps.mono (x : Mono φ H φ' H') : ∀ (kvs : List (D × D)) (ks : List (Key × V)), KReps G φ H kvs ks → KReps G φ' H' kvs ks
  | [], _, r => r
  | (k, d) :: kvs, ks, r => by
    obtain ⟨j, v, s, e, r0, r1, r2⟩ := r
    exact ⟨j, v, s, e, r0, Rep.mono x d v r1, KReps.mono x kvs s r2⟩
theorem FReps.mono (x : Mono φ H φ' H') : ∀ (kvs : List (String × D)) (ks : List (Str × V)), FReps G φ H kvs ks → FReps G φ' H' kvs ks
  | [], _, r => r
  | (k, d) :: kvs, ks, r => by
    obtain ⟨v, s, e, r1, r2⟩ := r
    exact ⟨v, s, e, Rep.mono x d v r1, FReps.mono x kvs s r2⟩
theorem ORep.mono (x : Mono φ H φ' H') {o : AO} {ho : HO} (r : ORep G φ H o ho) : ORep G φ' H' o ho := by
  cases o with
  | lst ds => obtain ⟨vs, e, r⟩ := r; exact ⟨vs, e, Reps.mono x _ _ r⟩
  | dct kvs => obtain ⟨ks, e, r⟩ := r; exact ⟨ks, e, KReps.mono x _ _ r⟩
  | lk kvs => obtain ⟨o, ks, e, r⟩ := r; exact ⟨o, ks, e, KReps.mono x _ _ r⟩
  | ins c fs => obtain ⟨C, dx, vs, e, g, r⟩ := r; exact ⟨C, dx, vs, e, g, FReps.mono x _ _ r⟩
theorem SqT.ext {a : Addr} {xs : List V} (h : HR G φ H A) (x : Ext φ H φ' H') (q : SqT G.K H a xs) : SqT G.K H' a xs := SqT.mono (x.mono h) q
theorem FzL.ext {a : Addr} {xs : List V} (h : HR G φ H A) (x : Ext φ H φ' H') (q : FzL G.K H a xs) : FzL G.K H' a xs := FzL.mono (x.mono h) q
theorem Rep.ext {d : D} {v : V} (h : HR G φ H A) (x : Ext φ H φ' H') (r : Rep G φ H d v) : Rep G φ' H' d v := Rep.mono (x.mono h) d v r
theorem Reps.ext {ds : List D} {vs : List V} (h : HR G φ H A) (x : Ext φ H φ' H') (r : Reps G φ H ds vs) : Reps G φ' H' ds vs := Reps.mono (x.mono h) ds vs r
theorem KReps.ext {kvs : List (D × D)} {ks : List (Key × V)} (h : HR G φ H A) (x : Ext φ H φ' H') (r : KReps G φ H kvs ks) : KReps G φ' H' kvs ks := KReps.mono (x.mono h) kvs ks r
theorem ORep.ext {o : AO} {ho : HO} (h : HR G φ H A) (x : Ext φ H φ' H') (r : ORep G φ H o ho) : ORep G φ' H' o ho := ORep.mono (x.mono h) r
/-- a new thing beside -/
theorem Ext.beside {p : Addr} {o : HO} (hp : H p = none) : Ext φ H φ (upd H p o) :=
  ⟨⟨[], by simp⟩, fun a o' e _ => by rw [upd_ne (ne_of_none e hp)]; exact e, fun a h n => absurd h n, fun a o' u e => by rw [upd_ne (ne_of_none e hp)]; exact e⟩
theorem HR.beside (h : HR G φ H A) {p : Addr} {o : HO} (hp : H p = none) : HR G φ (upd H p o) A := by
  have x : Ext φ H φ (upd H p o) := Ext.beside hp
  refine ⟨h.len, h.inj, fun n a ob e1 e2 => ?_⟩
  obtain ⟨ho, e3, r⟩ := h.at_ n a ob e1 e2
  exact ⟨ho, by rw [upd_ne (ne_of_none e3 hp)]; exact e3, r.ext h x⟩
/-- a new object -/
theorem Ext.push {p : Addr} {o : HO} (hp : H p = none) : Ext φ H (φ ++ [p]) (upd H p o) := by
  refine ⟨⟨[p], rfl⟩, fun a o' e _ => by rw [upd_ne (ne_of_none e hp)]; exact e, fun a h n => ?_, fun a o' u e => by rw [upd_ne (ne_of_none e hp)]; exact e⟩
  rcases List.mem_append.mp h with h | h
  · exact absurd h n
  · rw [List.mem_singleton.mp h]; exact hp
theorem HR.push (h : HR G φ H A) {p : Addr} {o : AO} {ho : HO} (hp : H p = none) (r : ORep G φ H o ho) : HR G (φ ++ [p]) (upd H p ho) (A ++ [o]) := by
  have x : Ext φ H (φ ++ [p]) (upd H p ho) := Ext.push hp
  have np : p ∉ φ := h.notMemN hp
  have cases_ : ∀ (n : Nat) (a : Addr), (φ ++ [p])[n]? = some a → φ[n]? = some a ∨ (n = φ.length ∧ a = p) := fun n a e => by
    by_cases hn : n < φ.length
    · rw [List.getElem?_append_left hn] at e; exact .inl e
    · rw [List.getElem?_append_right (Nat.le_of_not_lt hn)] at e
      obtain ⟨h1, h2⟩ := List.getElem?_eq_some_iff.mp e
      have : n - φ.length = 0 := by simpa using h1
      refine .inr ⟨by omega, ?_⟩
      have h3 : [p][n - φ.length] = p := by simp
      rw [← h2, h3]
  refine ⟨by simp [h.len], fun i j a e1 e2 => ?_, fun n a ob e1 e2 => ?_⟩
  · rcases cases_ i a e1 with e1 | ⟨h1, e1⟩ <;> rcases cases_ j a e2 with e2 | ⟨h2, e2⟩
    · exact h.inj i j a e1 e2
    · exact absurd (e2 ▸ List.mem_of_getElem? e1 : p ∈ φ) np
    · exact absurd (e1 ▸ List.mem_of_getElem? e2 : p ∈ φ) np
    · omega
  · rcases cases_ n a e1 with e1 | ⟨h1, e1⟩
    · have hn : n < A.length := by rw [← h.len]; exact (List.getElem?_eq_some_iff.mp e1).1
      rw [List.getElem?_append_left hn] at e2
      obtain ⟨ho', e3, r'⟩ := h.at_ n a ob e1 e2
      exact ⟨ho', by rw [upd_ne (ne_of_none e3 hp)]; exact e3, r'.ext h x⟩
    · subst e1
      rw [h1, h.len] at e2
      simp at e2
      subst e2
      exact ⟨ho, upd_same, r.ext h x⟩
/-- an object that was laid ahead of what goes in -/
theorem Ext.lay {φ2 : Ph} {H2 : Hp} {p : Addr} {o ho : HO} (x : Ext φ (upd H p o) φ2 H2) (hp : H p = none) : Ext φ H (φ2 ++ [p]) (upd H2 p ho) := by
  obtain ⟨m, e⟩ := x.pre
  refine ⟨⟨m ++ [p], by rw [e, List.append_assoc]⟩, fun a o' ea n => ?_, fun a h n => ?_, fun a o' u ea => ?_⟩
  · have hne : a ≠ p := ne_of_none ea hp
    rw [upd_ne hne]
    exact x.keep a o' (by rw [upd_ne hne]; exact ea) n
  · rcases List.mem_append.mp h with h | h
    · have := x.new a h n
      unfold upd at this
      split at this
      · cases this
      · exact this
    · rw [List.mem_singleton.mp h]; exact hp
  · have hne : a ≠ p := ne_of_none ea hp
    rw [upd_ne hne]
    exact x.frz a o' u (by rw [upd_ne hne]; exact ea)
/-- it stands, and is none of the evaluator's -/
theorem Ext.laid {φ2 : Ph} {H2 : Hp} {p : Addr} {o : HO} (x : Ext φ (upd H p o) φ2 H2) (np : p ∉ φ) : H2 p = some o ∧ p ∉ φ2 := by
  refine ⟨x.keep p o upd_same np, fun h => ?_⟩
  have := x.new p h np
  rw [upd_same] at this; cases this
theorem Mono.lay {p : Addr} {o ho : HO} (hp : H p = some o) (ns : ¬ Still o) : Mono φ H (φ ++ [p]) (upd H p ho) :=
  ⟨⟨[p], rfl⟩, fun a o' e s => by
    rw [upd_ne (show a ≠ p from fun q => by rw [q, hp] at e; cases e; exact ns s)]; exact e⟩
/-- a tracked thing of our own is changed -/
theorem Mono.own {p : Addr} {o ho : HO} (hp : H p = some o) (ns : ¬ Still o) : Mono φ H φ (upd H p ho) :=
  ⟨⟨[], by simp⟩, fun a o' e s => by
    rw [upd_ne (show a ≠ p from fun q => by rw [q, hp] at e; cases e; exact ns s)]; exact e⟩
theorem HR.lay (h : HR G φ H A) {p : Addr} {o : AO} {ho hq : HO} (hp : H p = some hq) (ns : ¬ Still hq) (np : p ∉ φ) (r : ORep G φ H o ho) : HR G (φ ++ [p]) (upd H p ho) (A ++ [o]) := by
  have x : Mono φ H (φ ++ [p]) (upd H p ho) := Mono.lay hp ns
  have cases_ : ∀ (n : Nat) (a : Addr), (φ ++ [p])[n]? = some a → φ[n]? = some a ∨ (n = φ.length ∧ a = p) := fun n a e => by
    by_cases hn : n < φ.length
    · rw [List.getElem?_append_left hn] at e; exact .inl e
    · rw [List.getElem?_append_right (Nat.le_of_not_lt hn)] at e
      obtain ⟨h1, h2⟩ := List.getElem?_eq_some_iff.mp e
      have : n - φ.length = 0 := by simpa using h1
      refine .inr ⟨by omega, ?_⟩
      have h3 : [p][n - φ.length] = p := by simp
      rw [← h2, h3]
  refine ⟨by simp [h.len], fun i j a e1 e2 => ?_, fun n a ob e1 e2 => ?_⟩
  · rcases cases_ i a e1 with e1 | ⟨h1, e1⟩ <;> rcases cases_ j a e2 with e2 | ⟨h2, e2⟩
    · exact h.inj i j a e1 e2
    · exact absurd (e2 ▸ List.mem_of_getElem? e1 : p ∈ φ) np
    · exact absurd (e1 ▸ List.mem_of_getElem? e2 : p ∈ φ) np
    · omega
  · rcases cases_ n a e1 with e1 | ⟨h1, e1⟩
    · have hn : n < A.length := by rw [← h.len]; exact (List.getElem?_eq_some_iff.mp e1).1
      rw [List.getElem?_append_left hn] at e2
      obtain ⟨ho', e3, r'⟩ := h.at_ n a ob e1 e2
      exact ⟨ho', by rw [upd_ne (show a ≠ p from fun q => np (q ▸ List.mem_of_getElem? e1))]; exact e3, r'.mono x⟩
    · subst e1
      rw [h1, h.len] at e2
      simp at e2
      subst e2
      exact ⟨ho, upd_same, r.mono x⟩
/-- a tracked thing of our own is changed: the evaluator's heap stands -/
theorem HR.own (h : HR G φ H A) {p : Addr} {ho hq : HO} (hp : H p = some hq) (ns : ¬ Still hq) (np : p ∉ φ) : HR G φ (upd H p ho) A := by
  refine ⟨h.len, h.inj, fun n a ob e1 e2 => ?_⟩
  obtain ⟨ho', e3, r'⟩ := h.at_ n a ob e1 e2
  exact ⟨ho', by rw [upd_ne (show a ≠ p from fun q => np (q ▸ List.mem_of_getElem? e1))]; exact e3, r'.mono (Mono.own hp ns)⟩
/-- an object is changed -/
theorem Ext.set {a : Addr} {o : HO} (ha : a ∈ φ) (nf : NF H a) : Ext φ H φ (upd H a o) :=
  ⟨⟨[], by simp⟩, fun b o' e n => by rw [upd_ne (show b ≠ a from fun q => n (by rw [q]; exact ha))]; exact e, fun a h n => absurd h n, fun b o' u e => by rw [upd_ne (show b ≠ a from fun q => nf o' u (by rw [← q]; exact e))]; exact e⟩
theorem HR.set (h : HR G φ H A) {n : Nat} {a : Addr} {o : AO} {ho : HO} (hn : φ[n]? = some a) (nf : NF H a) (r : ORep G φ H o ho) : HR G φ (upd H a ho) (A.set n o) := by
  have x : Ext φ H φ (upd H a ho) := Ext.set (List.mem_of_getElem? hn) nf
  refine ⟨by simp [h.len], h.inj, fun m b ob e1 e2 => ?_⟩
  by_cases hm : m = n
  · subst hm
    rw [hn] at e1; cases e1
    have hl : m < A.length := by rw [← h.len]; exact (List.getElem?_eq_some_iff.mp hn).1
    rw [List.getElem?_set_self hl] at e2
    cases e2
    exact ⟨ho, upd_same, r.ext h x⟩
  · rw [List.getElem?_set_ne (Ne.symm hm)] at e2
    obtain ⟨ho', e3, r'⟩ := h.at_ m b ob e1 e2
    refine ⟨ho', ?_, r'.ext h x⟩
    rw [upd_ne (show b ≠ a from fun q => hm (h.inj m n a (by rw [← q]; exact e1) hn))]; exact e3
theorem HR.ref (h : HR G φ H A) {n : Nat} {v : V} {o : AO} (r : Rep G φ H (.ref n) v) (e : A[n]? = some o) : ∃ a ho, v = .ref a ∧ φ[n]? = some a ∧ H a = some ho ∧ ORep G φ H o ho := by
  obtain ⟨a, e1, e2⟩ := r
  obtain ⟨ho, e3, r'⟩ := h.at_ n a o e1 e
  exact ⟨a, ho, e2, e1, e3, r'⟩

/-! ### lists of values -/
theorem Reps.length : ∀ {ds : List D} {vs : List V}, Reps G φ H ds vs → vs.length = ds.length
  | [], _, r => by rw [show _ = [] from r]; rfl
  | d :: ds, vs, r => by
    obtain ⟨v, s, rfl, _, r2⟩ := r
    simp [Reps.length r2]
theorem Reps.nil : Reps G φ H [] [] := rfl
theorem Reps.cons {d : D} {ds : List D} {v : V} {vs : List V} (r : Rep G φ H d v) (rs : Reps G φ H ds vs) : Reps G φ H (d :: ds) (v :: vs) := ⟨v, vs, rfl, r, rs⟩
theorem Reps.append : ∀ {ds es : List D} {vs ws : List V}, Reps G φ H ds vs → Reps G φ H es ws → Reps G φ H (ds ++ es) (vs ++ ws)
  | [], _, _, _, r, s => by rw [show _ = [] from r]; exact s
  | d :: ds, es, vs, ws, r, s => by
    obtain ⟨v, t, rfl, r1, r2⟩ := r
    exact ⟨v, t ++ ws, rfl, r1, Reps.append r2 s⟩
theorem Reps.get : ∀ {ds : List D} {vs : List V} {i : Nat} {d : D}, Reps G φ H ds vs → ds[i]? = some d → ∃ v, vs[i]? = some v ∧ Rep G φ H d v
  | [], _, _, _, _, e => by simp at e
  | d :: ds, vs, 0, d', r, e => by
    obtain ⟨v, t, rfl, r1, r2⟩ := r
    simp at e; subst e
    exact ⟨v, rfl, r1⟩
  | d :: ds, vs, i + 1, d', r, e => by
    obtain ⟨v, t, rfl, r1, r2⟩ := r
    obtain ⟨w, e1, r3⟩ := Reps.get (i := i) r2 (by simpa using e)
    exact ⟨w, by simpa using e1, r3⟩
theorem Reps.drop : ∀ {ds : List D} {vs : List V} (n : Nat), Reps G φ H ds vs → Reps G φ H (ds.drop n) (vs.drop n)
  | _, _, 0, r => r
  | [], _, n + 1, r => by rw [show _ = [] from r]; exact rfl
  | d :: ds, vs, n + 1, r => by
    obtain ⟨v, t, rfl, r1, r2⟩ := r
    exact Reps.drop n r2
theorem Reps.take : ∀ {ds : List D} {vs : List V} (n : Nat), Reps G φ H ds vs → Reps G φ H (ds.take n) (vs.take n)
  | _, _, 0, _ => rfl
  | [], _, n + 1, r => by rw [show _ = [] from r]; exact rfl
  | d :: ds, vs, n + 1, r => by
    obtain ⟨v, t, rfl, r1, r2⟩ := r
    exact ⟨v, t.take n, rfl, r1, Reps.take n r2⟩
theorem Reps.set : ∀ {ds : List D} {vs : List V} {d : D} {v : V} (i : Nat), Reps G φ H ds vs → Rep G φ H d v → Reps G φ H (ds.set i d) (vs.set i v)
  | [], _, _, _, _, r, _ => by rw [show _ = [] from r]; exact rfl
  | d :: ds, vs, d', v', 0, r, s => by
    obtain ⟨v, t, rfl, r1, r2⟩ := r
    exact ⟨v', t, rfl, s, r2⟩
  | d :: ds, vs, d', v', i + 1, r, s => by
    obtain ⟨v, t, rfl, r1, r2⟩ := r
    exact ⟨v, t.set i v', rfl, r1, Reps.set i r2 s⟩
theorem Reps.dropLast : ∀ {ds : List D} {vs : List V}, Reps G φ H ds vs → Reps G φ H ds.dropLast vs.dropLast := fun {ds vs} r => by
  rw [List.dropLast_eq_take, List.dropLast_eq_take, r.length]; exact r.take _

/-! ### the frame -/
def FR (G : Md) (φ : Ph) (H : Hp) (F : Fr) (σ : L2.St) : Prop := F.length = σ.length ∧ ∀ (i : Nat) (d : D), F[i]? = some (some d) → ∃ v, σ[i]? = some (some v) ∧ Rep G φ H d v
theorem FR.mono {F : Fr} {σ : L2.St} (x : Mono φ H φ' H') (r : FR G φ H F σ) : FR G φ' H' F σ :=
  ⟨r.1, fun i d e => let ⟨v, e1, r1⟩ := r.2 i d e; ⟨v, e1, Rep.mono x _ _ r1⟩⟩
theorem FR.ext {F : Fr} {σ : L2.St} (h : HR G φ H A) (x : Ext φ H φ' H') (r : FR G φ H F σ) : FR G φ' H' F σ := r.mono (x.mono h)
theorem FR.set {F : Fr} {σ : L2.St} {d : D} {v : V} (r : FR G φ H F σ) (i : Nat) (s : Rep G φ H d v) : FR G φ H (fset F i d) (σ.set i (some v)) := by
  refine ⟨by simp [fset, r.1], fun j e h => ?_⟩
  unfold fset at h
  by_cases hj : i = j
  · subst hj
    by_cases hl : i < F.length
    · rw [List.getElem?_set_self hl] at h
      cases h
      rw [r.1] at hl
      exact ⟨v, by rw [List.getElem?_set_self hl], s⟩
    · rw [List.getElem?_eq_none (by simpa using hl)] at h; cases h
  · rw [List.getElem?_set_ne hj] at h
    obtain ⟨w, e1, r1⟩ := r.2 j e h
    exact ⟨w, by rw [List.getElem?_set_ne hj]; exact e1, r1⟩
theorem FR.wipe {F : Fr} {σ : L2.St} (r : FR G φ H F σ) : ∀ l : List Nat, FR G φ H (wipeF F l) (L2.wipe σ l)
  | [] => r
  | i :: l => by
    have ih := FR.wipe r l
    refine ⟨by simp [wipeF, L2.wipe, ih.1], fun j e h => ?_⟩
    unfold wipeF at h
    unfold L2.wipe
    by_cases hj : i = j
    · subst hj
      by_cases hl : i < (wipeF F l).length
      · rw [List.getElem?_set_self hl] at h; cases h
      · rw [List.getElem?_eq_none (by simpa using hl)] at h; cases h
    · rw [List.getElem?_set_ne hj] at h
      obtain ⟨w, e1, r1⟩ := ih.2 j e h
      exact ⟨w, by rw [List.getElem?_set_ne hj]; exact e1, r1⟩
end
end Ev

/-! ## XTup -/
/-! XTup: tuple * 0, tuple * 1. -/
namespace L2
open PySem PySem.Spec PyProof.Rows
theorem tuple_mul0 (l : Addr) (items : Array Value) (n : Nat) (dd : Option Addr) (sl : Array (Option Value)) (u : Tok) (hne : items.isEmpty = false) :
    Meets (Builtin.«tuple.__mul__» ⟨[.ref l, .int 0 u], []⟩) (fun _ R s => s.heap.get? l = some { cls := .type "tuple", dict := dd, data := .seq items n, slots := sl } ∧
      R (.ok (.ret (Value.ref s.heap.objs.size))) { s with heap := s.heap.push { cls := Value.type "tuple", data := Data.seq #[] }, toks := s.toks }) :=
  .of_wp fun prog w A R s h => by
    obtain ⟨hp, g, d, tk, os⟩ := s
    obtain ⟨hl, h⟩ := h
    have f1 := AutoSeq1.idx_int
    wp_walk using wpAny_loadPart' hl
    exact ⟨_, rfl, h⟩
theorem tuple_mul1 (l : Addr) (items : Array Value) (n : Nat) (dd : Option Addr) (sl : Array (Option Value)) (u : Tok) :
    Meets (Builtin.«tuple.__mul__» ⟨[.ref l, .int 1 u], []⟩) (fun _ R s => s.heap.get? l = some { cls := .type "tuple", dict := dd, data := .seq items n, slots := sl } ∧
      R (.ok (.ret (Value.ref l))) s) :=
  .of_wp fun prog w A R s h => by
    obtain ⟨hp, g, d, tk, os⟩ := s
    obtain ⟨hl, h⟩ := h
    have f1 := AutoSeq1.idx_int
    wp_walk using wpAny_loadPart' hl
    exact ⟨_, rfl, h⟩
def rRepS (K : PySem.W.Frag) : R2 := fun x y H Q => ∃ l k xs, x = .ref l ∧ y = .int k ∧ SqT K H l xs ∧ xs ≠ [] ∧ ((k = 0 ∧ ∀ p, H p = none → Q (.ref p) (upd H p (.tup []))) ∨ (k = 1 ∧ Q (.ref l) H))
section
variable {X : Cx}
theorem op_repS : OpR X (binaryOp .Mult) (rRepS X.K) := by
  intro pins s σ H x y v u Q I rx ry h
  obtain ⟨l, k, xs, rfl, rfl, hT, hne, h⟩ := h
  cases rx
  obtain ⟨t, rfl⟩ := ry
  obtain ⟨its, r, ⟨⟨cls, dd, data, sl⟩, ho, hc, n, hd⟩, hs⟩ := I.tuple hT
  simp only at hc hd
  subst hc hd
  have hle : its.length = xs.length := r.length.symm
  have hn : its ≠ [] := fun e => hne (by
    rw [e] at hle
    exact List.eq_nil_of_length_eq_zero hle.symm)
  have hi : its.toArray.isEmpty = false := by
    cases its with
    | nil => exact absurd rfl hn
    | cons a b => rfl
  rcases h with ⟨rfl, q⟩ | ⟨rfl, q⟩
  · refine wpAny_binaryOp_repeat_ref (T := "tuple") (U := "int") (by decide) ⟨_, ho, rfl⟩ (fun s' => typeIs_int s' 0 t) noFill_tuple_mul F.fills_int_mul F.slot_int_rmul repeat_tuple F.slot_int_index.lookup
      (call_meets F.slot_int_rmul (typeIs_int s 0 t) F.entry_int_rmul (F.args_int_rmul_2 _ _) (int_rmul_tuple 0 t l its.toArray n dd sl)
        ⟨ho, rfl, ⟨_, ho, rfl⟩, call_meets F.slot_tuple_mul ⟨_, ho, rfl⟩ F.entry_tuple_mul (F.args_tuple_mul_2 _ _) (tuple_mul0 l its.toArray n dd sl t hi) ⟨ho, ?_⟩⟩)
    refine ⟨.ref s.heap.objs.size, _, I.laid (t' := s.toks) (o := .tup []) (fun b ob q => Heap.get?_push_of_some _ q) (Nat.le_refl _) ?_, rfl, q _ (I.hok.fresh (Nat.le_refl _))⟩
    exact ⟨by rw [sizeLine_eq]; decide, [], .nil, IsTup.new _ _⟩
  · refine wpAny_binaryOp_repeat_ref (T := "tuple") (U := "int") (by decide) ⟨_, ho, rfl⟩ (fun s' => typeIs_int s' 1 t) noFill_tuple_mul F.fills_int_mul F.slot_int_rmul repeat_tuple F.slot_int_index.lookup
      (call_meets F.slot_int_rmul (typeIs_int s 1 t) F.entry_int_rmul (F.args_int_rmul_2 _ _) (int_rmul_tuple 1 t l its.toArray n dd sl)
        ⟨ho, rfl, ⟨_, ho, rfl⟩, call_meets F.slot_tuple_mul ⟨_, ho, rfl⟩ F.entry_tuple_mul (F.args_tuple_mul_2 _ _) (tuple_mul1 l its.toArray n dd sl t) ⟨ho, ?_⟩⟩)
    exact ⟨.ref l, _, I, rfl, q⟩
end
end L2

/-! ## EvVal -/
/-! EvVal: the evaluator's operators keep to the model's, by values. -/
namespace Ev
open PySem PySem.Spec PyProof.Rows L2
abbrev Gd (X : Cx) : Md := ⟨X.K, X.mg⟩

/-! ### texts -/
theorem ofString_cps (s : String) : (Str.ofString s).cps.toList = s.toList.map Char.toNat := by
  rw [Str.ofString_eq_toList]
theorem char_inj {a b : Char} (h : a.toNat = b.toNat) : a = b := Char.toNat_inj.mp h
theorem map_inj_char : ∀ {a b : List Char}, a.map Char.toNat = b.map Char.toNat → a = b
  | [], [], _ => rfl
  | [], _ :: _, h => by simp at h
  | _ :: _, [], h => by simp at h
  | x :: a, y :: b, h => by
    simp only [List.map_cons, List.cons.injEq] at h
    rw [char_inj h.1, map_inj_char h.2]
theorem ofString_inj {s t : String} (h : Str.ofString s = Str.ofString t) : s = t := by
  have h1 : s.toList.map Char.toNat = t.toList.map Char.toNat := by rw [← ofString_cps, ← ofString_cps, h]
  exact String.toList_inj.mp (map_inj_char h1)
theorem ofString_beq (s t : String) : decide (Str.ofString s = Str.ofString t) = (s == t) := by
  by_cases h : s = t
  · subst h; simp
  · have : ¬ Str.ofString s = Str.ofString t := fun q => h (ofString_inj q)
    rw [decide_eq_false this]; simp [h]
theorem ofString_length (s : String) : (Str.ofString s).length = s.length := by
  show (Str.ofString s).cps.size = s.length
  rw [← Array.length_toList, ofString_cps, List.length_map, String.length_toList]
theorem ofString_append (s t : String) : Str.ofString (s ++ t) = Str.ofString s ++ Str.ofString t := by
  show _ = Str.append _ _
  unfold Str.append
  rw [Str.ofString_eq_toList, Str.ofString_eq_toList, Str.ofString_eq_toList]
  simp [String.toList_append]

/-- what is wanted behind a value's making -/
def VC (G : Md) (φ : Ph) (H : Hp) (Q : VK) (d : D) (A : AH) : Prop := ∀ φ' H' v, Ext φ H φ' H' → HR G φ' H' A → Rep G φ' H' d v → Q v H'
theorem VC.ext {G : Md} {φ φ1 : Ph} {H H1 : Hp} {Q : VK} {d : D} {A : AH} (h : VC G φ H Q d A) (x : Ext φ H φ1 H1) : VC G φ1 H1 Q d A := fun φ' H' v e => h φ' H' v (x.trans e)
section
variable {G : Md} {φ : Ph} {H : Hp} {A : AH} {Q : VK}
theorem VC.here {d : D} {v : V} (h : VC G φ H Q d A) (hr : HR G φ H A) (r : Rep G φ H d v) : Q v H := h φ H v .refl hr r
/-- a new tuple -/
theorem VC.tup {ds : List D} {vs : List V} {p : Addr} (h : VC G φ H Q (.tup ds) A) (hr : HR G φ H A) (hp : H p = none) (r : Reps G φ H ds vs) : Q (.ref p) (upd H p (.tup vs)) :=
  h φ _ _ (.beside hp) (hr.beside hp) ⟨p, vs, rfl, .of upd_same, r.ext hr (.beside hp)⟩
/-- a new object -/
theorem VC.new {o : AO} {ho : HO} {p : Addr} (h : VC G φ H Q (.ref A.length) (A ++ [o])) (hr : HR G φ H A) (hp : H p = none) (r : ORep G φ H o ho) : Q (.ref p) (upd H p ho) := by
  refine h _ _ _ (.push hp) (hr.push hp r) ⟨p, ?_, rfl⟩
  rw [← hr.len]; simp
/-- an object is changed -/
theorem VC.set {n : Nat} {a : Addr} {o : AO} {ho : HO} {d : D} {v : V} (h : VC G φ H Q d (A.set n o)) (hr : HR G φ H A) (hn : φ[n]? = some a) (nf : NF H a) (r : ORep G φ H o ho) (rv : Rep G φ H d v) : Q v (upd H a ho) :=
  h φ _ v (.set (List.mem_of_getElem? hn) nf) (hr.set hn nf r) (rv.ext hr (.set (List.mem_of_getElem? hn) nf))
theorem HR.lst (hr : HR G φ H A) {n : Nat} {a : Addr} {xs : List D} (e : A[n]? = some (.lst xs)) (ea : φ[n]? = some a) : ∃ vs, H a = some (.lst vs) ∧ Reps G φ H xs vs := by
  obtain ⟨ho, e1, vs, rfl, r⟩ := hr.at_ n a _ ea e
  exact ⟨vs, e1, r⟩
theorem HR.seq (hr : HR G φ H A) {n : Nat} {a : Addr} {xs : List D} (e : seqL A n = some xs) (ea : φ[n]? = some a) : ∃ vs, H a = some (.lst vs) ∧ Reps G φ H xs vs := by
  unfold seqL at e
  split at e
  · rename_i ys h; cases e; exact hr.lst h ea
  · cases e
theorem HR.dct (hr : HR G φ H A) {n : Nat} {a : Addr} {kvs : List (D × D)} (e : A[n]? = some (.dct kvs)) (ea : φ[n]? = some a) : ∃ ks, H a = some (.dK ks) ∧ KReps G φ H kvs ks := by
  obtain ⟨ho, e1, vs, rfl, r⟩ := hr.at_ n a _ ea e
  exact ⟨vs, e1, r⟩
theorem HR.dctL (hr : HR G φ H A) {n : Nat} {a : Addr} {kvs : List (D × D)} (e : dctL A n = some kvs) (ea : φ[n]? = some a) : ∃ ks, Rd H a (.dK ks) ∧ KReps G φ H kvs ks := by
  unfold Ev.dctL at e
  split at e
  · rename_i ys h; cases e
    obtain ⟨ks, h1, h2⟩ := hr.dct h ea
    exact ⟨ks, .inl h1, h2⟩
  · rename_i ys h; cases e
    obtain ⟨ho, e1, o, ks, rfl, r⟩ := hr.at_ n a _ ea h
    exact ⟨ks, .inr ⟨o, e1⟩, r⟩
  · cases e
end

theorem Reps.rep {G : Md} {φ : Ph} {H : Hp} {ds : List D} {vs : List V} (r : Reps G φ H ds vs) : ∀ n : Nat, Reps G φ H (List.replicate n ds).flatten (List.replicate n vs).flatten
  | 0 => rfl
  | n + 1 => by
    rw [List.replicate_succ, List.replicate_succ, List.flatten_cons, List.flatten_cons]
    exact r.append (Reps.rep r n)
/-! ### binary operators -/
def bop : BOp → Operator
  | .add => .Add | .sub => .Sub | .mul => .Mult | .fdiv => .FloorDiv | .mod => .Mod
theorem mul_ok {i j : Int} (h : (decide (i.natAbs < 18446744073709551616) || decide (j.natAbs < 18446744073709551616)) = true) : CMul i j := by
  simp only [Bool.or_eq_true, decide_eq_true_eq] at h
  rcases h with h | h
  · exact .inl ⟨by omega, by omega⟩
  · exact .inr ⟨by omega, by omega⟩
section
variable {X : Cx}
def rB (G : Md) (o : BOp) : R2 := fun x y H Q => ∃ φ A d e r A', HR G φ H A ∧ Rep G φ H d x ∧ Rep G φ H e y ∧ opB A o d e = .ok r A' ∧ VC G φ H Q r A'
theorem opB_ok (o : BOp) : OpR X (binaryOp (bop o)) (rB (Gd X) o) := by
  intro pins s σ H x y v u Q I rx ry h
  obtain ⟨φ, A, d, e, r, A', hr, rd, re, he, q⟩ := h
  unfold opB at he
  split at he
  · cases rd; cases re; cases he
    exact op_add pins s σ H _ _ v u Q I rx ry ⟨_, _, rfl, rfl, q.here hr rfl⟩
  · cases rd; cases re; cases he
    exact op_sub pins s σ H _ _ v u Q I rx ry ⟨_, _, rfl, rfl, q.here hr rfl⟩
  · cases rd; cases re
    split at he
    · rename_i hc; cases he
      exact op_mul pins s σ H _ _ v u Q I rx ry ⟨_, _, rfl, rfl, mul_ok hc, q.here hr rfl⟩
    · cases he
  · cases rd; cases re
    split at he
    · rename_i hc; cases he
      simp only [Bool.and_eq_true, decide_eq_true_eq] at hc
      exact op_fdiv pins s σ H _ _ v u Q I rx ry ⟨_, _, rfl, rfl, hc, q.here hr rfl⟩
    · cases he
  · cases rd; cases re
    split at he
    · rename_i hc; cases he
      exact op_mod pins s σ H _ _ v u Q I rx ry ⟨_, _, rfl, rfl, hc, q.here hr rfl⟩
    · cases he
  · cases rd; cases re
    split at he
    · rename_i hc; cases he
      refine op_add_str pins s σ H _ _ v u Q I rx ry ⟨_, _, rfl, rfl, ?_, ?_⟩
      · rw [ofString_length, ofString_length]; exact hc
      · exact q.here hr (by show _ = _; rw [ofString_append])
    · cases he
  · rename_i xs ys
    split at he
    · rename_i hc; cases he
      obtain ⟨a, vs, rfl, q1, r1⟩ := rd
      obtain ⟨b, ws, rfl, q2, r2⟩ := re
      have l1 := r1.length
      have l2 := r2.length
      exact op_catA pins s σ H _ _ v u Q I rx ry ⟨a, b, vs, ws, rfl, rfl, q1, q2, by omega, fun h0 => q.here hr ⟨b, ws, rfl, q2, by
        subst h0
        have : xs = [] := by cases xs with | nil => rfl | cons => simp at l1
        subst this; exact r2⟩, fun _ h0 => q.here hr ⟨a, vs, rfl, q1, by
        subst h0
        have : ys = [] := by cases ys with | nil => rfl | cons => simp at l2
        subst this; rw [List.append_nil]; exact r1⟩, fun _ _ p hp => q.tup hr hp (r1.append r2)⟩
    · cases he
  · rename_i na nb
    obtain ⟨a, ea, rfl⟩ := rd
    obtain ⟨b, eb, rfl⟩ := re
    split at he
    · rename_i xs ys h1 h2
      split at he
      · rename_i hc; cases he
        obtain ⟨vs, e1, r1⟩ := hr.lst h1 ea
        obtain ⟨ws, e2, r2⟩ := hr.lst h2 eb
        have l1 := r1.length
        have l2 := r2.length
        exact op_cat pins s σ H _ _ v u Q I rx ry ⟨a, b, vs, ws, rfl, rfl, e1, e2, by omega, fun p hp => q.new hr hp ⟨_, rfl, r1.append r2⟩⟩
      · cases he
    · cases he
  · rename_i xs k
    cases re
    split at he
    · rename_i hc; cases he
      simp only [Bool.and_eq_true, decide_eq_true_eq, Bool.not_eq_true'] at hc
      obtain ⟨⟨⟨c1, c2⟩, c3⟩, c4⟩ := hc
      obtain ⟨a, vs, rfl, q1, r1⟩ := rd
      have l1 := r1.length
      have hne : vs ≠ [] := fun e => by
        subst e
        have : xs = [] := by cases xs with | nil => rfl | cons => simp at l1
        subst this
        cases c1
      by_cases h2 : 2 ≤ k
      · exact op_repT pins s σ H _ _ v u Q I rx ry ⟨a, k, vs, rfl, rfl, q1, hne, h2, c4, by omega, fun p hp => q.tup hr hp (r1.rep k.toNat)⟩
      · by_cases h0 : k = 0
        · subst h0
          exact op_repS pins s σ H _ _ v u Q I rx ry ⟨a, 0, vs, rfl, rfl, q1, hne, .inl ⟨rfl, fun p hp => q.tup hr hp rfl⟩⟩
        · have h1 : k = 1 := by omega
          subst h1
          exact op_repS pins s σ H _ _ v u Q I rx ry ⟨a, 1, vs, rfl, rfl, q1, hne, .inr ⟨rfl, q.here hr ⟨a, vs, rfl, q1, by simpa using r1⟩⟩⟩
    · cases he
  · cases he

/-! ### equality of data -/
mutual
theorem dp_of {G : Md} {φ : Ph} {H : Hp} : ∀ (d : D) (v : V) (p : PyData), Rep G φ H d v → toPd d = some p → Dp G.K H v p
  | .non, v, p, r, h => by cases h; cases r; exact .non
  | .bl b, v, p, r, h => by cases h; cases r; exact .bl b
  | .int i, v, p, r, h => by cases h; cases r; exact .int i
  | .str s, v, p, r, h => by cases h; cases r; exact .str _
  | .tup ds, v, p, r, h => by
    obtain ⟨a, vs, rfl, q, rs⟩ := r
    unfold toPd at h
    cases e : toPds ds with
    | none => rw [e] at h; cases h
    | some ps => rw [e] at h; cases h; exact .tup q (dps_of ds vs ps rs e)
  | .frl _, _, _, _, h => by cases h
  | .ref _, _, _, _, h => by cases h
  | .gl _, _, _, _, h => by cases h
theorem dps_of {G : Md} {φ : Ph} {H : Hp} : ∀ (ds : List D) (vs : List V) (ps : List PyData), Reps G φ H ds vs → toPds ds = some ps → DpAll G.K H vs ps
  | [], vs, ps, r, h => by cases h; rw [show vs = [] from r]; exact .nil
  | d :: ds, vs, ps, r, h => by
    obtain ⟨v, t, rfl, r1, r2⟩ := r
    unfold toPds at h
    cases e1 : toPd d with
    | none => rw [e1] at h; cases h
    | some p =>
      cases e2 : toPds ds with
      | none => rw [e1, e2] at h; cases h
      | some ps' => rw [e1, e2] at h; cases h; exact .cons (dp_of d v p r1 e1) (dps_of ds t ps' r2 e2)
end
theorem dpA_of {G : Md} {φ : Ph} {H : Hp} {A : AH} (hr : HR G φ H A) {d : D} {v : V} {p : PyData} (r : Rep G φ H d v) (h : toP A d = some p) : Dp G.K H v p := by
  unfold toP at h
  split at h
  · rename_i n
    obtain ⟨a, ea, rfl⟩ := r
    split at h
    · rename_i xs hx
      obtain ⟨vs, e1, r1⟩ := hr.seq hx ea
      cases e : toPds xs with
      | none => rw [e] at h; cases h
      | some ps => rw [e] at h; cases h; exact .lst (.of e1) (dps_of xs vs ps r1 e)
    · cases h
  · exact dp_of _ _ _ r h
theorem flatV_of {G : Md} {φ : Ph} {H : Hp} {d : D} {v : V} (r : Rep G φ H d v) (f : flatD d = true) : flatV v = true := by
  cases d <;> first | (cases f; done) | (cases r; rfl)
theorem flatVs_of {G : Md} {φ : Ph} {H : Hp} : ∀ {ds : List D} {vs : List V}, Reps G φ H ds vs → ds.all flatD = true → vs.all flatV = true
  | [], vs, r, _ => by rw [show vs = [] from r]; rfl
  | d :: ds, vs, r, f => by
    obtain ⟨v, t, rfl, r1, r2⟩ := r
    simp only [List.all_cons, Bool.and_eq_true] at f ⊢
    exact ⟨flatV_of r1 f.1, flatVs_of r2 f.2⟩
theorem flatEq_of {G : Md} {φ : Ph} {H : Hp} {d e : D} {v w : V} (r : Rep G φ H d v) (s : Rep G φ H e w) (f : flatD d = true) (g : flatD e = true) : eqV v w = flatEq d e := by
  cases d <;> first | (cases f; done) | skip
  all_goals (cases e <;> first | (cases g; done) | skip)
  all_goals (cases r; cases s)
  all_goals (first | rfl | skip)
  rename_i a b
  show (Str.ofString a == Str.ofString b) = (a == b)
  rw [← ofString_beq, Bool.beq_eq_decide_eq]
theorem inV_of {G : Md} {φ : Ph} {H : Hp} {e : D} {w : V} (s : Rep G φ H e w) (g : flatD e = true) : ∀ {ds : List D} {vs : List V}, Reps G φ H ds vs → ds.all flatD = true → inV w vs = ds.any fun z => flatEq z e
  | [], vs, r, _ => by rw [show vs = [] from r]; rfl
  | d :: ds, vs, r, f => by
    obtain ⟨v, t, rfl, r1, r2⟩ := r
    simp only [List.all_cons, Bool.and_eq_true] at f
    have ih := inV_of s g r2 f.2
    unfold inV at ih ⊢
    rw [List.any_cons, List.any_cons, ih, flatEq_of r1 s f.1 g]
end
end Ev

/-! ## EvVal2 -/
/-! EvVal2: dicts, comparisons, truth, subscripts, slices, stores by values. -/
namespace Ev
open PySem PySem.Spec PyProof.Rows L2

/-! ### dicts -/
theorem KR.key {G : Md} {φ : Ph} {H : Hp} {k : D} {v : V} (h : keyOk k = true) (r : Rep G φ H k v) : ∃ j, v = kV j ∧ KR k j := by
  cases k with
  | int i => cases r; exact ⟨.inl i, rfl, rfl⟩
  | str s => cases r; exact ⟨.inr _, rfl, rfl⟩
  | _ => cases h
theorem KR.rep {G : Md} {φ : Ph} {H : Hp} {k : D} {j : Key} (h : KR k j) : Rep G φ H k (kV j) := by
  cases k <;> cases j <;> first | (exact h.elim) | (cases h; rfl)
theorem KR.ok {k : D} {j : Key} (h : KR k j) : keyOk k = true := by
  cases k <;> cases j <;> first | (exact h.elim) | rfl
theorem KR.eq {k l : D} {i j : Key} (a : KR k i) (b : KR l j) : keyEq k l = decide (i = j) := by
  cases k <;> cases i <;> first | (exact a.elim) | skip
  all_goals (cases l <;> cases j <;> first | (exact b.elim) | skip)
  all_goals (cases a; cases b)
  · rw [key_ll]; rfl
  · rw [key_lr]; rfl
  · rw [key_rl]; rfl
  · rw [key_rr, ofString_beq]; rfl
section
variable {G : Md} {φ : Ph} {H : Hp} {A : AH}
theorem KReps.get {k : D} {j : Key} (hk : KR k j) : ∀ {kvs : List (D × D)} {ks : List (Key × V)}, KReps G φ H kvs ks →
    (∃ d v, dget kvs k = some d ∧ valV ks j = some v ∧ Rep G φ H d v) ∨ (dget kvs k = none ∧ valV ks j = none)
  | [], ks, r => by rw [show ks = [] from r]; exact .inr ⟨rfl, rfl⟩
  | (l, d) :: kvs, ks, r => by
    obtain ⟨i, v, s, rfl, r0, r1, r2⟩ := r
    have he := KR.eq r0 hk
    by_cases hij : i = j
    · rw [decide_eq_true hij] at he
      exact .inl ⟨d, v, by simp [dget, List.find?_cons, he], valV_pos hij, r1⟩
    · rw [decide_eq_false hij] at he
      have ih := KReps.get hk r2
      rw [valV_neg (p := (i, v)) hij]
      rcases ih with ⟨d', v', h1, h2, h3⟩ | ⟨h1, h2⟩
      · exact .inl ⟨d', v', by simpa [dget, List.find?_cons, he] using h1, h2, h3⟩
      · exact .inr ⟨by simpa [dget, List.find?_cons, he] using h1, h2⟩
theorem KReps.any {k : D} {j : Key} (hk : KR k j) : ∀ {kvs : List (D × D)} {ks : List (Key × V)}, KReps G φ H kvs ks → (kvs.any fun kv => keyEq kv.1 k) = ks.any fun kv => decide (kv.1 = j)
  | [], ks, r => by rw [show ks = [] from r]; rfl
  | (l, d) :: kvs, ks, r => by
    obtain ⟨i, v, s, rfl, r0, r1, r2⟩ := r
    rw [List.any_cons, List.any_cons, KReps.any hk r2, KR.eq r0 hk]
theorem KReps.repl {k d : D} {j : Key} {v : V} (hk : KR k j) (rd : Rep G φ H d v) : ∀ {kvs : List (D × D)} {ks : List (Key × V)}, KReps G φ H kvs ks →
    KReps G φ H (kvs.map fun kv => if keyEq kv.1 k then (kv.1, d) else kv) (ks.map fun kv => if kv.1 = j then (kv.1, v) else kv)
  | [], ks, r => by rw [show ks = [] from r]; exact rfl
  | (l, d') :: kvs, ks, r => by
    obtain ⟨i, v', s, rfl, r0, r1, r2⟩ := r
    have ih := KReps.repl hk rd r2
    have he := KR.eq r0 hk
    rw [List.map_cons, List.map_cons]
    by_cases hij : i = j
    · rw [decide_eq_true hij] at he
      have e1 : (if keyEq (l, d').1 k = true then ((l, d').1, d) else (l, d')) = (l, d) := by simp [he]
      have e2 : (if (i, v').1 = j then ((i, v').1, v) else (i, v')) = (i, v) := by simp [hij]
      rw [e1, e2]
      exact ⟨i, v, _, rfl, r0, rd, ih⟩
    · rw [decide_eq_false hij] at he
      have e1 : (if keyEq (l, d').1 k = true then ((l, d').1, d) else (l, d')) = (l, d') := by simp [he]
      have e2 : (if (i, v').1 = j then ((i, v').1, v) else (i, v')) = (i, v') := by simp [hij]
      rw [e1, e2]
      exact ⟨i, v', _, rfl, r0, r1, ih⟩
theorem KReps.snoc {k d : D} {j : Key} {v : V} (hk : KR k j) (rd : Rep G φ H d v) : ∀ {kvs : List (D × D)} {ks : List (Key × V)}, KReps G φ H kvs ks → KReps G φ H (kvs ++ [(k, d)]) (ks ++ [(j, v)])
  | [], ks, r => by rw [show ks = [] from r]; exact ⟨j, v, [], rfl, hk, rd, rfl⟩
  | (l, d') :: kvs, ks, r => by
    obtain ⟨i, v', s, rfl, r0, r1, r2⟩ := r
    exact ⟨i, v', s ++ [(j, v)], rfl, r0, r1, KReps.snoc hk rd r2⟩
theorem KReps.put {k d : D} {j : Key} {v : V} (hk : KR k j) (rd : Rep G φ H d v) {kvs : List (D × D)} {ks : List (Key × V)} (r : KReps G φ H kvs ks) : KReps G φ H (dput kvs k d) (putK ks j v) := by
  unfold dput putK
  rw [KReps.any hk r]
  split
  · exact KReps.repl hk rd r
  · exact KReps.snoc hk rd r
theorem KReps.drop {k : D} {j : Key} (hk : KR k j) : ∀ {kvs : List (D × D)} {ks : List (Key × V)}, KReps G φ H kvs ks → KReps G φ H (ddrop kvs k) (dropK ks j)
  | [], ks, r => by rw [show ks = [] from r]; exact rfl
  | (l, d') :: kvs, ks, r => by
    obtain ⟨i, v', s, rfl, r0, r1, r2⟩ := r
    have ih := KReps.drop hk r2
    have he := KR.eq r0 hk
    unfold ddrop dropK at ih ⊢
    by_cases hij : i = j
    · rw [decide_eq_true hij] at he
      simpa [List.filter_cons, he, hij] using ih
    · rw [decide_eq_false hij] at he
      have e1 : (List.filter (fun kv => !keyEq kv.1 k) ((l, d') :: kvs)) = (l, d') :: List.filter (fun kv => !keyEq kv.1 k) kvs := by simp [List.filter_cons, he]
      have e2 : (List.filter (fun kv => decide (kv.1 ≠ j)) ((i, v') :: s)) = (i, v') :: List.filter (fun kv => decide (kv.1 ≠ j)) s := by simp [List.filter_cons, hij]
      rw [e1, e2]
      exact ⟨i, v', _, rfl, r0, r1, ih⟩
theorem KReps.merge {more : List (D × D)} : ∀ {kvs : List (D × D)} {ms ks : List (Key × V)}, KReps G φ H more ms → KReps G φ H kvs ks → KReps G φ H (dmerge kvs more) (mergeK ks ms) := by
  induction more with
  | nil => intro kvs ms ks r s; rw [show ms = [] from r]; exact s
  | cons kd more ih =>
    intro kvs ms ks r s
    obtain ⟨k, d⟩ := kd
    obtain ⟨i, v', t, rfl, r0, r1, r2⟩ := r
    show KReps G φ H (dmerge (dput kvs k d) more) (mergeK (putK ks i v') t)
    exact ih r2 (KReps.put r0 r1 s)
theorem KReps.length : ∀ {kvs : List (D × D)} {ks : List (Key × V)}, KReps G φ H kvs ks → ks.length = kvs.length
  | [], ks, r => by rw [show ks = [] from r]; rfl
  | (k, d) :: kvs, ks, r => by
    obtain ⟨i, v', t, rfl, r0, r1, r2⟩ := r
    simp [KReps.length r2]
theorem KReps.keys : ∀ {kvs : List (D × D)} {ks : List (Key × V)}, KReps G φ H kvs ks → Reps G φ H (kvs.map (·.1)) (ks.map fun kv => kV kv.1)
  | [], ks, r => by rw [show ks = [] from r]; exact rfl
  | (k, d) :: kvs, ks, r => by
    obtain ⟨i, v', t, rfl, r0, r1, r2⟩ := r
    exact ⟨_, _, rfl, r0.rep, KReps.keys r2⟩
theorem KReps.at {kvs : List (D × D)} : ∀ {ks : List (Key × V)} {i : Nat} {k d : D}, KReps G φ H kvs ks → kvs[i]? = some (k, d) → ∃ j v, ks[i]? = some (j, v) ∧ KR k j ∧ Rep G φ H d v := by
  induction kvs with
  | nil => intro ks i k d _ e; simp at e
  | cons kv kvs ih =>
    intro ks i k d r e
    obtain ⟨l, d'⟩ := kv
    obtain ⟨j, v', t, rfl, r0, r1, r2⟩ := r
    cases i with
    | zero => simp at e; obtain ⟨rfl, rfl⟩ := e; exact ⟨j, v', rfl, r0, r1⟩
    | succ i => simpa using ih r2 (by simpa using e)
/-- what a dict holds at a key -/
theorem HR.dgetL (hr : HR G φ H A) {n : Nat} {a : Addr} {kvs : List (D × D)} {k : D} {y : V} (e : Ev.dctL A n = some kvs) (ea : φ[n]? = some a) (hk : keyOk k = true) (r : Rep G φ H k y) :
    (∃ d v, dget kvs k = some d ∧ DGet H a y (some v) ∧ Rep G φ H d v) ∨ (dget kvs k = none ∧ DGet H a y none) := by
  obtain ⟨ks, h1, h2⟩ := hr.dctL e ea
  obtain ⟨j, rfl, hj⟩ := KR.key hk r
  rcases h2.get hj with ⟨d, v, q1, q2, q3⟩ | ⟨q1, q2⟩
  · exact .inl ⟨d, v, q1, .inl ⟨ks, j, h1, rfl, q2.symm⟩, q3⟩
  · exact .inr ⟨q1, .inl ⟨ks, j, h1, rfl, q2.symm⟩⟩
end

/-! ### comparisons -/
def cop : COp → CmpOp
  | .eq => .Eq | .ne => .NotEq | .lt => .Lt | .le => .LtE | .gt => .Gt | .ge => .GtE | .is => .Is | .isnt => .IsNot | .mem => .In | .nmem => .NotIn
def rC (G : Md) (o : COp) : R2 := fun x y H Q => ∃ φ A d e b, HR G φ H A ∧ Rep G φ H d x ∧ Rep G φ H e y ∧ opC A o d e = some b ∧ Q (.bl b) H
section
variable {X : Cx}
theorem in_ok (hu : X.A.units + 65 < cLine) (neg : Bool) : OpR X (compareOp (if neg then .NotIn else .In)) (fun x y H Q => ∃ φ A d e b, HR (Gd X) φ H A ∧ Rep (Gd X) φ H d x ∧ Rep (Gd X) φ H e y ∧ memD A d e = some b ∧ Q (.bl (if neg then !b else b)) H) := by
  intro pins s σ H x y v u Q I rx ry h
  obtain ⟨φ, A, d, e, b, hr, rd, re, he, q⟩ := h
  unfold memD at he
  split at he
  · rename_i n
    obtain ⟨a, ea, rfl⟩ := re
    split at he
    · rename_i kvs hkv
      split at he
      · rename_i hk; cases he
        have ry' : u = Value.ref a := ry
        subst ry'
        rcases hr.dgetL hkv ea hk rd with ⟨d', v', q1, q2, _⟩ | ⟨q1, q2⟩
        · rw [q1] at q
          cases neg with
          | true => exact d_notIn (by omega) I q2 rx fun s' I' => ⟨.bl (!(some v').isSome), H, I', rfl, q⟩
          | false => exact d_in (by omega) I q2 rx fun s' I' => ⟨.bl (some v').isSome, H, I', rfl, q⟩
        · rw [q1] at q
          cases neg with
          | true => exact d_notIn (by omega) I q2 rx fun s' I' => ⟨.bl (!(none : Option V).isSome), H, I', rfl, q⟩
          | false => exact d_in (by omega) I q2 rx fun s' I' => ⟨.bl (none : Option V).isSome, H, I', rfl, q⟩
      · cases he
    · split at he
      · rename_i xs hx
        split at he
        · rename_i hf; cases he
          simp only [Bool.and_eq_true] at hf
          obtain ⟨vs, e1, r1⟩ := hr.seq hx ea
          have hin := inV_of rd hf.1 r1 hf.2
          cases neg with
          | true => exact op_notIn_seq pins s σ H _ _ v u Q I rx ry ⟨a, vs, rfl, .inl (.of e1), flatV_of rd hf.1, flatVs_of r1 hf.2, by rw [hin]; exact q⟩
          | false => exact op_in_seq pins s σ H _ _ v u Q I rx ry ⟨a, vs, rfl, .inl (.of e1), flatV_of rd hf.1, flatVs_of r1 hf.2, by rw [hin]; exact q⟩
        · unfold memP at he
          split at he
          · rename_i p ps hp hps
            split at he
            · rename_i hsh; cases he
              simp only [Bool.and_eq_true] at hsh
              obtain ⟨vs, e1, r1⟩ := hr.seq hx ea
              have dx := dpA_of hr rd hp
              have dy : Dp (Gd X).K H (.ref a) (.list ps) := .lst (.of e1) (dps_of xs vs ps r1 hps)
              cases neg with
              | true => exact op_notInD hu pins s σ H _ _ v u Q I rx ry ⟨p, ps, dx, dy, hsh.1, hsh.2, q⟩
              | false => exact op_inD hu pins s σ H _ _ v u Q I rx ry ⟨p, ps, dx, dy, hsh.1, hsh.2, q⟩
            · cases he
          · cases he
      · cases he
  · rename_i xs
    obtain ⟨a, vs, rfl, hq, r1⟩ := re
    split at he
    · rename_i hf; cases he
      simp only [Bool.and_eq_true] at hf
      have hin := inV_of rd hf.1 r1 hf.2
      cases neg with
      | true => exact op_notIn_seq pins s σ H _ _ v u Q I rx ry ⟨a, vs, rfl, .inr hq, flatV_of rd hf.1, flatVs_of r1 hf.2, by rw [hin]; exact q⟩
      | false => exact op_in_seq pins s σ H _ _ v u Q I rx ry ⟨a, vs, rfl, .inr hq, flatV_of rd hf.1, flatVs_of r1 hf.2, by rw [hin]; exact q⟩
    · unfold memP at he
      split at he
      · rename_i p ps hp hps
        split at he
        · rename_i hsh; cases he
          simp only [Bool.and_eq_true] at hsh
          have dx := dpA_of hr rd hp
          have dy : Dp (Gd X).K H (.ref a) (.tuple ps) := .tup hq (dps_of xs vs ps r1 hps)
          obtain ⟨as, s1⟩ := Dp.reads I p x v dx rx
          obtain ⟨bs, s2⟩ := Dp.reads I (.tuple ps) _ u dy ry
          have hcl : PyData.canLayAll0 ps = true := SeqAt.canLay_of_shaped hsh.2
          cases neg with
          | true => exact SeqAt.notIn_tuple_reads s2 s1 hcl (SeqAt.canLay_of_shaped hsh.1) (room_in_shaped hsh.1 hu) ⟨.bl _, H, I, rfl, q⟩
          | false => exact SeqAt.in_tuple_reads s2 s1 hcl (SeqAt.canLay_of_shaped hsh.1) (room_in_shaped hsh.1 hu) ⟨.bl _, H, I, rfl, q⟩
        · cases he
      · cases he
  · cases he
theorem rep_non {G : Md} {φ : Ph} {H : Hp} {d : D} {v : V} {A : AH} (hr : HR G φ H A) (r : Rep G φ H d v) (hg : ∀ x, d ≠ .gl x) : decide (v = .non) = Ev.isNon d := by
  cases d with
  | non => cases r; rfl
  | bl b => cases r; rfl
  | int i => cases r; rfl
  | str s => cases r; rfl
  | tup ds => obtain ⟨a, vs, rfl, _⟩ := r; rfl
  | frl ds => obtain ⟨a, vs, rfl, _⟩ := r; rfl
  | ref n => obtain ⟨a, _, rfl⟩ := r; rfl
  | gl x => exact absurd rfl (hg x)
theorem hits_of {pins : List (Addr × Obj)} {s : Shared} {σ : L2.St} {H : Hp} {φ : Ph} (I : Inv X pins σ H s) (hu : X.A.in1.units + 64 < cLine) {kb : List (D × D)} {ls : List (Key × V)} {vb : List (Key × Value)} (rl : KReps (Gd X) φ H kb ls) (rb : KV ls vb) :
    ∀ {ka : List (D × D)} {ks : List (Key × V)} {va : List (Key × Value)} {r : Bool}, KReps (Gd X) φ H ka ks → KV ks va → eqH kb ka = some r → PySem.W.KeqHits X.A.in1 s vb va r
  | [], ks, va, r, rk, rv, h => by
    rw [show ks = [] from rk] at rv
    cases rv
    cases h
    exact .nil
  | (k, v) :: ka, ks, va, r, rk, rv, h => by
    obtain ⟨j, u, t, rfl, rj, ru, rt⟩ := rk
    cases rv with
    | cons hq ht =>
      rename_i q qs
      obtain ⟨k', y⟩ := q
      obtain ⟨h1, h2⟩ := hq
      have h1 : j = k' := h1
      subst h1
      unfold eqH at h
      rcases rl.get rj with ⟨d, w, e1, e2, rw'⟩ | ⟨e1, e2⟩
      · rw [e1] at h
        dsimp only at h
        have rr : RelO (some w) (valueAt vb j) := by rw [← e2]; exact rb.val j
        obtain ⟨z, hz, rz⟩ := rr.some_of
        cases hp : toPd v with
        | none => rw [hp] at h; cases h
        | some p =>
          cases hp2 : toPd d with
          | none => rw [hp, hp2] at h; cases h
          | some p2 =>
            rw [hp, hp2] at h
            dsimp only at h
            split at h
            · rename_i hs
              simp only [Bool.and_eq_true] at hs
              cases hh : eqH kb ka with
              | none => rw [hh] at h; cases h
              | some b =>
                rw [hh] at h
                cases h
                obtain ⟨as, r1⟩ := Dp.reads I p u y (dp_of v u p ru hp) h2
                obtain ⟨bs, r2⟩ := Dp.reads I p2 w z (dp_of d w p2 rw' hp2) rz
                exact .hit hz (PySem.W.keq_at r1 r2 hs.1 hs.2 hu) (hits_of I hu rl rb rt ht hh)
            · cases h
      · rw [e1] at h
        cases h
        have rr : RelO none (valueAt vb j) := by rw [← e2]; exact rb.val j
        exact .miss (RelO.none_of rr)
theorem dctO_of {φ : Ph} {H : Hp} {A : AH} {d : D} {v : V} {kvs : List (D × D)} (hr : HR (Gd X) φ H A) (r : Rep (Gd X) φ H d v) (h : dctO A d = some kvs) : ∃ a ks, v = .ref a ∧ H a = some (.dK ks) ∧ KReps (Gd X) φ H kvs ks := by
  unfold dctO at h
  split at h
  · rename_i n
    obtain ⟨a, ea, rfl⟩ := r
    split at h
    · rename_i k hk
      cases h
      obtain ⟨ks, h1, h2⟩ := hr.dct hk ea
      exact ⟨a, ks, rfl, h1, h2⟩
    · cases h
  · cases h
theorem eqK_ok (hu : X.A.units + 65 < cLine) (neg : Bool) {pins : List (Addr × Obj)} {s : Shared} {σ : L2.St} {H : Hp} {φ : Ph} {A : AH} {d e : D} {x y : V} {v u : Value} {Q : VK} {ka kb : List (D × D)} {r : Bool} (I : Inv X pins σ H s) (hr : HR (Gd X) φ H A) (rd : Rep (Gd X) φ H d x) (re : Rep (Gd X) φ H e y)
    (rx : RelV x v) (ry : RelV y u) (h1 : dctO A d = some ka) (h2 : dctO A e = some kb) (h : eqK ka kb = some r) (q : Q (.bl (if neg then !r else r)) H) : wpAny (model X.prog X.w) X.A (compareOp (if neg then .NotEq else .Eq) v u) (EP X pins σ Q) X.xe s := by
  obtain ⟨a, ks, rfl, ea, rk⟩ := dctO_of hr rd h1
  obtain ⟨b, ls, rfl, eb, rl⟩ := dctO_of hr re h2
  obtain rfl : v = Value.ref a := rx
  obtain rfl : u = Value.ref b := ry
  obtain ⟨_, ya, va, ra, da⟩ := (show ObjOk X.prog X.w H s.heap a (.dK ks) from I.hok a _ ea)
  obtain ⟨_, yb, vb, rb, db⟩ := (show ObjOk X.prog X.w H s.heap b (.dK ls) from I.hok b _ eb)
  have la : va.length = ka.length := by rw [← ra.length, rk.length]
  have lb : vb.length = kb.length := by rw [← rb.length, rl.length]
  have hu1 : X.A.in1.units + 64 < cLine := by show X.A.units + 1 + 64 < _; omega
  unfold eqK at h
  by_cases hl : ka.length = kb.length
  · rw [if_pos hl] at h
    cases neg with
    | true => exact PySem.W.keq_ne (knd := mixKind X.prog X.w) (r := r) ya yb da db (by omega) (fun _ => hits_of I hu1 rl rb rk ra h) (fin_bl I q (by simp [la, lb, hl]))
    | false => exact PySem.W.keq_eq (knd := mixKind X.prog X.w) (r := r) ya yb da db (by omega) (fun _ => hits_of I hu1 rl rb rk ra h) (fin_bl I q (by simp [la, lb, hl]))
  · rw [if_neg hl] at h
    cases h
    have hne : ¬ va.length = vb.length := by rw [la, lb]; exact hl
    cases neg with
    | true => exact PySem.W.keq_ne (knd := mixKind X.prog X.w) (r := true) ya yb da db (by omega) (fun z => absurd z hne) (fin_bl I q (by simp [la, lb, hl]))
    | false => exact PySem.W.keq_eq (knd := mixKind X.prog X.w) (r := true) ya yb da db (by omega) (fun z => absurd z hne) (fin_bl I q (by simp [la, lb, hl]))
theorem eqO_of {A : AH} {d e : D} {r : Bool} (h : eqO A d e = some r) : (∃ ka kb, dctO A d = some ka ∧ dctO A e = some kb ∧ eqK ka kb = some r) ∨ eqD A d e = some r := by
  unfold eqO at h
  split at h
  · rename_i ka kb h1 h2
    exact .inl ⟨ka, kb, h1, h2, h⟩
  · exact .inr h
theorem opC_ok (hu : X.A.units + 65 < cLine) (o : COp) : OpR X (compareOp (cop o)) (rC (Gd X) o) := by
  intro pins s σ H x y v u Q I rx ry h
  obtain ⟨φ, A, d, e, b, hr, rd, re, he, q⟩ := h
  have eqs : ∀ r, eqD A d e = some r → ∃ p q, Dp X.K H x p ∧ Dp X.K H y q ∧ SeqAt.shaped p = true ∧ SeqAt.shaped q = true ∧ PyData.eqv p q = r := fun r hh => by
    unfold eqD at hh
    split at hh
    · rename_i p q' h1 h2
      split at hh
      · rename_i hs; cases hh
        simp only [Bool.and_eq_true] at hs
        exact ⟨p, q', dpA_of hr rd h1, dpA_of hr re h2, hs.1, hs.2, rfl⟩
      · cases hh
    · cases hh
  cases o with
  | eq =>
    rcases eqO_of he with ⟨ka, kb, h1, h2, h3⟩ | he
    · exact eqK_ok (by omega) false I hr rd re rx ry h1 h2 h3 q
    obtain ⟨p, p', h1, h2, h3, h4, h5⟩ := eqs b he
    exact op_eqD (by omega) pins s σ H x y v u Q I rx ry ⟨p, p', h1, h2, h3, h4, by rw [h5]; exact q⟩
  | ne =>
    have he : (eqO A d e).map (!·) = some b := he
    obtain ⟨r, hr1, hr2⟩ := Option.map_eq_some_iff.mp he
    rcases eqO_of hr1 with ⟨ka, kb, h1, h2, h3⟩ | hr1
    · exact eqK_ok (by omega) true I hr rd re rx ry h1 h2 h3 (by simp only [if_true]; rw [hr2]; exact q)
    obtain ⟨p, p', h1, h2, h3, h4, h5⟩ := eqs r hr1
    exact op_neD (by omega) pins s σ H x y v u Q I rx ry ⟨p, p', h1, h2, h3, h4, by rw [h5, hr2]; exact q⟩
  | lt =>
    have he : cmpI (fun i j => decide (i < j)) d e = some b := he
    unfold cmpI at he
    split at he
    · cases he; cases rd; cases re; exact op_lt pins s σ H _ _ v u Q I rx ry ⟨_, _, rfl, rfl, q⟩
    · cases he
  | le =>
    have he : cmpI (fun i j => decide (i ≤ j)) d e = some b := he
    unfold cmpI at he
    split at he
    · cases he; cases rd; cases re; exact op_le pins s σ H _ _ v u Q I rx ry ⟨_, _, rfl, rfl, q⟩
    · cases he
  | gt =>
    have he : cmpI (fun i j => decide (j < i)) d e = some b := he
    unfold cmpI at he
    split at he
    · cases he; cases rd; cases re; exact op_gt pins s σ H _ _ v u Q I rx ry ⟨_, _, rfl, rfl, q⟩
    · cases he
  | ge =>
    have he : cmpI (fun i j => decide (j ≤ i)) d e = some b := he
    unfold cmpI at he
    split at he
    · cases he; cases rd; cases re; exact op_ge pins s σ H _ _ v u Q I rx ry ⟨_, _, rfl, rfl, q⟩
    · cases he
  | is =>
    have hg : ∀ x, d ≠ .gl x := fun x z => by rw [z] at he; cases he
    have he : isN d e = some b := by
      cases d <;> first | exact he | exact absurd rfl (hg _)
    unfold isN at he
    split at he
    · cases re
      refine op_isN pins s σ H _ _ v u Q I rx ry ⟨rfl, ?_⟩
      rw [rep_non hr rd hg]
      cases he
      exact q
    · cases he
  | isnt =>
    have hg : ∀ x, d ≠ .gl x := fun x z => by rw [z] at he; cases he
    have he : (isN d e).map (!·) = some b := by
      cases d <;> first | exact he | exact absurd rfl (hg _)
    unfold isN at he
    split at he
    · cases re
      refine op_notN pins s σ H _ _ v u Q I rx ry ⟨rfl, ?_⟩
      rw [rep_non hr rd hg]
      cases he
      exact q
    · cases he
  | mem => exact in_ok hu false pins s σ H x y v u Q I rx ry ⟨φ, A, d, e, b, hr, rd, re, he, q⟩
  | nmem =>
    have he : (memD A d e).map (!·) = some b := he
    obtain ⟨r, hr1, hr2⟩ := Option.map_eq_some_iff.mp he
    exact in_ok hu true pins s σ H x y v u Q I rx ry ⟨φ, A, d, e, r, hr, rd, re, hr1, by rw [show (if true = true then !r else r) = b from hr2]; exact q⟩

/-! ### truth -/
theorem tru_of {G : Md} {φ : Ph} {H : Hp} {A : AH} {d : D} {x : V} {b : Bool} (hr : HR G φ H A) (r : Rep G φ H d x) (h : truth A d = some b) : TruV G.K x H b := by
  unfold truth at h
  split at h
  · cases h; cases r; rfl
  · cases h; cases r; rfl
  · cases h; cases r; rfl
  · rename_i z
    split at h
    case isFalse => cases h
    rename_i hs
    cases h; cases r
    refine ⟨by rw [ofString_length]; exact hs, ?_⟩
    rw [ofString_length]
    by_cases hz : z = ""
    · subst hz; decide
    · have : z.length ≠ 0 := fun q => hz (String.length_eq_zero_iff.mp q)
      have e1 : (z != "") = true := bne_iff_ne.mpr hz
      have e2 : ((z.length : Int) != 0) = true := bne_iff_ne.mpr (by omega)
      rw [e1, e2]
  · rename_i xs
    obtain ⟨a, vs, rfl, hq, rs⟩ := r
    cases h
    refine .inr (.inl ⟨vs, hq, ?_⟩)
    have := rs.length
    cases xs <;> cases vs <;> first | rfl | (simp at this)
  · rename_i n
    obtain ⟨a, ea, rfl⟩ := r
    split at h
    · rename_i xs hx
      cases h
      obtain ⟨vs, e1, rs⟩ := hr.lst hx ea
      refine .inl ⟨vs, .of e1, ?_⟩
      have := rs.length
      cases xs <;> cases vs <;> first | rfl | (simp at this)
    · rename_i kvs hx
      cases h
      obtain ⟨ks, e1, rs⟩ := hr.dct hx ea
      refine .inr (.inr ⟨ks, e1, ?_⟩)
      have := rs.length
      cases kvs <;> cases ks <;> first | rfl | (simp at this)
    · cases h
  · cases h
  · cases h

/-! ### subscripts -/
def rI' (G : Md) : R2 := fun x y H Q => ∃ φ A d e r, HR G φ H A ∧ Rep G φ H d x ∧ Rep G φ H e y ∧ opI A d e = some r ∧ VC G φ H Q r A
theorem atI_rep {G : Md} {φ : Ph} {H : Hp} {ds : List D} {vs : List V} {i : Int} {d : D} (r : Reps G φ H ds vs) (h : L2.atI ds i = some d) : ∃ v, L2.atI vs i = some v ∧ Rep G φ H d v := by
  unfold L2.atI at h ⊢
  rw [r.length]
  cases e : L2.ixN ds.length i with
  | none => rw [e] at h; cases h
  | some j =>
    rw [e] at h
    exact r.get h
theorem ix_ok (hu : X.A.units + 65 < cLine) : IxR X (rI' (Gd X)) := by
  intro value slice pins s σ H x y v u Q I rx ry h hs
  obtain ⟨φ, A, d, e, r, hr, rd, re, he, q⟩ := h
  unfold opI at he
  split at he
  · rename_i xs
    obtain ⟨a, vs, rfl, hq, rs⟩ := rd
    split at he
    · cases re
      obtain ⟨w, hw, rw'⟩ := atI_rep rs he
      exact ix_tup value slice pins s σ H _ _ v u Q I rx ry ⟨a, vs, _, w, rfl, rfl, hq, hw, q.here hr rw'⟩ hs
    · cases he
  · rename_i n
    obtain ⟨a, ea, rfl⟩ := rd
    split at he
    · rename_i kvs hkv
      split at he
      · rename_i hk
        have ex : v = Value.ref a := rx
        subst ex
        rcases hr.dgetL hkv ea hk re with ⟨d', v', q1, q2, q3⟩ | ⟨q1, q2⟩
        · rw [q1] at he; cases he
          exact tail_any (dict_typeIs I q2) PySem.F.slot_dict_getitem.lookup (d_getItem (by omega) I q2 ry fun w' s3 I3 rw' => ⟨v', H, I3, rw', q.here hr q3⟩) hs
        · rw [q1] at he; cases he
      · cases he
    · split at he
      · rename_i xs k hx
        cases re
        obtain ⟨vs, e1, rs⟩ := hr.seq hx ea
        obtain ⟨w, hw, rw'⟩ := atI_rep rs he
        exact ix_list value slice pins s σ H _ _ v u Q I rx ry ⟨a, vs, _, w, rfl, rfl, .of e1, hw, q.here hr rw'⟩ hs
      · cases he
  · cases he
def rS (G : Md) : V → Option Int → Option Int → Hp → VK → Prop := fun x lo hi H Q => ∃ φ A d r A', HR G φ H A ∧ Rep G φ H d x ∧ opS A d lo hi = .ok r A' ∧ VC G φ H Q r A'
theorem cut_rep {G : Md} {φ : Ph} {H : Hp} {ds : List D} {vs : List V} (lo hi : Option Int) (r : Reps G φ H ds vs) : Reps G φ H (cutD ds lo hi) (cutV vs lo hi) := by
  unfold cutD cutV
  rw [r.length]
  exact (r.drop _).take _
theorem sl_ok : SlR X (rS (Gd X)) := by
  intro pins s σ H x v vl vu lo hi sl Q I rx hs pl pu h
  obtain ⟨φ, A, d, r, A', hr, rd, he, q⟩ := h
  unfold opS at he
  split at he
  · rename_i xs
    cases he
    obtain ⟨a, vs, rfl, hq, rs⟩ := rd
    have hl := rs.length
    refine sl_tupA pins s σ H _ v vl vu lo hi sl Q I rx hs pl pu ⟨a, vs, rfl, hq, fun hw => q.here hr ⟨a, vs, rfl, hq, ?_⟩, fun _ p hp => q.tup hr hp (cut_rep lo hi rs)⟩
    rw [hl] at hw
    unfold cutD
    rw [hw.1, hw.2]
    simpa using rs
  · rename_i n
    obtain ⟨a, ea, rfl⟩ := rd
    split at he
    · rename_i xs hx
      cases he
      obtain ⟨vs, e1, rs⟩ := hr.seq hx ea
      exact sl_list pins s σ H _ v vl vu lo hi sl Q I rx hs pl pu ⟨a, vs, rfl, .of e1, fun p hp => q.new hr hp ⟨_, rfl, cut_rep lo hi rs⟩⟩
    · cases he
  · cases he
/-- o[i] = v -/
def rSt (G : Md) : V → V → V → Hp → (Hp → Prop) → Prop := fun o i v H Q => ∃ φ A d e f A', HR G φ H A ∧ Rep G φ H d o ∧ Rep G φ H e i ∧ Rep G φ H f v ∧ opSet A d e f = some A' ∧ ∀ φ' H', Ext φ H φ' H' → HR G φ' H' A' → Q H'
theorem set_ok (hu : X.A.units + 65 < cLine) : PSet X (rSt (Gd X)) := by
  intro pins s σ H o i v ov iv u Q I ro ri rv h
  obtain ⟨φ, A, d, e, f, A', hr, rd, re, rf, he, q⟩ := h
  unfold opSet at he
  split at he
  · rename_i n
    obtain ⟨a, ea, rfl⟩ := rd
    split at he
    · rename_i xs hx
      obtain ⟨vs, e1, rs⟩ := hr.lst hx ea
      split at he
      · rename_i k
        cases re
        obtain ⟨j, hj, rfl⟩ := Option.map_eq_some_iff.mp he
        exact set_list pins s σ H _ _ _ ov iv u Q I ro ri rv ⟨a, vs, k, j, rfl, rfl, e1, by rw [rs.length]; exact hj, q _ _ (.set (List.mem_of_getElem? ea) (.lst e1)) (hr.set ea (.lst e1) ⟨_, rfl, rs.set j rf⟩)⟩
      · cases he
    · rename_i kvs hx
      split at he
      · rename_i hk
        cases he
        simp only [Bool.and_eq_true, decide_eq_true_eq] at hk
        obtain ⟨ks, e1, rs⟩ := hr.dct hx ea
        obtain ⟨j, rfl, hj⟩ := KR.key hk.1 re
        have eo : ov = Value.ref a := ro
        subst eo
        exact d_setItem (by omega) I (.k e1 (by rw [rs.length]; exact hk.2)) ri rv fun s' I' => ⟨_, I', q _ _ (.set (List.mem_of_getElem? ea) (.dK e1)) (hr.set ea (.dK e1) ⟨_, rfl, rs.put hj rf⟩)⟩
      · cases he
    · cases he
  · cases he
end
end Ev

/-! ## EvVal3 -/
/-! EvVal3: built-in functions and methods by values. -/
namespace Ev
open PySem PySem.Spec PyProof.Rows L2
abbrev BF := AH → List D → Res D
def rBi (G : Md) (f : BF) : List V → Hp → VK → Prop := fun xs H Q => ∃ φ A ds r A', HR G φ H A ∧ Reps G φ H ds xs ∧ f A ds = .ok r A' ∧ VC G φ H Q r A'
section
variable {G : Md} {φ : Ph} {H : Hp} {A : AH}
theorem Reps.one {d : D} {xs : List V} (r : Reps G φ H [d] xs) : ∃ x, xs = [x] ∧ Rep G φ H d x := by
  obtain ⟨v, t, rfl, r1, r2⟩ := r
  rw [show t = [] from r2]; exact ⟨v, rfl, r1⟩
theorem Reps.two {d e : D} {xs : List V} (r : Reps G φ H [d, e] xs) : ∃ x y, xs = [x, y] ∧ Rep G φ H d x ∧ Rep G φ H e y := by
  obtain ⟨v, t, rfl, r1, r2⟩ := r
  obtain ⟨y, rfl, r3⟩ := Reps.one r2
  exact ⟨v, y, rfl, r1, r3⟩
theorem ints_rep : ∀ {ds : List D} {ns : List Int} {vs : List V}, intsOf ds = some ns → Reps G φ H ds vs → vs = ns.map V.int
  | [], ns, vs, h, r => by cases h; rw [show vs = [] from r]; rfl
  | d :: ds, ns, vs, h, r => by
    obtain ⟨v, t, rfl, r1, r2⟩ := r
    cases d <;> first | (cases h; done) | skip
    have h : (intsOf ds).map (_ :: ·) = some ns := h
    obtain ⟨ms, h1, rfl⟩ := Option.map_eq_some_iff.mp h
    rw [ints_rep h1 r2, show v = _ from r1]; rfl
theorem strs_rep : ∀ {ds : List D} {ns : List String} {vs : List V}, strsOf ds = some ns → Reps G φ H ds vs → vs = (ns.map Str.ofString).map V.str
  | [], ns, vs, h, r => by cases h; rw [show vs = [] from r]; rfl
  | d :: ds, ns, vs, h, r => by
    obtain ⟨v, t, rfl, r1, r2⟩ := r
    cases d <;> first | (cases h; done) | skip
    have h : (strsOf ds).map (_ :: ·) = some ns := h
    obtain ⟨ms, h1, rfl⟩ := Option.map_eq_some_iff.mp h
    rw [strs_rep h1 r2, show v = _ from r1]; rfl
theorem strs_reps : ∀ ns : List String, Reps G φ H (ns.map D.str) ((ns.map Str.ofString).map V.str)
  | [] => rfl
  | n :: ns => ⟨_, _, rfl, rfl, strs_reps ns⟩
end

/-! ### the order of texts -/
theorem ltCps_iff : ∀ a b : List Nat, ltCps a b = true ↔ a < b
  | [], [] => by simp [ltCps]
  | [], _ :: _ => by simp [ltCps]
  | _ :: _, [] => by simp [ltCps]
  | x :: a, y :: b => by
    have ih := ltCps_iff a b
    rw [List.cons_lt_cons_iff]
    unfold ltCps
    by_cases h1 : x < y
    · simp [h1]
    · by_cases h2 : x = y
      · subst h2; simp [ih]
      · have : ¬ x < y := h1
        simp [h1, h2]
theorem strLe_iff (a b : String) : strLe a b = true ↔ ¬ b.toList.map Char.toNat < a.toList.map Char.toNat := by
  unfold strLe
  rw [decide_eq_true_iff]
  exact Iff.rfl
theorem strLe_total (a b : String) : (strLe a b || strLe b a) = true := by
  rw [Bool.or_eq_true]
  unfold strLe
  rw [decide_eq_true_iff, decide_eq_true_iff]
  exact List.le_total _ _
theorem strLe_trans (a b c : String) (h1 : strLe a b = true) (h2 : strLe b c = true) : strLe a c = true := by
  unfold strLe at *
  rw [decide_eq_true_iff] at *
  exact List.le_trans h1 h2
theorem strLe_antisymm (a b : String) (h1 : strLe a b = true) (h2 : strLe b a = true) : a = b := by
  unfold strLe at *
  rw [decide_eq_true_iff] at *
  exact String.toList_inj.mp (map_inj_char (List.le_antisymm h1 h2))
theorem rising_pair : ∀ (ys : List String) (x : String), risingS (Str.ofString x) (ys.map Str.ofString) = true → (x :: ys).Pairwise (fun a b => strLe a b = true)
  | [], x, _ => by simp
  | y :: ys, x, h => by
    have h' : (!ltCps (Str.ofString y).cps.toList (Str.ofString x).cps.toList && risingS (Str.ofString y) (ys.map Str.ofString)) = true := h
    rw [Bool.and_eq_true, Bool.not_eq_true', ofString_cps, ofString_cps] at h'
    have ih := rising_pair ys y h'.2
    have hxy : strLe x y = true := by
      rw [strLe_iff, ← ltCps_iff, h'.1]; simp
    refine List.pairwise_cons.mpr ⟨fun z hz => ?_, ih⟩
    rcases List.mem_cons.mp hz with e | hz
    · rw [e]; exact hxy
    · exact strLe_trans _ _ _ hxy ((List.pairwise_cons.mp ih).1 z hz)
theorem sorted_pair : ∀ ys : List String, sortedS (ys.map Str.ofString) = true → ys.Pairwise (fun a b => strLe a b = true)
  | [], _ => List.Pairwise.nil
  | y :: ys, h => rising_pair ys y h
theorem perm_sorted_eq {r : String → String → Bool} (anti : ∀ a b, r a b = true → r b a = true → a = b) : ∀ {xs ys : List String}, xs.Perm ys → xs.Pairwise (fun a b => r a b = true) → ys.Pairwise (fun a b => r a b = true) → xs = ys
  | [], ys, p, _, _ => (List.nil_perm.mp p).symm
  | x :: xs, [], p, _, _ => absurd p.length_eq (by simp)
  | x :: xs, y :: ys, p, h1, h2 => by
    obtain ⟨a1, a2⟩ := List.pairwise_cons.mp h1
    obtain ⟨b1, b2⟩ := List.pairwise_cons.mp h2
    have e : x = y := by
      have hx : x ∈ y :: ys := p.mem_iff.mp (List.mem_cons_self)
      have hy : y ∈ x :: xs := p.mem_iff.mpr (List.mem_cons_self)
      rcases List.mem_cons.mp hx with e | hx
      · exact e
      · rcases List.mem_cons.mp hy with e | hy
        · exact e.symm
        · exact anti _ _ (a1 y hy) (b1 x hx)
    subst e
    rw [perm_sorted_eq anti ((List.perm_cons x).mp p) a2 b2]
theorem sortS_of {xs ys : List String} (p : ys.Perm xs) (h : sortedS (ys.map Str.ofString) = true) : ys = sortS xs := by
  unfold sortS
  refine perm_sorted_eq strLe_antisymm (p.trans (List.mergeSort_perm xs _).symm) (sorted_pair ys h) ?_
  exact List.pairwise_mergeSort (fun a b c => strLe_trans a b c) (fun a b => strLe_total a b) xs
theorem of_perm_map : ∀ {zs : List Str} {xs : List String}, zs.Perm (xs.map Str.ofString) → ∃ ys : List String, zs = ys.map Str.ofString ∧ ys.Perm xs := fun {zs xs} p => by
  have hm : ∀ z ∈ zs, ∃ y ∈ xs, Str.ofString y = z := fun z hz => List.mem_map.mp (p.mem_iff.mp hz)
  have : ∀ l : List Str, (∀ z ∈ l, ∃ y, Str.ofString y = z) → ∃ ys : List String, l = ys.map Str.ofString := fun l => by
    induction l with
    | nil => intro _; exact ⟨[], rfl⟩
    | cons z l ih =>
      intro h
      obtain ⟨y, hy⟩ := h z (List.mem_cons_self)
      obtain ⟨ys, e⟩ := ih fun w hw => h w (List.mem_cons_of_mem _ hw)
      exact ⟨y :: ys, by simp [hy, e]⟩
  obtain ⟨ys, e⟩ := this zs fun z hz => let ⟨y, _, h⟩ := hm z hz; ⟨y, h⟩
  refine ⟨ys, e, ?_⟩
  rw [e] at p
  have p2 := p.map (fun z : Str => String.ofList (z.cps.toList.map Char.ofNat))
  have hid : ∀ s : String, String.ofList ((Str.ofString s).cps.toList.map Char.ofNat) = s := fun s => by
    rw [ofString_cps, List.map_map]
    have : (Char.ofNat ∘ Char.toNat) = id := by funext c; simp
    rw [this, List.map_id, String.ofList_toList]
  rw [List.map_map, List.map_map] at p2
  have e2 : ((fun z : Str => String.ofList (z.cps.toList.map Char.ofNat)) ∘ Str.ofString) = id := by funext s; exact hid s
  rw [e2, List.map_id, List.map_id] at p2
  exact p2

section
variable {X : Cx}
theorem len_ok : CallR X (.builtin "len") (rBi (Gd X) biLen) := by
  intro pins s σ H xs us Q I rv h
  obtain ⟨φ, A, ds, r, A', hr, rs, he, q⟩ := h
  unfold biLen at he
  split at he
  · obtain ⟨x, rfl, rx⟩ := rs.one
    obtain ⟨a, vs, rfl, hq, r1⟩ := rx
    cases he
    exact call_len_seq pins s σ H _ us Q I rv ⟨a, vs, rfl, .inr hq, q.here hr (by rw [r1.length]; rfl)⟩
  · obtain ⟨x, rfl, rx⟩ := rs.one
    obtain ⟨a, ea, rfl⟩ := rx
    split at he
    · rename_i kvs hk
      cases he
      obtain ⟨ks, h1, h2⟩ := hr.dctL hk ea
      obtain ⟨u, rfl, ru⟩ := Vals.one rv
      cases ru
      exact d_len I h1 fun t s' I' => ⟨.int ks.length, H, I', ⟨t, rfl⟩, q.here hr (by rw [h2.length]; rfl)⟩
    · split at he
      · rename_i xs hx
        cases he
        obtain ⟨vs, e1, r1⟩ := hr.seq hx ea
        exact call_len_seq pins s σ H _ us Q I rv ⟨a, vs, rfl, .inl (.of e1), q.here hr (by rw [r1.length]; rfl)⟩
      · cases he
  · cases he
theorem tuple_ok : CallR X (.type "tuple") (rBi (Gd X) biTuple) := by
  intro pins s σ H xs us Q I rv h
  obtain ⟨φ, A, ds, r, A', hr, rs, he, q⟩ := h
  unfold biTuple at he
  split at he
  · obtain ⟨x, rfl, rx⟩ := rs.one
    obtain ⟨a, vs, rfl, hq, r1⟩ := rx
    cases he
    exact call_tuple_of pins s σ H _ us Q I rv ⟨a, vs, rfl, .inr ⟨hq, q.here hr ⟨a, vs, rfl, hq, r1⟩⟩⟩
  · obtain ⟨x, rfl, rx⟩ := rs.one
    obtain ⟨a, ea, rfl⟩ := rx
    split at he
    · rename_i xs hx
      cases he
      obtain ⟨vs, e1, r1⟩ := hr.seq hx ea
      exact call_tuple_of pins s σ H _ us Q I rv ⟨a, vs, rfl, .inl ⟨.of e1, fun p hp => q.tup hr hp r1⟩⟩
    · cases he
  · cases he
theorem list_ok : CallR X (.type "list") (rBi (Gd X) biList) := by
  intro pins s σ H xs us Q I rv h
  obtain ⟨φ, A, ds, r, A', hr, rs, he, q⟩ := h
  unfold biList at he
  split at he
  · obtain ⟨x, rfl, rx⟩ := rs.one
    obtain ⟨a, vs, rfl, hq, r1⟩ := rx
    cases he
    exact call_list_of pins s σ H _ us Q I rv ⟨a, vs, rfl, .inr hq, fun p hp => q.new hr hp ⟨_, rfl, r1⟩⟩
  · obtain ⟨x, rfl, rx⟩ := rs.one
    obtain ⟨a, ea, rfl⟩ := rx
    split at he
    · rename_i xs hx
      cases he
      obtain ⟨vs, e1, r1⟩ := hr.seq hx ea
      exact call_list_of pins s σ H _ us Q I rv ⟨a, vs, rfl, .inl (.of e1), fun p hp => q.new hr hp ⟨_, rfl, r1⟩⟩
    · cases he
  · cases he
theorem pairs_rep {φ : Ph} {H : Hp} : ∀ {ds : List D} {kvs : List (D × D)} {vs : List V}, pairsOf ds = some kvs → Reps (Gd X) φ H ds vs → ∃ (ps : List Addr) (ks : List (Key × V)), vs = ps.map V.ref ∧ Paired (fun p (kv : Key × V) => SqT X.K H p [kV kv.1, kv.2]) ps ks ∧ KReps (Gd X) φ H kvs ks
  | [], kvs, vs, h, r => by cases h; rw [show vs = [] from r]; exact ⟨[], [], rfl, by constructor, rfl⟩
  | d :: ds, kvs, vs, h, r => by
    obtain ⟨v, t, rfl, r1, r2⟩ := r
    cases d with
    | tup zs =>
      rcases zs with _ | ⟨k, _ | ⟨y, _ | _⟩⟩ <;> first | (cases h; done) | skip
      have h : (if keyOk k then (pairsOf ds).map ((k, y) :: ·) else none) = some kvs := h
      split at h
      · rename_i hk
        obtain ⟨m, hm, rfl⟩ := Option.map_eq_some_iff.mp h
        obtain ⟨a, xs, rfl, hq, rs⟩ := r1
        obtain ⟨x1, x2, rfl, rk, ry⟩ := rs.two
        obtain ⟨j, rfl, hj⟩ := KR.key hk rk
        obtain ⟨ps, ks, rfl, hp, hks⟩ := pairs_rep hm r2
        exact ⟨a :: ps, (j, x2) :: ks, rfl, by constructor; exact hq; exact hp, ⟨j, x2, ks, rfl, hj, ry, hks⟩⟩
      · cases h
    | _ => cases h
theorem dict_ok (hc : X.calm = true) : CallR X (.type "dict") (rBi (Gd X) biDict) := by
  intro pins s σ H xs us Q I rv h
  obtain ⟨φ, A, ds, r, A', hr, rs, he, q⟩ := h
  unfold biDict at he
  split at he
  · obtain ⟨x, rfl, rx⟩ := rs.one
    obtain ⟨a, ea, rfl⟩ := rx
    split at he
    · rename_i kvs hk
      cases he
      obtain ⟨ks, h1, h2⟩ := hr.dctL hk ea
      obtain ⟨u, rfl, ru⟩ := Vals.one rv
      cases ru
      exact d_copyOf I h1 fun p s' hp I' => ⟨.ref p, _, I', rfl, q.new hr hp ⟨_, rfl, h2⟩⟩
    · split at he
      · rename_i kvs hk
        split at he
        · cases he
          obtain ⟨xs, hx, hp⟩ := Option.bind_eq_some_iff.mp hk
          obtain ⟨vs, e1, r1⟩ := hr.seq hx ea
          obtain ⟨ps, ks, rfl, hpp, hks⟩ := pairs_rep hp r1
          exact call_dictP hc pins s σ H _ us Q I rv ⟨a, ps, ks, rfl, .of e1, hpp, fun p hp => q.new hr hp ⟨_, rfl, KReps.merge hks rfl⟩⟩
        · cases he
      · cases he
  · cases he
theorem int_ok : CallR X (.type "int") (rBi (Gd X) biInt) := by
  intro pins s σ H xs us Q I rv h
  obtain ⟨φ, A, ds, r, A', hr, rs, he, q⟩ := h
  unfold biInt at he
  split at he
  · obtain ⟨x, rfl, rx⟩ := rs.one
    cases he; cases rx
    exact call_int1 pins s σ H _ us Q I rv (.inl ⟨_, rfl, q.here hr rfl⟩)
  · obtain ⟨x, rfl, rx⟩ := rs.one
    cases he; cases rx
    exact call_int1 pins s σ H _ us Q I rv (.inr ⟨_, rfl, q.here hr rfl⟩)
  · cases he
theorem abs_ok : CallR X (.builtin "abs") (rBi (Gd X) biAbs) := by
  intro pins s σ H xs us Q I rv h
  obtain ⟨φ, A, ds, r, A', hr, rs, he, q⟩ := h
  unfold biAbs at he
  split at he
  · obtain ⟨x, rfl, rx⟩ := rs.one
    cases he; cases rx
    exact call_abs pins s σ H _ us Q I rv ⟨_, rfl, q.here hr rfl⟩
  · cases he
theorem bls_rep {φ : Ph} {H : Hp} : ∀ {ds : List D} {bs : List Bool} {vs : List V}, blsOf ds = some bs → Reps (Gd X) φ H ds vs → vs = bs.map V.bl
  | [], bs, vs, h, r => by cases h; rw [show vs = [] from r]; rfl
  | d :: ds, bs, vs, h, r => by
    obtain ⟨v, t, rfl, r1, r2⟩ := r
    cases d <;> first | (cases h; done) | skip
    unfold blsOf at h
    obtain ⟨m, hm, rfl⟩ := Option.map_eq_some_iff.mp h
    cases r1
    rw [bls_rep hm r2]
    rfl
theorem max_ok (hc : X.calm = true) : CallR X (.builtin "max") (rBi (Gd X) biMax) := by
  intro pins s σ H xs us Q I rv h
  obtain ⟨φ, A, ds, r, A', hr, rs, he, q⟩ := h
  unfold biMax at he
  split at he
  · obtain ⟨x, y, rfl, rx, ry⟩ := rs.two
    cases he; cases rx; cases ry
    exact call_max2 hc pins s σ H _ us Q I rv ⟨_, _, rfl, q.here hr rfl⟩
  · cases he
theorem any_ok (hc : X.calm = true) : CallR X (.builtin "any") (rBi (Gd X) biAny) := by
  intro pins s σ H xs us Q I rv h
  obtain ⟨φ, A, ds, r, A', hr, rs, he, q⟩ := h
  unfold biAny at he
  split at he
  · obtain ⟨x, rfl, rx⟩ := rs.one
    obtain ⟨a, ea, rfl⟩ := rx
    split at he
    · rename_i bs hn
      cases he
      obtain ⟨xs, hx, hp⟩ := Option.bind_eq_some_iff.mp hn
      obtain ⟨vs, e1, r1⟩ := hr.seq hx ea
      rw [bls_rep hp r1] at e1
      exact cr_any hc pins s σ H _ us Q I rv ⟨a, bs, rfl, .of e1, q.here hr rfl⟩
    · cases he
  · cases he
theorem all_ok (hc : X.calm = true) : CallR X (.builtin "all") (rBi (Gd X) biAll) := by
  intro pins s σ H xs us Q I rv h
  obtain ⟨φ, A, ds, r, A', hr, rs, he, q⟩ := h
  unfold biAll at he
  split at he
  · obtain ⟨x, rfl, rx⟩ := rs.one
    obtain ⟨a, ea, rfl⟩ := rx
    split at he
    · rename_i bs hn
      cases he
      obtain ⟨xs, hx, hp⟩ := Option.bind_eq_some_iff.mp hn
      obtain ⟨vs, e1, r1⟩ := hr.seq hx ea
      rw [bls_rep hp r1] at e1
      exact cr_all hc pins s σ H _ us Q I rv ⟨a, bs, rfl, .of e1, q.here hr rfl⟩
    · cases he
  · cases he
theorem sum_ok (hc : X.calm = true) : CallR X (.builtin "sum") (rBi (Gd X) biSum) := by
  intro pins s σ H xs us Q I rv h
  obtain ⟨φ, A, ds, r, A', hr, rs, he, q⟩ := h
  unfold biSum at he
  split at he
  · obtain ⟨x, rfl, rx⟩ := rs.one
    obtain ⟨a, ea, rfl⟩ := rx
    split at he
    · rename_i ns hn
      cases he
      obtain ⟨xs, hx, hn⟩ := Option.bind_eq_some_iff.mp hn
      obtain ⟨vs, e1, r1⟩ := hr.seq hx ea
      rw [ints_rep hn r1] at e1
      exact cr_sum hc pins s σ H _ us Q I rv ⟨a, ns, rfl, .of e1, q.here hr rfl⟩
    · cases he
  · cases he
theorem keys_strs {G : Md} {φ : Ph} {H : Hp} : ∀ {kvs : List (D × D)} {ks : List (Key × V)} {ss : List String}, KReps G φ H kvs ks → strsOf (kvs.map (·.1)) = some ss → ks.map (·.1) = (ss.map Str.ofString).map Sum.inr
  | [], ks, ss, r, h => by cases h; rw [show ks = [] from r]; rfl
  | (k, d) :: kvs, ks, ss, r, h => by
    obtain ⟨j, v, t, rfl, r0, r1, r2⟩ := r
    cases k <;> first | (cases h; done) | skip
    rename_i z
    have h : (strsOf (kvs.map (·.1))).map (z :: ·) = some ss := h
    obtain ⟨ms, h1, rfl⟩ := Option.map_eq_some_iff.mp h
    have ih := keys_strs r2 h1
    cases j with
    | inl i => exact r0.elim
    | inr x => cases r0; simp [ih]
theorem sorted_ok (hc : X.calm = true) : CallR X (.builtin "sorted") (rBi (Gd X) biSorted) := by
  intro pins s σ H xs us Q I rv h
  obtain ⟨φ, A, ds, r, A', hr, rs, he, q⟩ := h
  unfold biSorted at he
  split at he
  · obtain ⟨x, rfl, rx⟩ := rs.one
    obtain ⟨a, ea, rfl⟩ := rx
    split at he
    · rename_i kvs hk
      split at he
      · rename_i ss hss
        split at he
        · rename_i hl
          cases he
          obtain ⟨ks, h1, h2⟩ := hr.dctL hk ea
          refine call_sortedD hc pins s σ H _ us Q I rv ⟨a, ks, ss.map Str.ofString, rfl, h1, keys_strs h2 hss, by simpa using hl, fun ys p hp hs hn => ?_⟩
          obtain ⟨zs, rfl, hz⟩ := of_perm_map hp
          rw [sortS_of hz hs]
          exact q.new hr hn ⟨_, rfl, strs_reps _⟩
        · cases he
      · cases he
    · split at he
      · rename_i ss hss
        split at he
        · rename_i hl
          cases he
          obtain ⟨xs, hx, hss⟩ := Option.bind_eq_some_iff.mp hss
          obtain ⟨vs, e1, r1⟩ := hr.seq hx ea
          rw [strs_rep hss r1] at e1
          refine cr_sortedS pins s σ H _ us Q I rv ⟨a, ss.map Str.ofString, rfl, .of e1, by simpa using hl, fun ys p hp hs hn => ?_⟩
          obtain ⟨zs, rfl, hz⟩ := of_perm_map hp
          rw [sortS_of hz hs]
          exact q.new hr hn ⟨_, rfl, strs_reps _⟩
        · cases he
      · cases he
  · cases he
end
end Ev

/-! ## EvVal4 -/
/-! EvVal4: isinstance; methods. -/
namespace Ev
open PySem PySem.Spec PyProof.Rows L2
section
variable {X : Cx}
/-- the built-in names that the text does not hide -/
def FreeB (mg : Str → Option Value) : Prop := ∀ t : String, t ∈ tyNames → mg (Str.ofString t) = none
theorem ty_of {G : Md} {φ : Ph} {H : Hp} {A : AH} {d : D} {x : V} {n : String} (hr : HR G φ H A) (r : Rep G φ H d x) (h : tyName A d = some n) : TyX G.K H x (.type n) ∧ n ∈ "NoneType" :: tyNames := by
  unfold tyName at h
  split at h
  · cases h; cases r; exact ⟨.base .non, by decide⟩
  · cases h; cases r; exact ⟨.base (.bl _), by decide⟩
  · cases h; cases r; exact ⟨.base (.int _), by decide⟩
  · cases h; cases r; exact ⟨.base (.str _), by decide⟩
  · cases h
    obtain ⟨a, vs, rfl, hq, _⟩ := r
    refine ⟨?_, by decide⟩
    rcases hq with (q | ⟨o, q⟩) | ⟨o, its, m, q, c, _⟩
    · exact .base (.tup q)
    · exact .fTuple q
    · exact .kTuple q c
  · obtain ⟨a, ea, rfl⟩ := r
    split at h
    · rename_i xs hx
      cases h
      obtain ⟨vs, e1, _⟩ := hr.lst hx ea
      exact ⟨.base (.lst e1), by decide⟩
    · rename_i kvs hx
      cases h
      obtain ⟨ks, e1, _⟩ := hr.dct hx ea
      exact ⟨.base (.dK e1), by decide⟩
    · rename_i kvs hx
      cases h
      obtain ⟨ho, e1, o, ks, rfl, _⟩ := hr.at_ _ _ _ ea hx
      exact ⟨.fDict e1, by decide⟩
    · cases h
  · cases h
theorem kit_all : ∀ n ∈ "NoneType" :: tyNames, ∀ t ∈ tyNames, kitB n t = some (n == t || (n == "bool" && t == "int")) := by decide +kernel
theorem boot_ty : ∀ t ∈ tyNames, bootBuiltins (Str.ofString t) = some (.type t) := by decide +kernel
theorem isi_ok (hf : FreeB X.mg) : CallR X (.builtin "isinstance") (rBi (Gd X) biIsi) := by
  intro pins s σ H xs us Q I rv h
  obtain ⟨φ, A, ds, r, A', hr, rs, he, q⟩ := h
  unfold biIsi at he
  split at he
  · rename_i d t
    obtain ⟨x, c, rfl, rx, rc⟩ := rs.two
    cases hb : isA A d t with
    | none => rw [hb] at he; cases he
    | some b =>
      rw [hb] at he
      cases he
      unfold isA at hb
      split at hb
      · rename_i n hn
        split at hb
        · rename_i ht
          cases hb
          have ht : t ∈ tyNames := by simpa using ht
          obtain ⟨ty, hm⟩ := ty_of hr rx hn
          obtain ⟨u, ru, hu⟩ := rc
          have e : u = .type t := by
            rcases hu with hu | ⟨_, hu⟩
            · have := hf t ht
              rw [show X.mg (Str.ofString t) = some u from hu] at this; cases this
            · rw [boot_ty t ht] at hu; exact (Option.some.inj hu).symm
          subst e
          have ec : c = .ty t := ru.inj (show RelV (.ty t) _ from rfl)
          subst ec
          exact call_isi pins s σ H _ us Q I rv ⟨x, .ty t, .type n, .type t, _, rfl, .ty t, ty, kit_ty (kit_all n hm t ht), q.here hr rfl⟩
        · cases hb
      · cases hb
  · cases he

/-! ### methods: by the receiver's address -/
abbrev MF := AH → Nat → List D → Res D
def rMt (G : Md) (f : MF) : V → List V → Hp → VK → Prop := fun x xs H Q => ∃ φ A n ds r A', HR G φ H A ∧ Rep G φ H (.ref n) x ∧ Reps G φ H ds xs ∧ f A n ds = .ok r A' ∧ VC G φ H Q r A'
theorem append_ok : MtM X "list.append" (rMt (Gd X) mtAppend) := by
  intro pins s σ H x xs v us Q I rx rv h
  obtain ⟨φ, A, n, ds, r, A', hr, rd, rs, he, q⟩ := h
  obtain ⟨a, ea, rfl⟩ := rd
  unfold mtAppend at he
  split at he
  · obtain ⟨y, rfl, ry⟩ := rs.one
    split at he
    · rename_i ys hx
      split at he
      · rename_i hl
        cases he
        obtain ⟨vs, e1, r1⟩ := hr.lst hx ea
        exact mt_append pins s σ H _ _ v us Q I rx rv ⟨a, vs, y, rfl, rfl, e1, by rw [r1.length]; exact hl, q.set hr ea (.lst e1) ⟨_, rfl, r1.append (.cons ry .nil)⟩ rfl⟩
      · cases he
    · cases he
  · cases he
theorem extend_ok : MtM X "list.extend" (rMt (Gd X) mtExtend) := by
  intro pins s σ H x xs v us Q I rx rv h
  obtain ⟨φ, A, n, ds, r, A', hr, rd, rs, he, q⟩ := h
  obtain ⟨a, ea, rfl⟩ := rd
  unfold mtExtend at he
  split at he
  · obtain ⟨y, rfl, ry⟩ := rs.one
    obtain ⟨b, eb, rfl⟩ := ry
    split at he
    · rename_i ys zs h1 h2
      split at he
      · rename_i hl
        cases he
        obtain ⟨vs, e1, r1⟩ := hr.lst h1 ea
        obtain ⟨ws, e2, r2⟩ := hr.lst h2 eb
        exact mt_extend pins s σ H _ _ v us Q I rx rv ⟨a, b, vs, ws, rfl, rfl, e1, e2, by rw [r1.length, r2.length]; exact hl, q.set hr ea (.lst e1) ⟨_, rfl, r1.append r2⟩ rfl⟩
      · cases he
    · cases he
  · cases he
theorem lpop_ok : MtM X "list.pop" (rMt (Gd X) mtLPop) := by
  intro pins s σ H x xs v us Q I rx rv h
  obtain ⟨φ, A, n, ds, r, A', hr, rd, rs, he, q⟩ := h
  obtain ⟨a, ea, rfl⟩ := rd
  unfold mtLPop at he
  split at he
  · have rs' : xs = [] := rs
    subst rs'
    unfold mtPop at he
    dsimp only at he
    split at he
    · rename_i ys h1
      split at he
      · rename_i y hy
        cases he
        obtain ⟨vs, e1, r1⟩ := hr.lst h1 ea
        rw [List.getLast?_eq_getElem?] at hy
        obtain ⟨w, hw, rw'⟩ := r1.get hy
        exact mt_pop pins s σ H _ _ v us Q I rx rv ⟨a, vs, w, rfl, rfl, e1, by rw [r1.length]; exact hw, q.set hr ea (.lst e1) ⟨_, rfl, r1.dropLast⟩ rw'⟩
      · cases he
    · cases he
  · cases he
theorem ixD_at {y : D} : ∀ {xs : List D} {j : Nat}, ixD y xs = some j → ∃ z, xs[j]? = some z ∧ flatEq z y = true ∧ ∀ (m : Nat) (z' : D), m < j → xs[m]? = some z' → flatEq z' y = false
  | [], j, h => by cases h
  | z :: r, j, h => by
    unfold ixD at h
    split at h
    · rename_i hz
      cases h
      exact ⟨z, rfl, hz, fun m z' hm => absurd hm (Nat.not_lt_zero m)⟩
    · rename_i hz
      obtain ⟨i, hi, rfl⟩ := Option.map_eq_some_iff.mp h
      obtain ⟨z1, h1, h2, h3⟩ := ixD_at hi
      refine ⟨z1, by simpa using h1, h2, fun m z' hm hz' => ?_⟩
      cases m with
      | zero =>
        simp only [List.getElem?_cons_zero, Option.some.injEq] at hz'
        subst hz'
        simpa using hz
      | succ m => exact h3 m z' (by omega) (by simpa using hz')
theorem Reps.back {G : Md} {φ : Ph} {H : Hp} : ∀ {ds : List D} {vs : List V}, Reps G φ H ds vs → ∀ {m : Nat} {v : V}, vs[m]? = some v → ∃ d, ds[m]? = some d ∧ Rep G φ H d v
  | [], vs, r, m, v, h => by
    rw [show vs = [] from r] at h
    simp at h
  | d :: ds, vs, r, m, v, h => by
    obtain ⟨w, t, rfl, r1, r2⟩ := r
    cases m with
    | zero =>
      simp only [List.getElem?_cons_zero, Option.some.injEq] at h
      subst h
      exact ⟨d, rfl, r1⟩
    | succ m => exact r2.back (m := m) (by simpa using h)
theorem index_ok : MtM X "list.index" (rMt (Gd X) mtIndex) := by
  intro pins s σ H x xs v us Q I rx rv h
  obtain ⟨φ, A, n, ds, r, A', hr, rd, rs, he, q⟩ := h
  obtain ⟨a, ea, rfl⟩ := rd
  unfold mtIndex at he
  split at he
  · obtain ⟨y, rfl, ry⟩ := rs.one
    rename_i yd
    split at he
    · rename_i ys hx
      split at he
      · rename_i hf
        simp only [Bool.and_eq_true] at hf
        split at he
        · rename_i j hj
          cases he
          obtain ⟨vs, e1, r1⟩ := hr.lst hx ea
          obtain ⟨z, h1, h2, h3⟩ := ixD_at hj
          obtain ⟨w, hw, rw'⟩ := r1.get h1
          have fz : ∀ {m : Nat} {z : D}, ys[m]? = some z → flatD z = true := fun h => List.all_eq_true.mp hf.2 _ (List.mem_of_getElem? h)
          refine mt_index pins s σ H _ _ v us Q I rx rv ⟨a, vs, y, j, w, rfl, rfl, .inl (.inl e1), flatV_of ry hf.1, flatVs_of r1 hf.2, hw, ?_, fun m z' hm hz' => ?_, q.here hr rfl⟩
          · rw [flatEq_of rw' ry (fz h1) hf.1]
            exact h2
          · obtain ⟨d', hd', rd'⟩ := r1.back hz'
            rw [flatEq_of rd' ry (fz hd') hf.1]
            exact h3 m d' hm hd'
        · cases he
      · cases he
    · cases he
  · cases he
theorem get_ok (hu : X.A.units + 65 < cLine) : MtM X "dict.get" (rMt (Gd X) mtGet) := by
  intro pins s σ H x xs v us Q I rx rv h
  obtain ⟨φ, A, n, ds, r, A', hr, rd, rs, he, q⟩ := h
  obtain ⟨a, ea, rfl⟩ := rd
  cases (show v = Value.ref a from rx)
  unfold mtGet at he
  split at he
  · obtain ⟨y, rfl, ry⟩ := rs.one
    obtain ⟨u, rfl, ru⟩ := Vals.one rv
    split at he
    · rename_i kvs hk
      split at he
      · rename_i hkk
        cases he
        have hk' : Ev.dctL A n = some kvs := by unfold Ev.dctL; rw [hk]
        rcases hr.dgetL hk' ea hkk ry with ⟨d', v', q1, q2, q3⟩ | ⟨q1, q2⟩
        · rw [q1] at q
          exact d_get1 (by omega) I q2 ru fun w' s' I' rw' => ⟨v', H, I', rw', q.here hr q3⟩
        · rw [q1] at q
          exact d_get1 (by omega) I q2 ru fun w' s' I' rw' => ⟨.non, H, I', rw', q.here hr rfl⟩
      · cases he
    · cases he
  · obtain ⟨y, z, rfl, ry, rz⟩ := rs.two
    obtain ⟨u, u2, rfl, ru, ru2⟩ := Vals.two rv
    split at he
    · rename_i kvs hk
      split at he
      · rename_i hkk
        cases he
        have hk' : Ev.dctL A n = some kvs := by unfold Ev.dctL; rw [hk]
        rcases hr.dgetL hk' ea hkk ry with ⟨d', v', q1, q2, q3⟩ | ⟨q1, q2⟩
        · rw [q1] at q
          exact d_get2 (by omega) I q2 ru ru2 fun w' s' I' rw' => ⟨v', H, I', rw', q.here hr q3⟩
        · rw [q1] at q
          exact d_get2 (by omega) I q2 ru ru2 fun w' s' I' rw' => ⟨z, H, I', rw', q.here hr rz⟩
      · cases he
    · cases he
  · cases he
theorem dpop_ok : MtM X "dict.pop" (rMt (Gd X) mtDPop) := by
  intro pins s σ H x xs v us Q I rx rv h
  obtain ⟨φ, A, n, ds, r, A', hr, rd, rs, he, q⟩ := h
  obtain ⟨a, ea, rfl⟩ := rd
  cases (show v = Value.ref a from rx)
  unfold mtDPop at he
  split at he
  · obtain ⟨y, z, rfl, ry, rz⟩ := rs.two
    obtain ⟨u, u2, rfl, ru, ru2⟩ := Vals.two rv
    unfold mtPop at he
    dsimp only at he
    split at he
    · rename_i kvs hk
      split at he
      · rename_i hkk
        obtain ⟨ks, h1, h2⟩ := hr.dct hk ea
        obtain ⟨j, rfl, hj⟩ := KR.key hkk ry
        rcases h2.get hj with ⟨d', v', q1, q2, q3⟩ | ⟨q1, q2⟩
        · rw [q1] at he
          cases he
          exact d_pop I h1 ru q2 (.inr ⟨u2, rfl⟩) fun w' s' I' rw' => ⟨v', _, I', rw', q.set hr ea (.dK h1) ⟨_, rfl, h2.drop hj⟩ q3⟩
        · rw [q1] at he
          cases he
          exact d_popD I h1 ru q2 fun s' I' => ⟨z, H, I', ru2, q.here hr rz⟩
      · cases he
    · cases he
  · cases he
theorem update_ok : MtM X "dict.update" (rMt (Gd X) mtUpdate) := by
  intro pins s σ H x xs v us Q I rx rv h
  obtain ⟨φ, A, n, ds, r, A', hr, rd, rs, he, q⟩ := h
  obtain ⟨a, ea, rfl⟩ := rd
  cases (show v = Value.ref a from rx)
  unfold mtUpdate at he
  split at he
  · rename_i b
    obtain ⟨y, rfl, ry⟩ := rs.one
    obtain ⟨c, eb, rfl⟩ := ry
    obtain ⟨u, rfl, ru⟩ := Vals.one rv
    cases (show u = Value.ref c from ru)
    split at he
    · cases he
    · rename_i hbn
      split at he
      · rename_i kvs more h1 h2
        split at he
        · rename_i hl
          cases he
          obtain ⟨ks, e1, r1⟩ := hr.dct h1 ea
          obtain ⟨ms, e2, r2⟩ := hr.dct h2 eb
          obtain ⟨z1, hd1, vs1, rel1, dd1⟩ := dk_of I.hok e1
          obtain ⟨z2, hd2, vs2, rel2, dd2⟩ := dk_of I.hok e2
          have hac : a ≠ c := fun e => hbn (hr.inj b n c eb (by rw [← e]; exact ea))
          have hsz : ks.length + ms.length ≤ sizeLine := by rw [r1.length, r2.length]; exact hl
          refine call_meetsIn PySem.F.slot_dict_update dd1.typeIs PySem.F.entry_dict_update (PySem.F.args_dict_update_2 _ _) (meets_dict_update (mixKind X.prog X.w) a c hac hd2)
            ⟨vs1, vs2, dd1, dd2, (by rw [← rel1.length, ← rel2.length]; exact hsz), fun h' dd' _ hs => ?_⟩
          have he : ∃ q, h'.get? a = some q := let ⟨q, _, _, hq, _⟩ := dd'; ⟨q, hq⟩
          have hl2 : (mergeK ks ms).length ≤ sizeLine := Nat.le_trans (length_mergeK ms ks) (by omega)
          exact ⟨.non, _, d_write (t' := s.toks) I (by rw [e1]; exact True.intro) hs he (dk_new hl2 hd1 (KV.merge rel2 rel1) dd'), rfl, q.set hr ea (.dK e1) ⟨_, rfl, r2.merge r1⟩ rfl⟩
        · cases he
      · cases he
  · cases he
end
end Ev

/-! ## EvIt -/
/-! EvIt: what is walked: lists, tuples, dicts, ranges; enumerate and zip of lists and tuples in any mix. -/
namespace PySem
open Sem (wp)
open Calls
theorem ev_meets_enum1 {v : Value} {o : Obj} {H : Heap → Prop} (B : Begins v o H) :
    Meets (Builtin.«enumerate.__new__» ⟨[.type "enumerate", v], []⟩) (fun _ R s => H s.heap ∧
      R (.ok (.ret (.ref (s.heap.push o).objs.size))) { s with heap := (s.heap.push o).push { cls := .type "enumerate", data := .fields #[.none, .bool false, .ref s.heap.objs.size, rawInt 0, .none, .none] } }) :=
  .of_wp fun prog w A R s h => by
    obtain ⟨hp, g, d, tk, os⟩ := s; obtain ⟨h1, h⟩ := h
    have hsub := sub_enumerate
    have q1 : ∀ {A' : Around} {E : Value → Shared → Prop} {Q : Value → Shared → Prop}, Q (.ref hp.objs.size) ⟨hp.push o, g, d, tk, os⟩ → wpAny (model prog w) A' (pyIter v) Q E ⟨hp, g, d, tk, os⟩ :=
      fun q => B.iter prog w _ _ ⟨hp, g, d, tk, os⟩ _ h1 q
    wp_walk using q1
    refine wpAny_stack_any fun st => wpAny_pure ?_
    split
    · rename_i c _ _ _ _ _
      cases (c == Value.type "enumerate")
      · wp_walk using q1
        exact ⟨_, rfl, h⟩
      · wp_walk using q1
        exact ⟨_, rfl, h⟩
    · wp_walk using q1
      exact ⟨_, rfl, h⟩
theorem ev_enum1_begins {prog : Program} {w : World} {A : Around} {E : Value → Shared → Prop} {s : Shared} {v : Value} {o : Obj} {H : Heap → Prop} {Q : Value → Shared → Prop} (B : Begins v o H) (h1 : H s.heap)
    (h : ∀ h', IsEnum h' (s.heap.objs.size + 1) s.heap.objs.size 0 .none → h'.get? s.heap.objs.size = some o → h'.objs.size = s.heap.objs.size + 2 →
      (∀ b o, s.heap.get? b = some o → h'.get? b = some o) → Q (.ref (s.heap.objs.size + 1)) { s with heap := h' }) :
    wpAny (model prog w) A (call (.type "enumerate") [v]) Q E s := by
  refine callType_new F.called_enumerate (by decide) (F.typeCall_enumerate_1 _) (F.newCall_enumerate_1 _) (fun obj => F.args_object_init_2 obj _) F.entry_enumerate_new
    (ev_meets_enum1 B) ⟨h1, ?_⟩
  have hz : (s.heap.push o).objs.size = s.heap.objs.size + 1 := Heap.size_push ..
  show _ ∧ _
  rw [hz]
  have he : IsEnum ((s.heap.push o).push { cls := .type "enumerate", data := .fields #[.none, .bool false, .ref s.heap.objs.size, rawInt 0, .none, .none] }) (s.heap.objs.size + 1) s.heap.objs.size 0 .none := by
    have := Heap.get?_push_size (s.heap.push o) (o := { cls := .type "enumerate", data := .fields #[.none, .bool false, .ref s.heap.objs.size, rawInt 0, .none, .none] }) rfl
    rw [hz] at this; exact this
  refine ⟨⟨_, he, rfl⟩, h _ he (Heap.get?_push_of_some _ (Heap.get?_push_size _ B.free)) (by rw [Heap.size_push, hz]) fun b o x => Heap.get?_push_of_some _ (Heap.get?_push_of_some _ x)⟩
end PySem

namespace Ev
open PySem PySem.Spec PyProof.Rows L2

/-! ### sources: lists and tuples -/
def SqB (b : Bool) (K : PySem.W.Frag) (H : Hp) (a : Addr) (xs : List V) : Prop := match b with
  | true => SqT K H a xs
  | false => SqL K H a xs
def ItB (b : Bool) (h : Heap) (it a : Addr) (i : Nat) : Prop := match b with
  | true => h.IsTupleIter it a i
  | false => h.IsListIter it a i
def SqH (b : Bool) (h : Heap) (a : Addr) (its : Array Value) : Prop := match b with
  | true => h.IsTuple a its
  | false => h.IsList a its
theorem drawsB (b : Bool) {prog : Program} {w : World} {A : Around} (hh : A.handled = none) (it l : Addr) (hne : l ≠ it) (items : Array Value) :
    Draws prog w A it [it, l] items.size (fun i v => items[i]? = some v) (fun i h => ItB b h it l i ∧ SqH b h l items) := by
  cases b with
  | true => exact Draws.tuple hh it l hne items
  | false => exact Draws.list hh it l hne items
theorem ItB.obj {b : Bool} {h : Heap} {it a : Addr} {i : Nat} (x : ItB b h it a i) : ∃ o, h.get? it = some o ∧ ∀ v, o.data ≠ .cell v := by
  cases b with
  | true => obtain ⟨o, e, c, d⟩ := x; exact ⟨o, e, fun v z => by rw [d] at z; cases z⟩
  | false => obtain ⟨o, e, c, d⟩ := x; exact ⟨o, e, fun v z => by rw [d] at z; cases z⟩
theorem ItB.at {b : Bool} {h h' : Heap} {it a : Addr} {i : Nat} (x : ItB b h it a i) (k : ∀ o, h.get? it = some o → h'.get? it = some o) : ItB b h' it a i := by
  cases b with
  | true => exact Heap.IsTupleIter.at x k
  | false => exact Heap.IsListIter.at x k
theorem SqH.lt {b : Bool} {h : Heap} {a : Addr} {its : Array Value} (x : SqH b h a its) : a < h.objs.size := by
  cases b with
  | true => obtain ⟨o, e, _⟩ := x; exact Heap.lt_size e
  | false => obtain ⟨o, e, _⟩ := x; exact Heap.lt_size e
section
variable {X : Cx} {pins : List (Addr × Obj)} {σ : L2.St} {H : Hp} {s : Shared} {a : Addr} {xs ys : List V} {b : Bool}
theorem Inv.src (I : L2.Inv X pins σ H s) (h : SqB b X.K H a xs) : ∃ its : List Value, Vals xs its ∧ SqH b s.heap a its.toArray := by
  cases b with
  | true => obtain ⟨its, r, p, _⟩ := I.tuple h; exact ⟨its, r, p⟩
  | false => obtain ⟨its, r, p, _⟩ := I.list h; exact ⟨its, r, p.isList⟩
theorem Inv.src_inj (I : L2.Inv X pins σ H s) (h : SqB b X.K H a xs) (h' : SqB b X.K H a ys) : xs = ys := by
  cases b with
  | true => exact I.tuple_inj h h'
  | false => exact I.list_inj h h'
end
def ItzB (b c : Bool) (K : PySem.W.Frag) (x y : Addr) : It :=
  ⟨fun i H => ∃ (xs ys : List V) (u v : V), SqB b K H x xs ∧ SqB c K H y ys ∧ xs[i]? = some u ∧ ys[i]? = some v,
    fun i H w H' => ∃ T u v, w = .ref T ∧ H T = none ∧ H' = upd H T (.tup [u, v]) ∧ (∀ xs, SqB b K H x xs → xs[i]? = some u) ∧ ∀ ys, SqB c K H y ys → ys[i]? = some v,
    fun i H => ∃ xs ys : List V, SqB b K H x xs ∧ SqB c K H y ys ∧ min xs.length ys.length = i⟩
def IteB (b : Bool) (K : PySem.W.Frag) (x : Addr) : It :=
  ⟨fun i H => ∃ (xs : List V) (u : V), SqB b K H x xs ∧ xs[i]? = some u, fun i H w H' => ∃ T u, w = .ref T ∧ H T = none ∧ H' = upd H T (.tup [.int (i : Nat), u]) ∧ ∀ xs, SqB b K H x xs → xs[i]? = some u,
    fun i H => ∃ xs : List V, SqB b K H x xs ∧ xs.length = i⟩
structure Apart2 (z TI TO i1 i2 a1 a2 : Addr) : Prop where
  sep : ZipSep2 z TI TO i1 i2 [i1, a1] [i2, a2]
  n1 : a1 ≠ i1
  n2 : a2 ≠ i2
theorem size_vals {xs : List V} {its : List Value} (r : Vals xs its) : its.toArray.size = xs.length := by rw [List.size_toArray]; exact r.length.symm
theorem turn_zipB {P : Program} {w : World} {K : PySem.W.Frag} {elts : List Expr} {kk : Nat} {tpos : Pos} {b1 b2 : Bool} {a1 a2 z TI TO i1 i2 : Addr} (D : Apart2 z TI TO i1 i2 a1 a2) :
    Turn P w K (.Tuple elts kk tpos) (ItzB b1 b2 K a1 a2) [z, TI, TO, i1, i2] z
      (fun i h => IsZip h z TI TO .none ∧ IsTupOf2 h TI (.ref i1) (.ref i2) ∧ (∃ x y, IsTupOf2 h TO x y) ∧ ItB b1 h i1 a1 i ∧ ItB b2 h i2 a2 i) where
  mem := by simp
  obj := fun i h st c hc => by
    obtain ⟨hz, hTI, ⟨x, y, hTO⟩, h1, h2⟩ := st
    have e' : c = z ∨ c = TI ∨ c = TO ∨ c = i1 ∨ c = i2 := by simpa using hc
    rcases e' with q | q | q | q | q
    · rw [q]; exact ⟨_, hz, fun v q => nomatch q⟩
    · rw [q]; exact ⟨_, hTI, fun v q => nomatch q⟩
    · rw [q]; exact ⟨_, hTO, fun v q => nomatch q⟩
    · rw [q]; exact h1.obj
    · rw [q]; exact h2.obj
  keep := fun i h h' st k => by
    obtain ⟨hz, hTI, ⟨x, y, hTO⟩, h1, h2⟩ := st
    exact ⟨k z (by simp) _ hz, k TI (by simp) _ hTI, ⟨x, y, k TO (by simp) _ hTO⟩, h1.at fun o q => k i1 (by simp) o q, h2.at fun o q => k i2 (by simp) o q⟩
  item := by
    intro X hP hw hK hc i pins s σ H E I hf st hg
    subst hP hw hK
    obtain ⟨hz, hTI, hTO, h1, h2⟩ := st
    obtain ⟨xs, ys, x, y, hqx, hqy, hx, hy⟩ := hg
    obtain ⟨its, rv, p⟩ := Inv.src I hqx
    obtain ⟨its2, rv2, p2⟩ := Inv.src I hqy
    obtain ⟨u, hu, ru⟩ := rv.get hx
    obtain ⟨u2, hu2, ru2⟩ := rv2.get hy
    have hh : X.A.in1.handled = none := I.ok.hd hc
    have W := WalksT.zipD2 D.sep (drawsB b1 (prog := X.prog) (w := X.w) hh i1 a1 D.n1 its.toArray) (drawsB b2 (prog := X.prog) (w := X.w) hh i2 a2 D.n2 its2.toArray)
    have li : i < min its.toArray.size its2.toArray.size := by
      rw [size_vals rv, size_vals rv2]
      have e1 := (List.getElem?_eq_some_iff.mp hx).1
      have e2 := (List.getElem?_eq_some_iff.mp hy).1
      omega
    refine W.item i s _ _ li ⟨hz, hTI, hTO, ⟨h1, p⟩, ⟨h2, p2⟩⟩ fun T vals h' tk hv hT hI hm kk => ?_
    obtain ⟨v1, v2, q1, q2, rfl⟩ := hv
    have q1' : its[i]? = some v1 := by simpa using q1
    have q2' : its2[i]? = some v2 := by simpa using q2
    rw [hu] at q1'; cases q1'
    rw [hu2] at q2'; cases q2'
    have ap := W.apart i T h' hm
    refine ⟨_, rfl, W.go elts _ tpos i T { s with heap := h', toks := tk } _ _ hm fun h'' st' kk2 => ?_⟩
    obtain ⟨oT, eT, cT, nT, dT⟩ := hI
    have hT2 : h''.get? T = some oT := kk2 T oT ap eT
    have new : ObjOk X.prog X.w (upd H T (.tup [x, y])) h'' T (.tup [x, y]) :=
      ⟨by show 2 ≤ sizeLine; decide, [u, u2], .cons ru (.cons ru2 .nil), ⟨oT, hT2, cT, nT, dT⟩⟩
    have I1 : L2.Inv X pins σ (upd H T (.tup [x, y])) { s with heap := h'', toks := tk } :=
      I.turnedNew (t' := tk) (ch := [z, TI, TO, i1, i2]) (fun c o hb q => by
        have nb : c ∉ [z, TO, i1, i2] := fun hm => hb (by
          have : c = z ∨ c = TO ∨ c = i1 ∨ c = i2 := by simpa using hm
          simp only [List.mem_cons]
          rcases this with e | e | e | e <;> simp [e])
        exact kk2 c o nb (kk c o nb q)) hf hT new
    obtain ⟨z', TI', TO', ⟨h1', _⟩, ⟨h2', _⟩⟩ := st'
    refine ⟨.ref T, _, I1, rfl, ⟨T, x, y, rfl, I.hok.fresh hT, rfl, fun l hl => by rw [Inv.src_inj I hl hqx]; exact hx, fun l hl => by rw [Inv.src_inj I hl hqy]; exact hy⟩, ⟨z', TI', TO', h1', h2'⟩, fun c hcm => ?_⟩
    have hlt : c < s.heap.objs.size := by
      have e' : c = z ∨ c = TI ∨ c = TO ∨ c = i1 ∨ c = i2 := by simpa using hcm
      rcases e' with q | q | q | q | q
      · rw [q]; exact Heap.lt_size hz
      · rw [q]; exact Heap.lt_size hTI
      · rw [q]; obtain ⟨_, _, hTO⟩ := hTO; exact Heap.lt_size hTO
      · rw [q]; obtain ⟨_, e1, _⟩ := h1.obj; exact Heap.lt_size e1
      · rw [q]; obtain ⟨_, e2, _⟩ := h2.obj; exact Heap.lt_size e2
    rw [upd_ne (Nat.ne_of_lt (Nat.lt_of_lt_of_le hlt hT))]
    exact (hf c hcm).1
  done := by
    intro X hP hw hK hc i pins s σ H E I hf st hg
    subst hP hw hK
    obtain ⟨hz, hTI, hTO, h1, h2⟩ := st
    obtain ⟨xs, ys, hqx, hqy, hend⟩ := hg
    obtain ⟨its, rv, p⟩ := Inv.src I hqx
    obtain ⟨its2, rv2, p2⟩ := Inv.src I hqy
    have hh : X.A.in1.handled = none := I.ok.hd hc
    have W := WalksT.zipD2 D.sep (drawsB b1 (prog := X.prog) (w := X.w) hh i1 a1 D.n1 its.toArray) (drawsB b2 (prog := X.prog) (w := X.w) hh i2 a2 D.n2 its2.toArray)
    have hi : i = min its.toArray.size its2.toArray.size := by rw [size_vals rv, size_vals rv2]; exact hend.symm
    subst hi
    refine W.done s _ _ ⟨hz, hTI, hTO, ⟨h1, p⟩, ⟨h2, p2⟩⟩ fun h' tk kk => ⟨rfl, I.turnedL (t' := tk) (ch := [z, TI, TO, i1, i2]) (fun c o hb q => kk c o (fun hm => hb (by
          have : c = z ∨ c = TO ∨ c = i1 ∨ c = i2 := by simpa using hm
          simp only [List.mem_cons]
          rcases this with e | e | e | e <;> simp [e])) q) hf⟩
  self := fun A i s Q E st h => wpAny_pyIter_zip st.1 h
theorem turn_enumB {P : Program} {w : World} {K : PySem.W.Frag} {elts : List Expr} {kk : Nat} {tpos : Pos} {b : Bool} {a e it : Addr} (n1 : e ≠ it) (n2 : a ≠ it) (n3 : e ≠ a) :
    Turn P w K (.Tuple elts kk tpos) (IteB b K a) [e, it] e (fun i h => (∃ old, IsEnum h e it ((i : Nat) : Int) old) ∧ ItB b h it a i) where
  mem := by simp
  obj := fun i h st c hc => by
    obtain ⟨⟨old, he⟩, hi⟩ := st
    have e' : c = e ∨ c = it := by simpa using hc
    rcases e' with z | z
    · rw [z]; exact ⟨_, he, fun v q => nomatch q⟩
    · rw [z]; exact hi.obj
  keep := fun i h h' st k => let ⟨⟨old, he⟩, hi⟩ := st; ⟨⟨old, k e (by simp) _ he⟩, hi.at fun o q => k it (by simp) o q⟩
  item := by
    intro X hP hw hK hc i pins s σ H E I hf st hg
    subst hP hw hK
    obtain ⟨he, hi⟩ := st
    obtain ⟨xs, x, hqx, hx⟩ := hg
    obtain ⟨its, rv, p⟩ := Inv.src I hqx
    obtain ⟨u, hu, ru⟩ := rv.get hx
    have hh : X.A.in1.handled = none := I.ok.hd hc
    have W := WalksT.enumFrom 0 (drawsB b (prog := X.prog) (w := X.w) hh it a n2 its.toArray) e n1 (by simp [n1, n3]) (by simp)
    have li : i < its.toArray.size := by
      rw [size_vals rv]
      exact (List.getElem?_eq_some_iff.mp hx).1
    refine W.item i s _ _ li ⟨by rw [Int.zero_add]; exact he, hi, p⟩ fun T vals h' tk hv hT hI hm kk => ?_
    obtain ⟨t, v1, q1, rfl⟩ := hv
    have q1' : its[i]? = some v1 := by simpa using q1
    rw [hu] at q1'; cases q1'
    have ap := W.apart i T h' hm
    refine ⟨_, rfl, W.go elts _ tpos i T { s with heap := h', toks := tk } _ _ hm fun h'' st' kk2 => ?_⟩
    obtain ⟨oT, eT, cT, nT, dT⟩ := hI
    have hT2 : h''.get? T = some oT := kk2 T oT ap eT
    have new : ObjOk X.prog X.w (upd H T (.tup [.int (i : Nat), x])) h'' T (.tup [.int (i : Nat), x]) :=
      ⟨by show 2 ≤ sizeLine; decide, [.int (0 + (i : Int)) t, u], .cons ⟨t, by rw [Int.zero_add]⟩ (.cons ru .nil), ⟨oT, hT2, cT, nT, dT⟩⟩
    have I1 : L2.Inv X pins σ (upd H T (.tup [.int (i : Nat), x])) { s with heap := h'', toks := tk } :=
      I.turnedNew (t' := tk) (ch := [e, it]) (fun c o hb q => kk2 c o hb (kk c o hb q)) hf hT new
    obtain ⟨he', hi', _⟩ := st'
    rw [Int.zero_add] at he'
    refine ⟨.ref T, _, I1, rfl, ⟨T, x, rfl, I.hok.fresh hT, rfl, fun l hl => by rw [Inv.src_inj I hl hqx]; exact hx⟩, ⟨he', hi'⟩, fun c hcm => ?_⟩
    have hlt : c < s.heap.objs.size := by
      have e' : c = e ∨ c = it := by simpa using hcm
      rcases e' with q | q
      · rw [q]; obtain ⟨_, he⟩ := he; exact Heap.lt_size he
      · rw [q]; obtain ⟨_, e1, _⟩ := hi.obj; exact Heap.lt_size e1
    rw [upd_ne (Nat.ne_of_lt (Nat.lt_of_lt_of_le hlt hT))]
    exact (hf c hcm).1
  done := by
    intro X hP hw hK hc i pins s σ H E I hf st hg
    subst hP hw hK
    obtain ⟨he, hi⟩ := st
    obtain ⟨xs, hqx, hend⟩ := hg
    obtain ⟨its, rv, p⟩ := Inv.src I hqx
    have hh : X.A.in1.handled = none := I.ok.hd hc
    have W := WalksT.enumFrom 0 (drawsB b (prog := X.prog) (w := X.w) hh it a n2 its.toArray) e n1 (by simp [n1, n3]) (by simp)
    have hie : i = its.toArray.size := by rw [size_vals rv]; exact hend.symm
    subst hie
    exact W.done s _ _ ⟨by rw [Int.zero_add]; exact he, hi, p⟩ fun h' tk kk => ⟨rfl, I.turnedL (t' := tk) (ch := [e, it]) (fun c o hb q => kk c o hb q) hf⟩
  self := fun A i s Q E st h => let ⟨⟨_, he⟩, _⟩ := st; wpAny_pyIter_enum he h
end Ev

/-! ## EvMt -/
/-! EvMt: a term of the evaluator matches a text of the model. -/
namespace Ev
open PySem PySem.Spec PyProof.Rows L2

/-- where one stands: the names by slots, the scope, the names that may be stored, the text's own defs, its constants -/
structure SC where
  N : List Str
  sc : Scope
  sto : List Str
  fns : List String
  csts : List (String × D)
  flds : List (String × String) := []
  mks : List (String × String) := []
  meths : List (String × String × String) := []
  xos : List String := []
  xcs : List String := []
  xpb : Bool := false
def visB (sc : Scope) (x : Str) : Bool := match sc.names.lookup x with
  | some .local => true
  | some .cell => true
  | some .free => true
  | _ => false
def glB (sc : Scope) (x : Str) : Bool := decide (sc.names.lookup x = some .globalImplicit) && decide ((x == ("__debug__" : Str)) = false) && decide (x ≠ "__name__")
/-- neither starred, nor a slice, nor a set -/
def plainB : Expr → Bool
  | .Starred _ _ => false
  | .Slice _ _ _ _ => false
  | .Set _ _ _ => false
  | _ => true
def biNames : List String := ["len", "abs", "isinstance", "sum", "sorted", "max", "any", "all"]
def tyBi : List String := ["tuple", "list", "dict", "int"]
def mtNames : List String := ["append", "extend", "pop", "get", "update", "index"]
def ownB (N : List Str) (own : List Nat) : List (Str × Nat) := own.filterMap fun i => (N[i]?).map fun x => (x, i)
/-- the names that a comprehension's block may store -/
def stoOf (scope : Scope) : List Str := (scope.names.filter fun y => y.2 == .local || y.2 == .cell).map (·.1)
def SC.blk (c : SC) (scope : Scope) : SC := { c with sc := relS scope c.sc, sto := stoOf scope }
mutual
def mtt : Tg → SC → Expr → Bool
  | .nm i, c, x => match x with
    | .Name n _ => decide (c.N[i]? = some n) && c.sto.contains n
    | _ => false
  | .tu ts, c, x => match x with
    | .Tuple es _ _ => mtts ts c es
    | _ => false
  | .nil, _, _ => false
  | .cons _ _, _, _ => false
def mtts : Tg → SC → List Expr → Bool
  | .nil, _, xs => match xs with
    | [] => true
    | _ => false
  | .cons a r, c, xs => match xs with
    | x :: xs => mtt a c x && mtts r c xs
    | _ => false
  | .nm _, _, _ => false
  | .tu _, _, _ => false
end
def tgSlots : Tg → List Nat
  | .nm i => [i]
  | .tu ts => tgSlots ts
  | .nil => []
  | .cons a r => tgSlots a ++ tgSlots r
def isTup : Expr → Bool
  | .Tuple _ _ _ => true
  | _ => false
mutual
def mt : Ex → SC → Expr → Bool
  | .var i, c, x => match x with
    | .Name n _ => decide (c.N[i]? = some n) && visB c.sc n && decide ((n == ("__debug__" : Str)) = false) && decide ((n == ("__classdict__" : Str)) = false)
    | _ => false
  | .int i, _, x => match x with
    | .Constant (.int j) _ _ => decide (i = j)
    | _ => false
  | .str s, _, x => match x with
    | .Constant (.str z) _ _ => decide (z = Str.ofString s)
    | _ => false
  | .bl b, _, x => match x with
    | .Constant (.bool d) _ _ => b == d
    | _ => false
  | .non, _, x => match x with
    | .Constant .none _ _ => true
    | _ => false
  | .gl s, c, x => match x with
    | .Name n _ => decide (n = Str.ofString s) && glB c.sc n && tyNames.contains s
    | _ => false
  | .cst s d, c, x => match x with
    | .Name n _ => decide (n = Str.ofString s) && glB c.sc n && decide ((s, d) ∈ c.csts)
    | _ => false
  | .tup es, c, x => match x with
    | .Tuple xs _ _ => mts es c xs
    | _ => false
  | .lst es, c, x => match x with
    | .List xs _ => mts es c xs
    | _ => false
  | .dct es, c, x => match x with
    | .Dict ks vs _ => mtd es c ks vs && decide (ks.length ≤ 15)
    | _ => false
  | .op o a b, c, x => match x with
    | .BinOp l p r _ => decide (p = bop o) && mt a c l && mt b c r
    | _ => false
  | .neg a, c, x => match x with
    | .UnaryOp p l _ => decide (p = .USub) && mt a c l
    | _ => false
  | .cmp o a b, c, x => match x with
    | .Compare l [p] [r] _ => decide (p = cop o) && mt a c l && mt b c r
    | _ => false
  | .chn o p a b d, c, x => match x with
    | .Compare l [o', p'] [r, z] _ => decide (o' = cop o) && decide (p' = cop p) && mt a c l && mt b c r && mt d c z
    | _ => false
  | .and a b, c, x => match x with
    | .BoolOp p (l :: r :: rest) pos => decide (p = .And) && mt a c l && (match rest with
      | [] => mt b c r
      | _ => mt b c (.BoolOp .And (r :: rest) pos))
    | _ => false
  | .or a b, c, x => match x with
    | .BoolOp p (l :: r :: rest) pos => decide (p = .Or) && mt a c l && (match rest with
      | [] => mt b c r
      | _ => mt b c (.BoolOp .Or (r :: rest) pos))
    | _ => false
  | .not a, c, x => match x with
    | .UnaryOp p l _ => decide (p = .Not) && mt a c l
    | _ => false
  | .ite k a b, c, x => match x with
    | .IfExp t l r _ => mt k c t && mt a c l && mt b c r
    | _ => false
  | .ix a i, c, x => match x with
    | .Subscript l r _ => mt a c l && mt i c r
    | _ => false
  | .sl a lo hi, c, x => match x with
    | .Subscript l (.Slice u v none _) _ => mt a c l && mto lo c u && mto hi c v
    | _ => false
  | .call f es, c, x => match x with
    | .Call (.Name n _) xs [] _ => decide (n = Str.ofString f) && decide (f ≠ "super") && glB c.sc n && c.fns.contains f && mts es c xs
    | _ => false
  | .bi f es, c, x => match x with
    | .Call (.Name n _) xs [] _ => decide (n = Str.ofString f) && decide (f ≠ "super") && glB c.sc n && (biNames.contains f || tyBi.contains f) && !xs.isEmpty && mts es c xs
    | _ => false
  | .mth m o es, c, x => match x with
    | .Call (.Attribute l n apos) xs [] cpos => decide (n = Str.ofString m) && (apos.endLine == cpos.line) && mtNames.contains m && decide (xs.length < 29) && mt o c l && mts es c xs
    | _ => false
  | .lc t it cd e own, c, x => match x with
    | .ListComp l gs scope _ => (match gs with
      | [⟨tg, iter, ifs, k⟩] => decide (k = 0) && blkC c.N c.sc scope (ownB c.N own) && decide ((ownB c.N own).map (·.2) = own) && (tgSlots t).all own.contains && mtw it c iter tg && mtt t (c.blk scope) tg && mtc cd (c.blk scope) ifs && mt e (c.blk scope) l
      | _ => false)
    | _ => false
  | .dc t it cd k v own, c, x => match x with
    | .DictComp kx vx gs scope _ => (match gs with
      | [⟨tg, iter, ifs, a⟩] => decide (a = 0) && blkC c.N c.sc scope (ownB c.N own) && decide ((ownB c.N own).map (·.2) = own) && (tgSlots t).all own.contains && mtw it c iter tg && mtt t (c.blk scope) tg && mtc cd (c.blk scope) ifs && mt k (c.blk scope) kx && mt v (c.blk scope) vx
      | _ => false)
    | _ => false
  | .fld a k f, c, x => match x with
    | .Attribute l n _ => decide (n = Str.ofString f) && c.flds.contains (k, f) && mt a c l
    | _ => false
  | .mk k f es, c, x => match x with
    | .Call (.Name n _) xs [] _ => decide (n = Str.ofString k) && decide (k ≠ "super") && glB c.sc n && c.mks.contains (k, f) && mts es c xs
    | _ => false
  | .mc k m f o es, c, x => match x with
    | .Call (.Attribute l n apos) xs [] cpos => decide (n = Str.ofString m) && (apos.endLine == cpos.line) && c.meths.contains (k, m, f) && decide (xs.length < 29) && mt o c l && mts es c xs
    | _ => false
  | .nil, _, _ => false
  | .cons _ _, _, _ => false
  | .wk _, _, _ => false
  | .enm _, _, _ => false
  | .zip _ _, _, _ => false
  | .rng _, _, _ => false
def mts : Ex → SC → List Expr → Bool
  | .nil, _, xs => match xs with
    | [] => true
    | _ => false
  | .cons a r, c, xs => match xs with
    | x :: xs => mt a c x && mts r c xs
    | _ => false
  | _, _, _ => false
def mtd : Ex → SC → List (Option Expr) → List Expr → Bool
  | .nil, _, ks, vs => match ks, vs with
    | [], [] => true
    | _, _ => false
  | .cons a (.cons b r), c, ks, vs => match ks, vs with
    | some k :: ks, v :: vs => mt a c k && mt b c v && mtd r c ks vs
    | _, _ => false
  | _, _, _, _ => false
def mto : Ex → SC → Option Expr → Bool
  | .nil, _, o => match o with
    | none => true
    | _ => false
  | .cons e r, c, o => match o with
    | some x => mt e c x
    | none => false
  | _, _, _ => false
def mtc : Ex → SC → List Expr → Bool
  | .nil, _, xs => match xs with
    | [] => true
    | _ => false
  | .cons e r, c, xs => match xs with
    | [x] => mt e c x
    | _ => false
  | _, _, _ => false
/-- what is walked, and the target -/
def mtw : Ex → SC → Expr → Expr → Bool
  | .wk e, c, x, _ => mt e c x
  | .enm e, c, x, t => isTup t && (match x with
    | .Call (.Name n _) [l] [] _ => decide (n = "enumerate") && glB c.sc n && mt e c l
    | _ => false)
  | .zip a b, c, x, t => isTup t && (match x with
    | .Call (.Name n _) [l, r] [] _ => decide (n = "zip") && glB c.sc n && mt a c l && mt b c r
    | _ => false)
  | .rng es, c, x, _ => match x with
    | .Call (.Name n _) xs [] _ => decide (n = "range") && glB c.sc n && (xs.length == 1 || xs.length == 2) && mts es c xs
    | _ => false
  | _, _, _, _ => false
end
end Ev

/-! ## EvSnd -/
/-! EvSnd: the evaluator's expressions keep to the model. -/
namespace Ev
open PySem PySem.Spec PyProof.Rows L2

abbrev Cl := String → List D → AH → Res D
/-- an exception as it stands: its class, its own dict -/
def XRep (G : Md) (φ : Ph) (H : Hp) (x : Xc) (cls : Value) (dd : Option Addr) : Prop :=
  ∃ C, G.mg (Str.ofString x.cls) = some (.ref C) ∧ cls = .ref C ∧ ((x.fs = [] ∧ dd = none) ∨
    ∃ d1 d2 v1 v2 a, x.cls = "TypeProblem" ∧ x.fs = [("code", d1), ("path", d2)] ∧ dd = some a ∧ H a = some (.xd (xdP v1 v2)) ∧ Rep G φ H d1 v1 ∧ Rep G φ H d2 v2)
/-- what is wanted behind an evaluation; W: of an exception -/
def okG (G : Md) {β : Type} (φ : Ph) (H : Hp) (W : Value → Option Addr → Hp → Prop) (P : β → AH → Ph → Hp → Prop) : Res β → Prop
  | .ok b A => ∀ φ' H', Ext φ H φ' H' → HR G φ' H' A → P b A φ' H'
  | .exc x A => ∀ φ' H' cls dd, Ext φ H φ' H' → HR G φ' H' A → XRep G φ' H' x cls dd → W cls dd H'
  | .no => False
section
variable {G : Md} {α β : Type} {φ φ1 : Ph} {H H1 : Hp} {W : Value → Option Addr → Hp → Prop}
theorem okG.ext {P : β → AH → Ph → Hp → Prop} {r : Res β} (h : okG G φ H W P r) (x : Ext φ H φ1 H1) : okG G φ1 H1 W P r := by
  cases r with
  | ok b A => exact fun φ' H' e hr => h φ' H' (x.trans e) hr
  | exc y A => exact fun φ' H' c d e hr xr => h φ' H' c d (x.trans e) hr xr
  | no => exact h
theorem okG.bnd {P : β → AH → Ph → Hp → Prop} {r : Res α} {f : α → AH → Res β} (h : okG G φ H W P (bnd r f)) : okG G φ H W (fun a A φ' H' => okG G φ' H' W P (f a A)) r := by
  cases r with
  | ok a A => exact fun φ' H' e _ => okG.ext (r := f a A) h e
  | exc y A => exact h
  | no => exact h
theorem okG.ofO {P : β → AH → Ph → Hp → Prop} {o : Option β} {A : AH} (h : okG G φ H W P (ofO o A)) : ∃ b, o = some b ∧ ∀ φ' H', Ext φ H φ' H' → HR G φ' H' A → P b A φ' H' := by
  cases o with
  | some b => exact ⟨b, rfl, h⟩
  | none => exact h.elim
theorem okG.imp {P P' : β → AH → Ph → Hp → Prop} {r : Res β} (h : okG G φ H W P r) (k : ∀ b A φ' H', Ext φ H φ' H' → HR G φ' H' A → P b A φ' H' → P' b A φ' H') : okG G φ H W P' r := by
  cases r with
  | ok b A => exact fun φ' H' e hr => k _ _ _ _ e hr (h φ' H' e hr)
  | exc y A => exact h
  | no => exact h
end
def pV (G : Md) (Q : VK) : D → AH → Ph → Hp → Prop := fun d _ φ H => ∀ v, Rep G φ H d v → Q v H
def pL (G : Md) (Q : List V → Hp → Prop) : List D → AH → Ph → Hp → Prop := fun ds _ φ H => ∀ vs, Reps G φ H ds vs → Q vs H
def pB (Q : Bool → Hp → Prop) : Bool → AH → Ph → Hp → Prop := fun b _ _ H => Q b H
def pO (Q : Option Int → Hp → Prop) : Option Int → AH → Ph → Hp → Prop := fun b _ _ H => Q b H
theorem okG.vc {G : Md} {φ : Ph} {H : Hp} {W : Value → Option Addr → Hp → Prop} {Q : VK} {d : D} {A : AH} (h : okG G φ H W (pV G Q) (.ok d A)) : VC G φ H Q d A := fun φ' H' v e hr r => h φ' H' e hr v r

/-- readings by the evaluator -/
def tG (G : Md) {β : Type} (W : WX) (f : Fr → AH → Res β) (σ : L2.St) (H : Hp) (P : β → AH → Ph → Hp → Prop) : Prop := ∃ φ F A, HR G φ H A ∧ FR G φ H F σ ∧ okG G φ H (fun c d H' => W c d σ H') P (f F A)
def tE (G : Md) (cl : Cl) (W : WX) (e : Ex) : TE := fun σ H Q => tG G W (ev cl e) σ H (pV G Q)
def tT (G : Md) (cl : Cl) (W : WX) (e : Ex) : TT := fun σ H Q => tG G W (fun F A => tru (ev cl e F A)) σ H (pB Q)
def tA (G : Md) (cl : Cl) (W : WX) (e : Ex) : TA := fun σ H Q => tG G W (evs cl e) σ H (pL G Q)
def tO (G : Md) (cl : Cl) (W : WX) (e : Ex) : TO := fun σ H Q => tG G W (evo cl e) σ H (pO Q)
def tCd (G : Md) (cl : Cl) (W : WX) (e : Ex) : TT := fun σ H Q => tG G W (evc cl e) σ H (pB Q)

/-- what a call keeps -/
def spEv (G : Md) (cl : Cl) (f : String) : Sp := fun vs H Q E => ∃ φ A ds, HR G φ H A ∧ Reps G φ H ds vs ∧ okG G φ H E (pV G Q) (cl f ds A)
structure FnIs (P : Program) (w : World) (K : PySem.W.Frag) (mg : Str → Option Value) (base : Heap) (A : Around) (cl : Cl) (f : String) : Prop where
  ex : ∃ (fa : Addr) (fd : FuncData) (ps : List Str) (k : Nat), mg (Str.ofString f) = some (.ref fa) ∧ PySem.W.keepIn K (.ref fa) = true ∧ Binds K fd ps [] ∧ FnOk P w K mg base (CX P w) k fa fd ps (spEv ⟨K, mg⟩ cl f) ∧ Room k A
/-- a class that is made; a method of an instance -/
structure MkIs (P : Program) (w : World) (K : PySem.W.Frag) (mg : Str → Option Value) (base : Heap) (A : Around) (cl : Cl) (c f : String) : Prop where
  ex : ∃ (C fa : Addr) (fd : FuncData) (ps : List Str) (k : Nat), mg (Str.ofString c) = some (.ref C) ∧ Mk K C fa ∧ Binds K fd ps [] ∧ FnOk P w K mg base (CX P w) k fa fd ps (spEv ⟨K, mg⟩ cl f) ∧ Room (k + 1) A
structure MeIs (P : Program) (w : World) (K : PySem.W.Frag) (mg : Str → Option Value) (base : Heap) (A : Around) (cl : Cl) (c m f : String) : Prop where
  ex : ∃ (C fa : Addr) (fd : FuncData) (ps : List Str) (k : Nat), mg (Str.ofString c) = some (.ref C) ∧ Cls K C ∧ Meth K C (Str.ofString m) fa ∧ Binds K fd ps [] ∧ FnOk P w K mg base (CX P w) k fa fd ps (spEv ⟨K, mg⟩ cl f) ∧ Room k A
/-- what the written part says of fields and exceptions -/
structure TabOk (P : Program) (K : PySem.W.Frag) (mg : Str → Option Value) (flds : List (String × String)) (xos xcs : List String) (xpb : Bool) : Prop where
  flds : ∀ p ∈ flds, ∃ C, mg (Str.ofString p.1) = some (.ref C) ∧ Cls K C ∧ NoAttr K C (Str.ofString p.2)
  xos : ∀ x ∈ xos, ∃ C, mg (Str.ofString x) = some (.ref C) ∧ PySem.W.excIn K C PySem.ProbX.veTail "ValueError.__new__" = true ∧ PySem.W.keepIn K (.ref C) = true ∧ PySem.W.subIn K (.ref C) (.type "BaseException") = some true ∧ PySem.W.typeIn K (.ref C) = some (.type "type")
  xcs : ∀ x ∈ xcs, ∀ y ∈ xcs, ∃ C D, mg (Str.ofString x) = some (.ref C) ∧ mg (Str.ofString y) = some (.ref D) ∧ PySem.W.exmOne K (.ref C) (.ref D) = some (decide (x = y))
  prob : xpb = true → ∃ C fI, PySem.ProbX.ProbTxt P K mg C fI
structure CtxOk (X : Cx) (c : SC) (cl : Cl) (W : WX) : Prop where
  N : X.N = c.N
  nd : c.N.Nodup
  sc : X.env.scope = c.sc
  calm : X.calm = true
  kd : X.env.scope.kind = .function
  hu : X.A.units + 65 < cLine
  tk : Takes X W
  ps : PassesOwn (model X.prog X.w) X.A X.env X.xe
  fb : FreeB X.mg
  bn : ∀ x ∈ biNames ++ tyBi ++ ["enumerate", "zip", "range"], X.mg (Str.ofString x) = none
  sto : ∀ x ∈ c.sto, Loc X.env.scope x ∧ (X.fn x = true ∨ X.env.scope.names.lookup x = some .local)
  calls : ∀ f ∈ c.fns, FnIs X.prog X.w X.K X.mg X.base X.A cl f
  csts : ∀ p ∈ c.csts, ∃ v u, X.mg (Str.ofString p.1) = some u ∧ RelV v u ∧ ∀ φ H, Rep (Gd X) φ H p.2 v
  mks : ∀ p ∈ c.mks, MkIs X.prog X.w X.K X.mg X.base X.A cl p.1 p.2
  meths : ∀ p ∈ c.meths, MeIs X.prog X.w X.K X.mg X.base X.A cl p.1 p.2.1 p.2.2
  tab : TabOk X.prog X.K X.mg c.flds c.xos c.xcs c.xpb
  rm : ∃ k, Room k X.A

section
variable {X : Cx} {c : SC} {cl : Cl} {W : WX} {G : Md}
theorem pe_imp {x : Expr} {t t' : TE} (h : PE X x t) (k : ∀ σ H Q, t' σ H Q → t σ H Q) : PE X x t' := ⟨fun pins s σ H Q I q => h.run pins s σ H Q I (k σ H Q q)⟩
theorem pt_imp {x : Expr} {t t' : TT} (h : PT X x t) (k : ∀ σ H Q, t' σ H Q → t σ H Q) : PT X x t' := ⟨fun pins s σ H Q I q => h.run pins s σ H Q I (k σ H Q q)⟩
theorem pw_imp {x : Expr} {t t' : TT} (h : PW X x t) (k : ∀ σ H Q, t' σ H Q → t σ H Q) : PW X x t' := ⟨fun wh pins s σ H Q I q => h.run wh pins s σ H Q I (k σ H Q q)⟩
theorem pa_imp {x : List Expr} {t t' : TA} (h : PA X x t) (k : ∀ σ H Q, t' σ H Q → t σ H Q) : PA X x t' := ⟨fun pos pins s σ H Q I q => h.run pos pins s σ H Q I (k σ H Q q)⟩
theorem tE_mono {e : Ex} {σ : L2.St} {H : Hp} {Q Q' : VK} (h : tE G cl W e σ H Q) (k : ∀ v H', Q v H' → Q' v H') : tE G cl W e σ H Q' := by
  obtain ⟨φ, F, A, hr, fr, ok⟩ := h
  exact ⟨φ, F, A, hr, fr, ok.imp fun b A φ' H' _ _ q v r => k _ _ (q v r)⟩
/-- one part, then the rest -/
theorem tE_go {β : Type} {e : Ex} {σ : L2.St} {H : Hp} {φ : Ph} {F : Fr} {A : AH} {P : β → AH → Ph → Hp → Prop} {f : D → AH → Res β} (hr : HR G φ H A) (fr : FR G φ H F σ)
    (ok : okG G φ H (fun c d H' => W c d σ H') P (bnd (ev cl e F A) f)) :
    tE G cl W e σ H (fun x H1 => ∃ φ1 A1 d, HR G φ1 H1 A1 ∧ FR G φ1 H1 F σ ∧ Rep G φ1 H1 d x ∧ okG G φ1 H1 (fun c d H' => W c d σ H') P (f d A1)) :=
  ⟨φ, F, A, hr, fr, ok.bnd.imp fun d A1 φ1 H1 e hr1 q v r => ⟨φ1, A1, d, hr1, fr.ext hr e, r, q⟩⟩
theorem tA_go {β : Type} {e : Ex} {σ : L2.St} {H : Hp} {φ : Ph} {F : Fr} {A : AH} {P : β → AH → Ph → Hp → Prop} {f : List D → AH → Res β} (hr : HR G φ H A) (fr : FR G φ H F σ)
    (ok : okG G φ H (fun c d H' => W c d σ H') P (bnd (evs cl e F A) f)) :
    tA G cl W e σ H (fun xs H1 => ∃ φ1 A1 ds, HR G φ1 H1 A1 ∧ FR G φ1 H1 F σ ∧ Reps G φ1 H1 ds xs ∧ okG G φ1 H1 (fun c d H' => W c d σ H') P (f ds A1)) :=
  ⟨φ, F, A, hr, fr, ok.bnd.imp fun d A1 φ1 H1 e hr1 q v r => ⟨φ1, A1, d, hr1, fr.ext hr e, r, q⟩⟩
/-- the reading of a form whose parts are evaluated in a row: the second part needs the first's value -/
theorem tE_go2 {β : Type} {e e2 : Ex} {σ : L2.St} {H : Hp} {φ : Ph} {F : Fr} {A : AH} {P : β → AH → Ph → Hp → Prop} {f : D → D → AH → Res β} (hr : HR G φ H A) (fr : FR G φ H F σ)
    (ok : okG G φ H (fun c d H' => W c d σ H') P (bnd (ev cl e F A) fun x A1 => bnd (ev cl e2 F A1) fun y A2 => f x y A2)) :
    tE G cl W e σ H (fun x H1 => tE G cl W e2 σ H1 (fun y H2 => ∃ φ2 A2 d d2, HR G φ2 H2 A2 ∧ FR G φ2 H2 F σ ∧ Rep G φ2 H2 d x ∧ Rep G φ2 H2 d2 y ∧ okG G φ2 H2 (fun c d H' => W c d σ H') P (f d d2 A2))) :=
  tE_mono (tE_go hr fr ok) fun x H1 ⟨φ1, A1, d, hr1, fr1, r1, ok1⟩ =>
    ⟨φ1, F, A1, hr1, fr1, ok1.bnd.imp fun d2 A2 φ2 H2 e hr2 q v r => ⟨φ2, A2, d, d2, hr2, fr1.ext hr1 e, r1.ext hr1 e, r, q⟩⟩

/-! ### plain texts -/
theorem mt_plain {e : Ex} {x : Expr} (h : mt e c x = true) : plainB x = true := by
  cases x <;> first | rfl | (exfalso; revert h; cases e <;> simp [mt])
theorem star_plain {x : Expr} {xs : List Expr} {env : Env} (h : plainB x = true) : starEach (x :: xs) env = (false, eval x env) :: starEach xs env := by
  cases x <;> first | rfl | (cases h; done)
theorem mts_plain : ∀ {e : Ex} {xs : List Expr}, mts e c xs = true → xs.all plainB = true
  | .nil, xs, h => by
    cases xs with
    | nil => rfl
    | cons => simp [mts] at h
  | .cons a r, xs, h => by
    cases xs with
    | nil => rfl
    | cons x xs =>
      have h : mt a c x = true ∧ mts r c xs = true := by simpa [mts] using h
      rw [List.all_cons, mt_plain h.1, mts_plain h.2]; rfl
  | .var _, _, h | .int _, _, h | .str _, _, h | .bl _, _, h | .non, _, h | .gl _, _, h | .cst _ _, _, h | .tup _, _, h | .lst _, _, h | .dct _, _, h | .op _ _ _, _, h | .neg _, _, h | .cmp _ _ _, _, h
  | .chn _ _ _ _ _, _, h | .and _ _, _, h | .or _ _, _, h | .not _, _, h | .ite _ _ _, _, h | .ix _ _, _, h | .sl _ _ _, _, h | .call _ _, _, h | .bi _ _, _, h | .mth _ _ _, _, h | .lc _ _ _ _ _, _, h
  | .dc _ _ _ _ _ _, _, h | .fld _ _ _, _, h | .mk _ _ _, _, h | .mc _ _ _ _ _, _, h | .wk _, _, h | .enm _, _, h | .zip _ _, _, h | .rng _, _, h => by simp [mts] at h
theorem star_all : ∀ {xs : List Expr} {env : Env}, xs.all plainB = true → starEach xs env = xs.map fun x => (false, eval x env)
  | [], _, _ => rfl
  | x :: xs, env, h => by
    simp only [List.all_cons, Bool.and_eq_true] at h
    rw [star_plain h.1, star_all h.2]; rfl
theorem back_none {xs : List Expr} {env : Env} {pos : Pos} (h : xs.all plainB = true) : (backTo pos (starEach xs env)).any (·.1) = false := by
  rw [star_all h]
  induction xs with
  | nil => rfl
  | cons x xs ih =>
    simp only [List.all_cons, Bool.and_eq_true] at h
    have := ih h.2
    simpa [backTo] using this
theorem sub_plain {x : Expr} (h : plainB x = true) (o i : Value) : subscripted x false o i = operate [o, i] (getItem o i) := by
  cases x <;> first | rfl | (cases h; done)
theorem mark_plain {x : Expr} {op : CmpOp} (h : plainB x = true) : behindInMarks op x = false := by
  cases x <;> first | rfl | (cases h; done)
theorem folded_plain {x : Expr} {env : Env} {v : Value} (h : plainB x = true) : foldedSetIterable x env v = pure v := by
  cases x <;> first | rfl | (cases h; done)
theorem attr_plain {e : Ex} {x : Expr} {env : Env} {m : Str} {whole : Sem Value} (h : mt e c x = true) : attributeBase x m env whole = whole := by
  cases x with
  | Call f as ks pos =>
    cases f with
    | Name id p =>
      cases as with
      | cons => rfl
      | nil =>
        cases ks with
        | cons => rfl
        | nil =>
          have hid : id ≠ "super" := by
            cases e <;> first | (simp [mt] at h; done) | skip
            · rename_i f es
              have h : (decide (id = Str.ofString f) && decide (f ≠ "super") && glB c.sc id && c.fns.contains f && mts es c []) = true := h
              simp only [Bool.and_eq_true, decide_eq_true_eq] at h
              intro q
              exact h.1.1.1.2 (ofString_inj (h.1.1.1.1.symm.trans q))
            · rename_i k f es
              have h : (decide (id = Str.ofString k) && decide (k ≠ "super") && glB c.sc id && c.mks.contains (k, f) && mts es c []) = true := h
              simp only [Bool.and_eq_true, decide_eq_true_eq] at h
              intro q
              exact h.1.1.1.2 (ofString_inj (h.1.1.1.1.symm.trans q))
          unfold attributeBase
          have : (id != ("super" : Str)) = true := bne_iff_ne.mpr hid
          simp only [this, Bool.true_or, if_true]
    | _ => rfl
  | _ => rfl
end
end Ev

/-! ## EvSnd2 -/
/-! EvSnd2: names, constants, displays, operators, tests. -/
namespace Ev
open PySem PySem.Spec PyProof.Rows L2

/-- what is walked: the reading gives the walk's iterator over the heap behind (a dict is locked) -/
structure WkIt (G : Md) (φ0 : Ph) (H0 : Hp) (w : Wk) (J : It) : Prop where
  step : ∀ (φ : Ph) (H : Hp) (A : AH) (i : Nat) (d : D), Ext φ0 H0 φ H → HR G φ H A → gOk A w.g = true → w.items[i]? = some d → J.go i H ∧ ∀ x H', J.yld i H x H' → Ext φ H φ H' ∧ HR G φ H' A ∧ Rep G φ H' d x
  stop : ∀ (φ : Ph) (H : Hp) (A : AH), Ext φ0 H0 φ H → HR G φ H A → gOk A w.g = true → J.stop w.items.length H
/-- the lock: the dict's place, unlocked at the end -/
def LockOk (X : Cx) (φ : Ph) (H : Hp) (l : Option Nat) : Prop := match l with
  | none => True
  | some n => ∃ a o ks, φ[n]? = some a ∧ H a = some (.frz o (.dK ks)) ∧ (∀ o' u', X.H_0 a ≠ some (.frz o' u')) ∧ ∀ (φ0 : Ph) (H0 : Hp), True
def iW (X : Cx) (cl : Cl) (W : WX) (e : Ex) : TI := fun σ H R => tG (Gd X) W (evw cl e) σ H (fun w A φ1 H1 =>
  ∀ H2 J, (w.lock = none → H2 = H1) → (∀ n, w.lock = some n → ∃ a o ks, φ1[n]? = some a ∧ H1 a = some (.dK ks) ∧ H2 = upd H1 a (.frz o (.dK ks)) ∧ ∀ o' u', X.H_0 a ≠ some (.frz o' u')) →
    HR (Gd X) φ1 H2 (lockA A w.lock) → WkIt (Gd X) φ1 H2 w J → R J H2)
structure SE (cl : Cl) (e : Ex) : Prop where
  pe : ∀ {X : Cx} {c : SC} {W : WX} {x : Expr}, CtxOk X c cl W → mt e c x = true → PE X x (tE (Gd X) cl W e)
  pt : ∀ {X : Cx} {c : SC} {W : WX} {x : Expr}, CtxOk X c cl W → mt e c x = true → PT X x (tT (Gd X) cl W e)
  pw : ∀ {X : Cx} {c : SC} {W : WX} {op : BoolOp} {xs : List Expr} {pos : Pos}, CtxOk X c cl W → mt e c (.BoolOp op xs pos) = true → PW X (.BoolOp op xs pos) (tT (Gd X) cl W e)
  pa : ∀ {X : Cx} {c : SC} {W : WX} {xs : List Expr}, CtxOk X c cl W → mts e c xs = true → PA X xs (tA (Gd X) cl W e)
  pd : ∀ {X : Cx} {c : SC} {W : WX} {ks : List (Option Expr)} {vs : List Expr} {pos : Pos}, CtxOk X c cl W → mtd e c ks vs = true → ∃ trs, PPs X pos ks vs trs ∧ ks.all (·.isSome) = true ∧ ks.length = vs.length ∧
    ∀ (σ : L2.St) (H : Hp) (Q : List (V × V) → Hp → Prop), tG (Gd X) W (evs cl e) σ H (fun ds A φ H' => ∃ kvs, pairUp ds = some kvs ∧ ∀ ps, KReps (Gd X) φ H' kvs ps → Q (ps.map fun kv => (kV kv.1, kv.2)) H') → tPairs trs σ H Q
  po : ∀ {X : Cx} {c : SC} {W : WX} {o : Option Expr}, CtxOk X c cl W → mto e c o = true → PO X o (tO (Gd X) cl W e)
  pc : ∀ {X : Cx} {c : SC} {W : WX} {xs : List Expr}, CtxOk X c cl W → mtc e c xs = true → PTs X xs (tCd (Gd X) cl W e)
  pi : ∀ {X : Cx} {c : SC} {W : WX} {x tg : Expr}, CtxOk X c cl W → mtw e c x tg = true → PI X tg x (iW X cl W e)
/-- a form that is an expression alone -/
structure Alone (e : Ex) : Prop where
  a : ∀ c xs, mts e c xs = false
  d : ∀ c ks vs, mtd e c ks vs = false
  o : ∀ c x, mto e c x = false
  t : ∀ c xs, mtc e c xs = false
  w : ∀ c x t, mtw e c x t = false
theorem SE.of {cl : Cl} {e : Ex} (al : Alone e)
    (pe : ∀ {X : Cx} {c : SC} {W : WX} {x : Expr}, CtxOk X c cl W → mt e c x = true → PE X x (tE (Gd X) cl W e))
    (pt : ∀ {X : Cx} {c : SC} {W : WX} {x : Expr}, CtxOk X c cl W → mt e c x = true → PT X x (tT (Gd X) cl W e))
    (pw : ∀ {X : Cx} {c : SC} {W : WX} {op : BoolOp} {xs : List Expr} {pos : Pos}, CtxOk X c cl W → mt e c (.BoolOp op xs pos) = true → PW X (.BoolOp op xs pos) (tT (Gd X) cl W e)) : SE cl e where
  pe := pe
  pt := pt
  pw := pw
  pa := fun _ h => by rw [al.a] at h; cases h
  pd := fun _ h => by rw [al.d] at h; cases h
  po := fun _ h => by rw [al.o] at h; cases h
  pc := fun _ h => by rw [al.t] at h; cases h
  pi := fun _ h => by rw [al.w] at h; cases h

section
variable {X : Cx} {c : SC} {cl : Cl} {W : WX}
/-- an expression's test is its value's truth -/
theorem pt_of {e : Ex} {x : Expr} (h : PE X x (tE (Gd X) cl W e)) (hx : ∀ whole, isTrue x X.env whole = (do let v ← whole; standAt x.pos; holding [v] (truthy v))) : PT X x (tT (Gd X) cl W e) := by
  refine pt_imp (pt_truth h hx) fun σ H Q q => ?_
  obtain ⟨φ, F, A, hr, fr, ok⟩ := q
  refine tE_mono (tE_go hr fr ok) fun v H1 ⟨φ1, A1, d, hr1, fr1, r1, ok1⟩ => ?_
  obtain ⟨b, hb, q⟩ := ok1.ofO
  exact ⟨b, tru_of hr1 r1 hb, q φ1 H1 .refl hr1⟩
theorem gen_Name {n : Str} {p : Pos} {env : Env} (whole : Sem Value) : isTrue (.Name n p) env whole = (do let v ← whole; standAt (Expr.pos (.Name n p)); holding [v] (truthy v)) := rfl
/-- by one part -/
theorem fin_ok {G : Md} {φ : Ph} {H : Hp} {A : AH} {d : D} {v : V} {Wc : Value → Option Addr → Hp → Prop} {Q : VK} (ok : okG G φ H Wc (pV G Q) (.ok d A)) (hr : HR G φ H A) (r : Rep G φ H d v) : Q v H := ok φ H .refl hr v r
end

section
variable {cl : Cl}
theorem se_var (i : Nat) : SE cl (.var i) := by
  have pe : ∀ {X : Cx} {c : SC} {W : WX} {x : Expr}, CtxOk X c cl W → mt (.var i) c x = true → PE X x (tE (Gd X) cl W (.var i)) := fun {X c W x} ok h => by
    cases x with
    | Name n p =>
      have h : (decide (c.N[i]? = some n) && visB c.sc n && decide ((n == ("__debug__" : Str)) = false) && decide ((n == ("__classdict__" : Str)) = false)) = true := h
      simp only [Bool.and_eq_true, decide_eq_true_eq] at h
      obtain ⟨⟨⟨h1, h2⟩, h3⟩, h4⟩ := h
      refine pe_imp (pe_var (i := i) (by rw [ok.N]; exact h1) (by
        show Vis X.env.scope n
        rw [ok.sc]
        unfold visB at h2
        unfold Vis
        split at h2 <;> first | (cases h2; done) | simp [*]) h3 h4) fun σ H Q q => ?_
      obtain ⟨φ, F, A, hr, fr, o⟩ := q
      unfold ev at o
      split at o
      · rename_i d hd
        obtain ⟨v, e1, r1⟩ := fr.2 i d hd
        exact ⟨v, e1, fin_ok o hr r1⟩
      · exact o.elim
    | _ => simp [mt] at h
  refine SE.of ⟨fun c xs => by simp [mts], fun c ks vs => by simp [mtd], fun c x => by simp [mto], fun c x => by simp [mtc], fun c x t => by simp [mtw]⟩ pe (fun {X c W x} ok h => pt_of (pe ok h) ?_) (fun ok h => by simp [mt] at h)
  cases x <;> first | (exact fun _ => rfl) | (simp [mt] at h; done)
theorem se_int (i : Int) : SE cl (.int i) := by
  have pe : ∀ {X : Cx} {c : SC} {W : WX} {x : Expr}, CtxOk X c cl W → mt (.int i) c x = true → PE X x (tE (Gd X) cl W (.int i)) := fun {X c W x} ok h => by
    cases x with
    | Constant k j p =>
      cases k with
      | int j =>
        have h : i = j := by simpa [mt] using h
        subst h
        exact pe_imp pe_int fun σ H Q ⟨φ, F, A, hr, fr, o⟩ => fin_ok o hr rfl
      | _ => simp [mt] at h
    | _ => simp [mt] at h
  refine SE.of ⟨fun c xs => by simp [mts], fun c ks vs => by simp [mtd], fun c x => by simp [mto], fun c x => by simp [mtc], fun c x t => by simp [mtw]⟩ pe (fun {X c W x} ok h => pt_of (pe ok h) ?_) (fun ok h => by simp [mt] at h)
  cases x <;> first | (exact fun _ => rfl) | (simp [mt] at h; done)
theorem se_str (z : String) : SE cl (.str z) := by
  have pe : ∀ {X : Cx} {c : SC} {W : WX} {x : Expr}, CtxOk X c cl W → mt (.str z) c x = true → PE X x (tE (Gd X) cl W (.str z)) := fun {X c W x} ok h => by
    cases x with
    | Constant k j p =>
      cases k with
      | str j =>
        have h : j = Str.ofString z := by simpa [mt] using h
        subst h
        exact pe_imp pe_str fun σ H Q ⟨φ, F, A, hr, fr, o⟩ => fin_ok o hr rfl
      | _ => simp [mt] at h
    | _ => simp [mt] at h
  refine SE.of ⟨fun c xs => by simp [mts], fun c ks vs => by simp [mtd], fun c x => by simp [mto], fun c x => by simp [mtc], fun c x t => by simp [mtw]⟩ pe (fun {X c W x} ok h => pt_of (pe ok h) ?_) (fun ok h => by simp [mt] at h)
  cases x <;> first | (exact fun _ => rfl) | (simp [mt] at h; done)
theorem se_bl (b : Bool) : SE cl (.bl b) := by
  have pe : ∀ {X : Cx} {c : SC} {W : WX} {x : Expr}, CtxOk X c cl W → mt (.bl b) c x = true → PE X x (tE (Gd X) cl W (.bl b)) := fun {X c W x} ok h => by
    cases x with
    | Constant k j p =>
      cases k with
      | bool j =>
        have h : b = j := by simpa [mt] using h
        subst h
        exact pe_imp pe_bl fun σ H Q ⟨φ, F, A, hr, fr, o⟩ => fin_ok o hr rfl
      | _ => simp [mt] at h
    | _ => simp [mt] at h
  refine SE.of ⟨fun c xs => by simp [mts], fun c ks vs => by simp [mtd], fun c x => by simp [mto], fun c x => by simp [mtc], fun c x t => by simp [mtw]⟩ pe (fun {X c W x} ok h => pt_of (pe ok h) ?_) (fun ok h => by simp [mt] at h)
  cases x <;> first | (exact fun _ => rfl) | (simp [mt] at h; done)
theorem se_non : SE cl .non := by
  have pe : ∀ {X : Cx} {c : SC} {W : WX} {x : Expr}, CtxOk X c cl W → mt .non c x = true → PE X x (tE (Gd X) cl W .non) := fun {X c W x} ok h => by
    cases x with
    | Constant k j p =>
      cases k with
      | none => exact pe_imp pe_non fun σ H Q ⟨φ, F, A, hr, fr, o⟩ => fin_ok o hr rfl
      | _ => simp [mt] at h
    | _ => simp [mt] at h
  refine SE.of ⟨fun c xs => by simp [mts], fun c ks vs => by simp [mtd], fun c x => by simp [mto], fun c x => by simp [mtc], fun c x t => by simp [mtw]⟩ pe (fun {X c W x} ok h => pt_of (pe ok h) ?_) (fun ok h => by simp [mt] at h)
  cases x <;> first | (exact fun _ => rfl) | (simp [mt] at h; done)
theorem se_gl (z : String) : SE cl (.gl z) := by
  have pe : ∀ {X : Cx} {c : SC} {W : WX} {x : Expr}, CtxOk X c cl W → mt (.gl z) c x = true → PE X x (tE (Gd X) cl W (.gl z)) := fun {X c W x} ok h => by
    cases x with
    | Name n p =>
      have h : (decide (n = Str.ofString z) && glB c.sc n && tyNames.contains z) = true := h
      simp only [Bool.and_eq_true, decide_eq_true_eq, glB] at h
      obtain ⟨⟨rfl, ⟨h1, h2⟩, h3⟩, h4⟩ := h
      have h4 : z ∈ tyNames := by simpa using h4
      have hg : Gl X (Str.ofString z) := by
        show X.env.scope.names.lookup _ = _
        rw [ok.sc]; exact h1
      have hm := ok.fb z h4
      exact pe_imp (pe_bltn (v := .ty z) hg hm (boot_ty z h4) rfl h3 h2) fun σ H Q ⟨φ, F, A, hr, fr, o⟩ => fin_ok o hr ⟨.type z, rfl, .inr ⟨hm, boot_ty z h4⟩⟩
    | _ => simp [mt] at h
  refine SE.of ⟨fun c xs => by simp [mts], fun c ks vs => by simp [mtd], fun c x => by simp [mto], fun c x => by simp [mtc], fun c x t => by simp [mtw]⟩ pe (fun {X c W x} ok h => pt_of (pe ok h) ?_) (fun ok h => by simp [mt] at h)
  cases x <;> first | (exact fun _ => rfl) | (simp [mt] at h; done)
theorem se_cst (z : String) (d : D) : SE cl (.cst z d) := by
  have pe : ∀ {X : Cx} {c : SC} {W : WX} {x : Expr}, CtxOk X c cl W → mt (.cst z d) c x = true → PE X x (tE (Gd X) cl W (.cst z d)) := fun {X c W x} ok h => by
    cases x with
    | Name n p =>
      have h : (decide (n = Str.ofString z) && glB c.sc n && decide ((z, d) ∈ c.csts)) = true := h
      simp only [Bool.and_eq_true, decide_eq_true_eq, glB] at h
      obtain ⟨⟨rfl, ⟨h1, h2⟩, h3⟩, h4⟩ := h
      have hg : Gl X (Str.ofString z) := by
        show X.env.scope.names.lookup _ = _
        rw [ok.sc]; exact h1
      obtain ⟨v, u, hm, r, hrep⟩ := ok.csts (z, d) h4
      exact pe_imp (pe_glob hg hm r h2) fun σ H Q ⟨φ, F, A, hr, fr, o⟩ => fin_ok o hr (hrep φ H)
    | _ => simp [mt] at h
  refine SE.of ⟨fun c xs => by simp [mts], fun c ks vs => by simp [mtd], fun c x => by simp [mto], fun c x => by simp [mtc], fun c x t => by simp [mtw]⟩ pe (fun {X c W x} ok h => pt_of (pe ok h) ?_) (fun ok h => by simp [mt] at h)
  cases x <;> first | (exact fun _ => rfl) | (simp [mt] at h; done)
theorem se_tup {es : Ex} (ih : SE cl es) : SE cl (.tup es) := by
  have pe : ∀ {X : Cx} {c : SC} {W : WX} {x : Expr}, CtxOk X c cl W → mt (.tup es) c x = true → PE X x (tE (Gd X) cl W (.tup es)) := fun {X c W x} ok h => by
    cases x with
    | Tuple xs k p =>
      have h : mts es c xs = true := h
      refine pe_imp (pe_tup (ih.pa ok h)) fun σ H Q ⟨φ, F, A, hr, fr, o⟩ => ?_
      obtain ⟨φ', F', A', hr', fr', o'⟩ := tA_go (β := D) (cl := cl) (e := es) (f := fun ds A' => if ds.length ≤ sizeLine then .ok (.tup ds) A' else .no) hr fr o
      refine ⟨φ', F', A', hr', fr', o'.imp fun ds A1 φ1 H1 _ _ q vs rv => ?_⟩
      obtain ⟨φ2, A2, ds2, hr2, fr2, r2, o2⟩ := q vs rv
      split at o2
      · rename_i hl
        exact ⟨by rw [r2.length]; exact hl, fun p hp => o2.vc.tup hr2 hp r2⟩
      · exact o2.elim
    | _ => simp [mt] at h
  refine SE.of ⟨fun c xs => by simp [mts], fun c ks vs => by simp [mtd], fun c x => by simp [mto], fun c x => by simp [mtc], fun c x t => by simp [mtw]⟩ pe (fun {X c W x} ok h => pt_of (pe ok h) ?_) (fun ok h => by simp [mt] at h)
  cases x <;> first | (exact fun _ => rfl) | (simp [mt] at h; done)
theorem se_lst {es : Ex} (ih : SE cl es) : SE cl (.lst es) := by
  have pe : ∀ {X : Cx} {c : SC} {W : WX} {x : Expr}, CtxOk X c cl W → mt (.lst es) c x = true → PE X x (tE (Gd X) cl W (.lst es)) := fun {X c W x} ok h => by
    cases x with
    | List xs p =>
      have h : mts es c xs = true := h
      refine pe_imp (pe_lst (ih.pa ok h)) fun σ H Q ⟨φ, F, A, hr, fr, o⟩ => ?_
      obtain ⟨φ', F', A', hr', fr', o'⟩ := tA_go (β := D) (cl := cl) (e := es) (f := fun ds A' => if ds.length ≤ sizeLine then .ok (.ref A'.length) (A' ++ [.lst ds]) else .no) hr fr o
      refine ⟨φ', F', A', hr', fr', o'.imp fun ds A1 φ1 H1 _ _ q vs rv => ?_⟩
      obtain ⟨φ2, A2, ds2, hr2, fr2, r2, o2⟩ := q vs rv
      split at o2
      · rename_i hl
        exact ⟨by rw [r2.length]; exact hl, fun p hp => o2.vc.new hr2 hp ⟨_, rfl, r2⟩⟩
      · exact o2.elim
    | _ => simp [mt] at h
  refine SE.of ⟨fun c xs => by simp [mts], fun c ks vs => by simp [mtd], fun c x => by simp [mto], fun c x => by simp [mtc], fun c x t => by simp [mtw]⟩ pe (fun {X c W x} ok h => pt_of (pe ok h) ?_) (fun ok h => by simp [mt] at h)
  cases x <;> first | (exact fun _ => rfl) | (simp [mt] at h; done)
theorem se_op (o : BOp) {a b : Ex} (iha : SE cl a) (ihb : SE cl b) : SE cl (.op o a b) := by
  have pe : ∀ {X : Cx} {c : SC} {W : WX} {x : Expr}, CtxOk X c cl W → mt (.op o a b) c x = true → PE X x (tE (Gd X) cl W (.op o a b)) := fun {X c W x} ok h => by
    cases x with
    | BinOp l p r pos =>
      have h : (decide (p = bop o) && mt a c l && mt b c r) = true := h
      simp only [Bool.and_eq_true, decide_eq_true_eq] at h
      obtain ⟨⟨rfl, h1⟩, h2⟩ := h
      refine pe_imp (pe_op (opB_ok o) (iha.pe ok h1) (ihb.pe ok h2)) fun σ H Q ⟨φ, F, A, hr, fr, q⟩ => ?_
      refine tE_mono (tE_go2 (β := D) (cl := cl) (e := a) (e2 := b) (f := fun x y A2 => opB A2 o x y) hr fr q) fun x H1 t1 => tE_mono t1 fun y H2 ⟨φ2, A2, d, d2, hr2, fr2, r1, r2, q2⟩ => ?_
      cases e : opB A2 o d d2 with
      | ok r A3 => rw [e] at q2; exact ⟨φ2, A2, d, d2, r, A3, hr2, r1, r2, e, q2.vc⟩
      | exc y A3 => exfalso; revert e; unfold opB; repeat' split
                    all_goals (intro e; cases e)
      | no => rw [e] at q2; exact q2.elim
    | _ => simp [mt] at h
  refine SE.of ⟨fun c xs => by simp [mts], fun c ks vs => by simp [mtd], fun c x => by simp [mto], fun c x => by simp [mtc], fun c x t => by simp [mtw]⟩ pe (fun {X c W x} ok h => pt_of (pe ok h) ?_) (fun ok h => by simp [mt] at h)
  cases x <;> first | (exact fun _ => rfl) | (simp [mt] at h; done)
theorem se_neg {a : Ex} (iha : SE cl a) : SE cl (.neg a) := by
  have pe : ∀ {X : Cx} {c : SC} {W : WX} {x : Expr}, CtxOk X c cl W → mt (.neg a) c x = true → PE X x (tE (Gd X) cl W (.neg a)) := fun {X c W x} ok h => by
    cases x with
    | UnaryOp p l pos =>
      have h : (decide (p = .USub) && mt a c l) = true := h
      simp only [Bool.and_eq_true, decide_eq_true_eq] at h
      obtain ⟨rfl, h1⟩ := h
      refine pe_imp (pe_un un_neg (iha.pe ok h1)) fun σ H Q ⟨φ, F, A, hr, fr, q⟩ => ?_
      refine tE_mono (tE_go (β := D) (cl := cl) (e := a) (f := fun x A1 => match x with | .int i => .ok (.int (-i)) A1 | _ => .no) hr fr q) fun x H1 ⟨φ1, A1, d, hr1, fr1, r1, q1⟩ => ?_
      cases d with
      | int i => cases r1; exact ⟨i, rfl, fin_ok q1 hr1 rfl⟩
      | _ => exact q1.elim
    | _ => simp [mt] at h
  refine SE.of ⟨fun c xs => by simp [mts], fun c ks vs => by simp [mtd], fun c x => by simp [mto], fun c x => by simp [mtc], fun c x t => by simp [mtw]⟩ pe (fun {X c W x} ok h => pt_of (pe ok h) ?_) (fun ok h => by simp [mt] at h)
  cases x with
  | UnaryOp p l pos =>
    have h : (decide (p = .USub) && mt a c l) = true := h
    simp only [Bool.and_eq_true, decide_eq_true_eq] at h
    obtain ⟨rfl, h1⟩ := h
    exact fun _ => rfl
  | _ => simp [mt] at h
theorem cmp_read {X : Cx} {W : WX} {o : COp} {a b : Ex} {σ : L2.St} {H : Hp} {Q : VK} (q : tE (Gd X) cl W (.cmp o a b) σ H Q) : tOp (rC (Gd X) o) (tE (Gd X) cl W a) (tE (Gd X) cl W b) σ H Q := by
  obtain ⟨φ, F, A, hr, fr, q⟩ := q
  refine tE_mono (tE_go2 (β := D) (cl := cl) (e := a) (e2 := b) (f := fun x y A2 => ofO ((opC A2 o x y).map .bl) A2) hr fr q) fun x H1 t1 => tE_mono t1 fun y H2 ⟨φ2, A2, d, d2, hr2, fr2, r1, r2, q2⟩ => ?_
  obtain ⟨v, hv, q3⟩ := q2.ofO
  obtain ⟨k, hk, rfl⟩ := Option.map_eq_some_iff.mp hv
  exact ⟨φ2, A2, d, d2, k, hr2, r1, r2, hk, q3 φ2 H2 .refl hr2 _ rfl⟩
/-- a test's reading, from the value's -/
theorem tT_val {G : Md} {W : WX} {e : Ex} {σ : L2.St} {H : Hp} {Q : Bool → Hp → Prop} (q : tT G cl W e σ H Q) (hb : ∀ F A d A', ev cl e F A = .ok d A' → ∃ b, d = .bl b) : tE G cl W e σ H (fun v H' => ∃ b, v = .bl b ∧ Q b H') := by
  obtain ⟨φ, F, A, hr, fr, q⟩ := q
  refine ⟨φ, F, A, hr, fr, ?_⟩
  have q : okG G φ H (fun c d H' => W c d σ H') (pB Q) (bnd (ev cl e F A) fun d A => ofO (truth A d) A) := q
  cases he : ev cl e F A with
  | ok d A' =>
    obtain ⟨b, rfl⟩ := hb F A d A' he
    rw [he] at q
    exact fun φ' H' e' hr' v r => ⟨b, r, q φ' H' e' hr'⟩
  | exc x A' => rw [he] at q; exact q
  | no => rw [he] at q; exact q.elim
theorem cmp_bl {o : COp} {a b : Ex} {F : Fr} {A A' : AH} {d : D} (h : ev cl (.cmp o a b) F A = .ok d A') : ∃ k, d = .bl k := by
  unfold ev at h
  cases e1 : ev cl a F A with
  | ok x A1 =>
    rw [e1] at h
    simp only [bnd] at h
    cases e2 : ev cl b F A1 with
    | ok y A2 =>
      rw [e2] at h
      simp only [bnd] at h
      cases e3 : opC A2 o x y with
      | some k => rw [e3] at h; cases h; exact ⟨k, rfl⟩
      | none => rw [e3] at h; cases h
    | exc => rw [e2] at h; cases h
    | no => rw [e2] at h; cases h
  | exc => rw [e1] at h; cases h
  | no => rw [e1] at h; cases h
theorem se_cmp (o : COp) {a b : Ex} (iha : SE cl a) (ihb : SE cl b) : SE cl (.cmp o a b) := by
  refine SE.of ⟨fun c xs => by simp [mts], fun c ks vs => by simp [mtd], fun c x => by simp [mto], fun c x => by simp [mtc], fun c x t => by simp [mtw]⟩ ?_ ?_ (fun ok h => by simp [mt] at h)
  · intro X c W x ok h
    cases x with
    | Compare l ps rs pos =>
      rcases ps with _ | ⟨p, _ | _⟩ <;> rcases rs with _ | ⟨r, _ | _⟩ <;> first | (simp [mt] at h; done) | skip
      have h : (decide (p = cop o) && mt a c l && mt b c r) = true := h
      simp only [Bool.and_eq_true, decide_eq_true_eq] at h
      obtain ⟨⟨rfl, h1⟩, h2⟩ := h
      exact pe_imp (pe_cmpR (opC_ok ok.hu o) (iha.pe ok h1) (ihb.pe ok h2) (mark_plain (mt_plain h2))) fun σ H Q q => cmp_read q
    | _ => simp [mt] at h
  · intro X c W x ok h
    cases x with
    | Compare l ps rs pos =>
      rcases ps with _ | ⟨p, _ | _⟩ <;> rcases rs with _ | ⟨r, _ | _⟩ <;> first | (simp [mt] at h; done) | skip
      have h : (decide (p = cop o) && mt a c l && mt b c r) = true := h
      simp only [Bool.and_eq_true, decide_eq_true_eq] at h
      obtain ⟨⟨rfl, h1⟩, h2⟩ := h
      exact pt_imp (pt_cmpR (opC_ok ok.hu o) (iha.pe ok h1) (ihb.pe ok h2) (mark_plain (mt_plain h2))) fun σ H Q q => cmp_read (tT_val q fun F A d A' h => cmp_bl h)
    | _ => simp [mt] at h
end
end Ev

/-! ## EvSnd3 -/
/-! EvSnd3: tests, choices, subscripts, calls. -/
namespace Ev
open PySem PySem.Spec PyProof.Rows L2

section
variable {cl : Cl}
theorem tru_and {a b : Ex} {F : Fr} {A : AH} : tru (ev cl (.and a b) F A) = bnd (tru (ev cl a F A)) fun r A1 => if r then tru (ev cl b F A1) else .ok false A1 := by
  show tru (bnd (ev cl a F A) fun x A1 => bnd (ofO (truth A1 x) A1) fun r A2 => if r then ev cl b F A2 else .ok x A2) = _
  unfold tru
  cases ev cl a F A with
  | ok x A1 =>
    simp only [bnd]
    cases h : truth A1 x with
    | none => rfl
    | some r => cases r with
      | true => rfl
      | false => simp only [ofO, Bool.false_eq_true, if_false]; rw [h]
  | exc y A1 => rfl
  | no => rfl
theorem tru_or {a b : Ex} {F : Fr} {A : AH} : tru (ev cl (.or a b) F A) = bnd (tru (ev cl a F A)) fun r A1 => if r then .ok true A1 else tru (ev cl b F A1) := by
  show tru (bnd (ev cl a F A) fun x A1 => bnd (ofO (truth A1 x) A1) fun r A2 => if r then .ok x A2 else ev cl b F A2) = _
  unfold tru
  cases ev cl a F A with
  | ok x A1 =>
    simp only [bnd]
    cases h : truth A1 x with
    | none => rfl
    | some r => cases r with
      | true => simp only [ofO, if_true]; rw [h]
      | false => rfl
  | exc y A1 => rfl
  | no => rfl
theorem tru_not {a : Ex} {F : Fr} {A : AH} : tru (ev cl (.not a) F A) = bnd (tru (ev cl a F A)) fun r A1 => .ok (!r) A1 := by
  show tru (bnd (ev cl a F A) fun x A1 => ofO ((truth A1 x).map fun b => .bl (!b)) A1) = _
  unfold tru
  cases ev cl a F A with
  | ok x A1 =>
    simp only [bnd]
    cases h : truth A1 x with
    | none => rfl
    | some r => rfl
  | exc y A1 => rfl
  | no => rfl
theorem tru_ite {k a b : Ex} {F : Fr} {A : AH} : tru (ev cl (.ite k a b) F A) = bnd (tru (ev cl k F A)) fun r A1 => if r then tru (ev cl a F A1) else tru (ev cl b F A1) := by
  show tru (bnd (ev cl k F A) fun x A1 => bnd (ofO (truth A1 x) A1) fun r A2 => if r then ev cl a F A2 else ev cl b F A2) = _
  unfold tru
  cases ev cl k F A with
  | ok x A1 =>
    simp only [bnd]
    cases h : truth A1 x with
    | none => rfl
    | some r => cases r <;> rfl
  | exc y A1 => rfl
  | no => rfl
theorem ev_ite {k a b : Ex} {F : Fr} {A : AH} : ev cl (.ite k a b) F A = bnd (tru (ev cl k F A)) fun r A1 => if r then ev cl a F A1 else ev cl b F A1 := by
  show (bnd (ev cl k F A) fun x A1 => bnd (ofO (truth A1 x) A1) fun r A2 => if r then ev cl a F A2 else ev cl b F A2) = _
  unfold tru
  cases ev cl k F A with
  | ok x A1 =>
    simp only [bnd]
  | exc y A1 => rfl
  | no => rfl
theorem tT_go {G : Md} {W : WX} {β : Type} {e : Ex} {σ : L2.St} {H : Hp} {φ : Ph} {F : Fr} {A : AH} {P : β → AH → Ph → Hp → Prop} {f : Bool → AH → Res β} (hr : HR G φ H A) (fr : FR G φ H F σ)
    (ok : okG G φ H (fun c d H' => W c d σ H') P (bnd (tru (ev cl e F A)) f)) :
    tT G cl W e σ H (fun b H1 => ∃ φ1 A1, HR G φ1 H1 A1 ∧ FR G φ1 H1 F σ ∧ okG G φ1 H1 (fun c d H' => W c d σ H') P (f b A1)) :=
  ⟨φ, F, A, hr, fr, ok.bnd.imp fun d A1 φ1 H1 e hr1 q => ⟨φ1, A1, hr1, fr.ext hr e, q⟩⟩
theorem tT_mono {G : Md} {W : WX} {e : Ex} {σ : L2.St} {H : Hp} {Q Q' : Bool → Hp → Prop} (h : tT G cl W e σ H Q) (k : ∀ v H', Q v H' → Q' v H') : tT G cl W e σ H Q' := by
  obtain ⟨φ, F, A, hr, fr, ok⟩ := h
  exact ⟨φ, F, A, hr, fr, ok.imp fun b A φ' H' _ _ q => k _ _ q⟩
theorem and_read {G : Md} {W : WX} {a b : Ex} {σ : L2.St} {H : Hp} {Q : Bool → Hp → Prop} (q : tT G cl W (.and a b) σ H Q) : tAnd (tT G cl W a) (tT G cl W b) σ H Q := by
  obtain ⟨φ, F, A, hr, fr, q⟩ := q
  simp only [tru_and] at q
  refine tT_mono (tT_go hr fr q) fun k H1 ⟨φ1, A1, hr1, fr1, q1⟩ => ?_
  cases k with
  | true => exact ⟨φ1, F, A1, hr1, fr1, q1⟩
  | false => exact q1 φ1 H1 .refl hr1
theorem or_read {G : Md} {W : WX} {a b : Ex} {σ : L2.St} {H : Hp} {Q : Bool → Hp → Prop} (q : tT G cl W (.or a b) σ H Q) : tOr (tT G cl W a) (tT G cl W b) σ H Q := by
  obtain ⟨φ, F, A, hr, fr, q⟩ := q
  simp only [tru_or] at q
  refine tT_mono (tT_go hr fr q) fun k H1 ⟨φ1, A1, hr1, fr1, q1⟩ => ?_
  cases k with
  | true => exact q1 φ1 H1 .refl hr1
  | false => exact ⟨φ1, F, A1, hr1, fr1, q1⟩
theorem tT_of_tE {X : Cx} {W : WX} {e : Ex} {σ : L2.St} {H : Hp} {Q : V → Hp → Prop} {f : D → AH → Bool → Res D} {F : Fr} {A : AH} {φ : Ph} (hr : HR (Gd X) φ H A) (fr : FR (Gd X) φ H F σ)
    (ok : okG (Gd X) φ H (fun c d H' => W c d σ H') (pV (Gd X) Q) (bnd (ev cl e F A) fun x A1 => bnd (ofO (truth A1 x) A1) fun r A2 => f x A2 r)) :
    tE (Gd X) cl W e σ H (fun v H1 => ∃ k, TruV X.K v H1 k ∧ ∃ φ1 A1 d, HR (Gd X) φ1 H1 A1 ∧ FR (Gd X) φ1 H1 F σ ∧ Rep (Gd X) φ1 H1 d v ∧ okG (Gd X) φ1 H1 (fun c d H' => W c d σ H') (pV (Gd X) Q) (f d A1 k)) :=
  tE_mono (tE_go (f := fun x A1 => bnd (ofO (truth A1 x) A1) fun r A2 => f x A2 r) hr fr ok) fun v H1 ⟨φ1, A1, d, hr1, fr1, r1, ok1⟩ => by
    obtain ⟨k, hk, q⟩ := ok1.bnd.ofO
    exact ⟨k, tru_of hr1 r1 hk, φ1, A1, d, hr1, fr1, r1, q φ1 H1 .refl hr1⟩
theorem se_and {a b : Ex} (iha : SE cl a) (ihb : SE cl b) : SE cl (.and a b) := by
  have pw : ∀ {X : Cx} {c : SC} {W : WX} {op : BoolOp} {xs : List Expr} {pos : Pos}, CtxOk X c cl W → mt (.and a b) c (.BoolOp op xs pos) = true → PW X (.BoolOp op xs pos) (tT (Gd X) cl W (.and a b)) := fun {X c W op xs pos} ok h => by
    rcases xs with _ | ⟨l, _ | ⟨r, rest⟩⟩ <;> first | (simp [mt] at h; done) | skip
    have h : (decide (op = .And) && mt a c l && (match (generalizing := false) rest with | [] => mt b c r | _ => mt b c (.BoolOp .And (r :: rest) pos))) = true := h
    simp only [Bool.and_eq_true, decide_eq_true_eq] at h
    obtain ⟨⟨rfl, h1⟩, h2⟩ := h
    refine pw_imp (pw_and (tB' := tT (Gd X) cl W b) (iha.pt ok h1) ?_) fun σ H Q q => and_read q
    cases rest with
    | nil => exact pw_and1 (ihb.pt ok h2)
    | cons => exact ihb.pw ok h2
  refine SE.of ⟨fun c xs => by simp [mts], fun c ks vs => by simp [mtd], fun c x => by simp [mto], fun c x => by simp [mtc], fun c x t => by simp [mtw]⟩ ?_ ?_ pw
  · intro X c W x ok h
    cases x with
    | BoolOp op xs pos =>
      rcases xs with _ | ⟨l, _ | ⟨r, rest⟩⟩ <;> first | (simp [mt] at h; done) | skip
      have h : (decide (op = .And) && mt a c l && (match (generalizing := false) rest with | [] => mt b c r | _ => mt b c (.BoolOp .And (r :: rest) pos))) = true := h
      simp only [Bool.and_eq_true, decide_eq_true_eq] at h
      obtain ⟨⟨rfl, h1⟩, h2⟩ := h
      refine pe_imp (pe_andT (tb := tE (Gd X) cl W b) (iha.pe ok h1) ?_) fun σ H Q ⟨φ, F, A, hr, fr, q⟩ => ?_
      · cases rest with
        | nil => exact pe_one (ihb.pe ok h2)
        | cons => exact ihb.pe ok h2
      · refine tE_mono (tT_of_tE (f := fun x A2 r => if r then ev cl b F A2 else .ok x A2) hr fr q) fun v H1 ⟨k, hk, φ1, A1, d, hr1, fr1, r1, q1⟩ => ⟨k, hk, ?_⟩
        cases k with
        | true => exact ⟨φ1, F, A1, hr1, fr1, q1⟩
        | false => exact fin_ok q1 hr1 r1
    | _ => simp [mt] at h
  · intro X c W x ok h
    cases x with
    | BoolOp op xs pos => exact (pw ok h).pt
    | _ => simp [mt] at h
theorem se_or {a b : Ex} (iha : SE cl a) (ihb : SE cl b) : SE cl (.or a b) := by
  have pw : ∀ {X : Cx} {c : SC} {W : WX} {op : BoolOp} {xs : List Expr} {pos : Pos}, CtxOk X c cl W → mt (.or a b) c (.BoolOp op xs pos) = true → PW X (.BoolOp op xs pos) (tT (Gd X) cl W (.or a b)) := fun {X c W op xs pos} ok h => by
    rcases xs with _ | ⟨l, _ | ⟨r, rest⟩⟩ <;> first | (simp [mt] at h; done) | skip
    have h : (decide (op = .Or) && mt a c l && (match (generalizing := false) rest with | [] => mt b c r | _ => mt b c (.BoolOp .Or (r :: rest) pos))) = true := h
    simp only [Bool.and_eq_true, decide_eq_true_eq] at h
    obtain ⟨⟨rfl, h1⟩, h2⟩ := h
    refine pw_imp (pw_or (tB' := tT (Gd X) cl W b) (iha.pt ok h1) ?_) fun σ H Q q => or_read q
    cases rest with
    | nil => exact pw_or1 (ihb.pt ok h2)
    | cons => exact ihb.pw ok h2
  refine SE.of ⟨fun c xs => by simp [mts], fun c ks vs => by simp [mtd], fun c x => by simp [mto], fun c x => by simp [mtc], fun c x t => by simp [mtw]⟩ ?_ ?_ pw
  · intro X c W x ok h
    cases x with
    | BoolOp op xs pos =>
      rcases xs with _ | ⟨l, _ | ⟨r, rest⟩⟩ <;> first | (simp [mt] at h; done) | skip
      have h : (decide (op = .Or) && mt a c l && (match (generalizing := false) rest with | [] => mt b c r | _ => mt b c (.BoolOp .Or (r :: rest) pos))) = true := h
      simp only [Bool.and_eq_true, decide_eq_true_eq] at h
      obtain ⟨⟨rfl, h1⟩, h2⟩ := h
      refine pe_imp (pe_orT (tb := tE (Gd X) cl W b) (iha.pe ok h1) ?_) fun σ H Q ⟨φ, F, A, hr, fr, q⟩ => ?_
      · cases rest with
        | nil => exact pe_one (ihb.pe ok h2)
        | cons => exact ihb.pe ok h2
      · refine tE_mono (tT_of_tE (f := fun x A2 r => if r then .ok x A2 else ev cl b F A2) hr fr q) fun v H1 ⟨k, hk, φ1, A1, d, hr1, fr1, r1, q1⟩ => ⟨k, hk, ?_⟩
        cases k with
        | true => exact fin_ok q1 hr1 r1
        | false => exact ⟨φ1, F, A1, hr1, fr1, q1⟩
    | _ => simp [mt] at h
  · intro X c W x ok h
    cases x with
    | BoolOp op xs pos => exact (pw ok h).pt
    | _ => simp [mt] at h
theorem se_not {a : Ex} (iha : SE cl a) : SE cl (.not a) := by
  refine SE.of ⟨fun c xs => by simp [mts], fun c ks vs => by simp [mtd], fun c x => by simp [mto], fun c x => by simp [mtc], fun c x t => by simp [mtw]⟩ ?_ ?_ (fun ok h => by simp [mt] at h)
  · intro X c W x ok h
    cases x with
    | UnaryOp p l pos =>
      have h : (decide (p = .Not) && mt a c l) = true := h
      simp only [Bool.and_eq_true, decide_eq_true_eq] at h
      obtain ⟨rfl, h1⟩ := h
      refine pe_imp (pe_notT (iha.pe ok h1)) fun σ H Q ⟨φ, F, A, hr, fr, q⟩ => ?_
      refine tE_mono (tE_go (β := D) (cl := cl) (e := a) (f := fun x A1 => ofO ((truth A1 x).map fun b => .bl (!b)) A1) hr fr q) fun v H1 ⟨φ1, A1, d, hr1, fr1, r1, q1⟩ => ?_
      obtain ⟨b, hb, q2⟩ := q1.ofO
      obtain ⟨k, hk, rfl⟩ := Option.map_eq_some_iff.mp hb
      exact ⟨k, tru_of hr1 r1 hk, q2 φ1 H1 .refl hr1 _ rfl⟩
    | _ => simp [mt] at h
  · intro X c W x ok h
    cases x with
    | UnaryOp p l pos =>
      have h : (decide (p = .Not) && mt a c l) = true := h
      simp only [Bool.and_eq_true, decide_eq_true_eq] at h
      obtain ⟨rfl, h1⟩ := h
      refine pt_imp (pt_not (iha.pt ok h1)) fun σ H Q ⟨φ, F, A, hr, fr, q⟩ => ?_
      simp only [tru_not] at q
      exact tT_mono (tT_go hr fr q) fun k H1 ⟨φ1, A1, hr1, fr1, q1⟩ => q1 φ1 H1 .refl hr1
    | _ => simp [mt] at h
theorem pt_ifExp' {X : Cx} {t l r : Expr} {pos : Pos} {tk ta tb : TT} (hc : PT X t tk) (ha : PT X l ta) (hb : PT X r tb) : PT X (.IfExp t l r pos) (fun σ H Q => tk σ H fun c H1 => if c = true then ta σ H1 Q else tb σ H1 Q) := by
  refine ⟨fun pins s σ H Q I h => ?_⟩
  refine isTrue_IfExp (thn (hc.run pins s σ H _ I h) fun d s1 ⟨H1, I1, q1⟩ => ?_)
  cases d with
  | true => exact ha.run pins s1 σ H1 Q I1 q1
  | false => exact hb.run pins s1 σ H1 Q I1 q1
theorem se_ite {k a b : Ex} (ihk : SE cl k) (iha : SE cl a) (ihb : SE cl b) : SE cl (.ite k a b) := by
  refine SE.of ⟨fun c xs => by simp [mts], fun c ks vs => by simp [mtd], fun c x => by simp [mto], fun c x => by simp [mtc], fun c x t => by simp [mtw]⟩ ?_ ?_ (fun ok h => by simp [mt] at h)
  · intro X c W x ok h
    cases x with
    | IfExp t l r pos =>
      have h : (mt k c t && mt a c l && mt b c r) = true := h
      simp only [Bool.and_eq_true] at h
      obtain ⟨⟨h0, h1⟩, h2⟩ := h
      refine pe_imp (pe_ifExp (ihk.pt ok h0) (iha.pe ok h1) (ihb.pe ok h2)) fun σ H Q ⟨φ, F, A, hr, fr, q⟩ => ?_
      rw [ev_ite] at q
      refine tT_mono (tT_go hr fr q) fun k H1 ⟨φ1, A1, hr1, fr1, q1⟩ => ?_
      cases k with
      | true => exact ⟨φ1, F, A1, hr1, fr1, q1⟩
      | false => exact ⟨φ1, F, A1, hr1, fr1, q1⟩
    | _ => simp [mt] at h
  · intro X c W x ok h
    cases x with
    | IfExp t l r pos =>
      have h : (mt k c t && mt a c l && mt b c r) = true := h
      simp only [Bool.and_eq_true] at h
      obtain ⟨⟨h0, h1⟩, h2⟩ := h
      refine pt_imp (pt_ifExp' (ihk.pt ok h0) (iha.pt ok h1) (ihb.pt ok h2)) fun σ H Q ⟨φ, F, A, hr, fr, q⟩ => ?_
      simp only [tru_ite] at q
      refine tT_mono (tT_go hr fr q) fun k H1 ⟨φ1, A1, hr1, fr1, q1⟩ => ?_
      cases k with
      | true => exact ⟨φ1, F, A1, hr1, fr1, q1⟩
      | false => exact ⟨φ1, F, A1, hr1, fr1, q1⟩
    | _ => simp [mt] at h
theorem chain_plain {o p : CmpOp} {b d : Expr} (h : plainB d = true) : lastMarks [o, p] [b, d] = false := by
  cases d <;> first | rfl | (cases h; done)
theorem chn_read {X : Cx} {W : WX} {o p : COp} {a b d : Ex} {σ : L2.St} {H : Hp} {Q : VK} (q : tE (Gd X) cl W (.chn o p a b d) σ H Q) : tChain (rC (Gd X) o) (rC (Gd X) p) (tE (Gd X) cl W a) (tE (Gd X) cl W b) (tE (Gd X) cl W d) σ H Q := by
  obtain ⟨φ, F, A, hr, fr, q⟩ := q
  refine tE_mono (tE_go2 (β := D) (cl := cl) (e := a) (e2 := b) (f := fun x y A2 => bnd (ofO (opC A2 o x y) A2) fun r A3 => if r then bnd (ev cl d F A3) fun z A4 => ofO ((opC A4 p y z).map .bl) A4 else .ok (.bl false) A3) hr fr q)
    fun x H1 t1 => tE_mono t1 fun y H2 ⟨φ2, A2, d1, d2, hr2, fr2, r1, r2, q2⟩ => ?_
  obtain ⟨k, hk, q3⟩ := q2.bnd.ofO
  have q3 := q3 φ2 H2 .refl hr2
  refine ⟨φ2, A2, d1, d2, k, hr2, r1, r2, hk, k, rfl, ?_⟩
  cases k with
  | false => exact fin_ok q3 hr2 rfl
  | true =>
    refine ⟨φ2, F, A2, hr2, fr2, q3.bnd.imp fun d3 A3 φ3 H3 e3 hr3 q4 z rz => ?_⟩
    obtain ⟨v, hv, q5⟩ := q4.ofO
    obtain ⟨k2, hk2, rfl⟩ := Option.map_eq_some_iff.mp hv
    exact ⟨φ3, A3, d2, d3, k2, hr3, r2.ext hr2 e3, rz, hk2, q5 φ3 H3 .refl hr3 _ rfl⟩
theorem chn_bl {o p : COp} {a b d : Ex} {F : Fr} {A A' : AH} {z : D} (h : ev cl (.chn o p a b d) F A = .ok z A') : ∃ k, z = .bl k := by
  unfold ev at h
  cases e1 : ev cl a F A with
  | ok x A1 =>
    rw [e1] at h
    simp only [bnd] at h
    cases e2 : ev cl b F A1 with
    | ok y A2 =>
      rw [e2] at h
      simp only [bnd] at h
      cases e3 : opC A2 o x y with
      | some k =>
        rw [e3] at h
        simp only [ofO] at h
        cases k with
        | false => cases h; exact ⟨false, rfl⟩
        | true =>
          simp only [if_true] at h
          cases e4 : ev cl d F A2 with
          | ok w A3 =>
            rw [e4] at h
            simp only [bnd] at h
            cases e5 : opC A3 p y w with
            | some k => rw [e5] at h; cases h; exact ⟨k, rfl⟩
            | none => rw [e5] at h; cases h
          | exc => rw [e4] at h; cases h
          | no => rw [e4] at h; cases h
      | none => rw [e3] at h; cases h
    | exc => rw [e2] at h; cases h
    | no => rw [e2] at h; cases h
  | exc => rw [e1] at h; cases h
  | no => rw [e1] at h; cases h
theorem se_chn (o p : COp) {a b d : Ex} (iha : SE cl a) (ihb : SE cl b) (ihd : SE cl d) : SE cl (.chn o p a b d) := by
  refine SE.of ⟨fun c xs => by simp [mts], fun c ks vs => by simp [mtd], fun c x => by simp [mto], fun c x => by simp [mtc], fun c x t => by simp [mtw]⟩ ?_ ?_ (fun ok h => by simp [mt] at h)
  · intro X c W x ok h
    cases x with
    | Compare l ps rs pos =>
      rcases ps with _ | ⟨p1, _ | ⟨p2, _ | _⟩⟩ <;> rcases rs with _ | ⟨r, _ | ⟨z, _ | _⟩⟩ <;> first | (simp [mt] at h; done) | skip
      have h : (decide (p1 = cop o) && decide (p2 = cop p) && mt a c l && mt b c r && mt d c z) = true := h
      simp only [Bool.and_eq_true, decide_eq_true_eq] at h
      obtain ⟨⟨⟨⟨rfl, rfl⟩, h1⟩, h2⟩, h3⟩ := h
      exact pe_imp (pe_chain (opC_ok ok.hu o) (opC_ok ok.hu p) (iha.pe ok h1) (ihb.pe ok h2) (ihd.pe ok h3) (chain_plain (mt_plain h3))) fun σ H Q q => chn_read q
    | _ => simp [mt] at h
  · intro X c W x ok h
    cases x with
    | Compare l ps rs pos =>
      rcases ps with _ | ⟨p1, _ | ⟨p2, _ | _⟩⟩ <;> rcases rs with _ | ⟨r, _ | ⟨z, _ | _⟩⟩ <;> first | (simp [mt] at h; done) | skip
      have h : (decide (p1 = cop o) && decide (p2 = cop p) && mt a c l && mt b c r && mt d c z) = true := h
      simp only [Bool.and_eq_true, decide_eq_true_eq] at h
      obtain ⟨⟨⟨⟨rfl, rfl⟩, h1⟩, h2⟩, h3⟩ := h
      exact pt_imp (pt_chain (opC_ok ok.hu o) (opC_ok ok.hu p) (iha.pe ok h1) (ihb.pe ok h2) (ihd.pe ok h3) (chain_plain (mt_plain h3))) fun σ H Q q => chn_read (tT_val q fun F A d A' h => chn_bl h)
    | _ => simp [mt] at h
theorem se_ix {a i : Ex} (iha : SE cl a) (ihi : SE cl i) : SE cl (.ix a i) := by
  have pe : ∀ {X : Cx} {c : SC} {W : WX} {x : Expr}, CtxOk X c cl W → mt (.ix a i) c x = true → PE X x (tE (Gd X) cl W (.ix a i)) := fun {X c W x} ok h => by
    cases x with
    | Subscript l r pos =>
      have h : (mt a c l && mt i c r) = true := h
      simp only [Bool.and_eq_true] at h
      refine pe_imp (pe_ix (ix_ok ok.hu) (iha.pe ok h.1) (ihi.pe ok h.2) (sub_plain (mt_plain h.2))) fun σ H Q ⟨φ, F, A, hr, fr, q⟩ => ?_
      refine tE_mono (tE_go2 (β := D) (cl := cl) (e := a) (e2 := i) (f := fun x y A2 => ofO (opI A2 x y) A2) hr fr q) fun x H1 t1 => tE_mono t1 fun y H2 ⟨φ2, A2, d, d2, hr2, fr2, r1, r2, q2⟩ => ?_
      obtain ⟨v, hv, q3⟩ := q2.ofO
      exact ⟨φ2, A2, d, d2, v, hr2, r1, r2, hv, fun φ' H' w e hr' rw' => q3 φ' H' e hr' w rw'⟩
    | _ => simp [mt] at h
  refine SE.of ⟨fun c xs => by simp [mts], fun c ks vs => by simp [mtd], fun c x => by simp [mto], fun c x => by simp [mtc], fun c x t => by simp [mtw]⟩ pe (fun {X c W x} ok h => pt_of (pe ok h) ?_) (fun ok h => by simp [mt] at h)
  cases x <;> first | (exact fun _ => rfl) | (simp [mt] at h; done)
theorem opS_exc {A A' : AH} {d : D} {l u : Option Int} {y : Xc} (h : opS A d l u = .exc y A') : False := by
  unfold opS at h
  repeat' split at h
  all_goals cases h
theorem se_sl {a lo hi : Ex} (iha : SE cl a) (ihl : SE cl lo) (ihh : SE cl hi) : SE cl (.sl a lo hi) := by
  have pe : ∀ {X : Cx} {c : SC} {W : WX} {x : Expr}, CtxOk X c cl W → mt (.sl a lo hi) c x = true → PE X x (tE (Gd X) cl W (.sl a lo hi)) := fun {X c W x} ok h => by
    cases x with
    | Subscript l r pos =>
      cases r with
      | Slice u v st p2 =>
        cases st with
        | some _ => simp [mt] at h
        | none =>
          have h : (mt a c l && mto lo c u && mto hi c v) = true := h
          simp only [Bool.and_eq_true] at h
          obtain ⟨⟨h1, h2⟩, h3⟩ := h
          refine pe_imp (pe_slice sl_ok (iha.pe ok h1) (ihl.po ok h2) (ihh.po ok h3)) fun σ H Q ⟨φ, F, A, hr, fr, q⟩ => ?_
          refine tE_mono (tE_go (β := D) (cl := cl) (e := a) (f := fun x A1 => bnd (evo cl lo F A1) fun l A2 => bnd (evo cl hi F A2) fun h A3 => opS A3 x l h) hr fr q) fun x H1 ⟨φ1, A1, d, hr1, fr1, r1, q1⟩ => ?_
          refine ⟨φ1, F, A1, hr1, fr1, q1.bnd.imp fun ol A2 φ2 H2 e2 hr2 q2 => ?_⟩
          refine ⟨φ2, F, A2, hr2, fr1.ext hr1 e2, q2.bnd.imp fun oh A3 φ3 H3 e3 hr3 q3 => ?_⟩
          cases e : opS A3 d ol oh with
          | ok r A4 => rw [e] at q3; exact ⟨φ3, A3, d, r, A4, hr3, (r1.ext hr1 e2).ext hr2 e3, e, q3.vc⟩
          | exc y A4 => exact (opS_exc e).elim
          | no => rw [e] at q3; exact q3.elim
      | _ => simp [mt] at h
    | _ => simp [mt] at h
  refine SE.of ⟨fun c xs => by simp [mts], fun c ks vs => by simp [mtd], fun c x => by simp [mto], fun c x => by simp [mtc], fun c x t => by simp [mtw]⟩ pe (fun {X c W x} ok h => pt_of (pe ok h) ?_) (fun ok h => by simp [mt] at h)
  cases x <;> first | (exact fun _ => rfl) | (simp [mt] at h; done)
end
end Ev

/-! ## EvSnd4 -/
/-! EvSnd4: calls, rows, displays of dicts. -/
namespace Ev
open PySem PySem.Spec PyProof.Rows L2

theorem okG.keep {G : Md} {α β : Type} {φ φ1 : Ph} {H H1 : Hp} {W : Value → Option Addr → Hp → Prop} {P : β → AH → Ph → Hp → Prop} {r : Res α} {f : α → AH → Res β} (h : okG G φ H W P (Ev.bnd r f)) (x : Ext φ H φ1 H1) :
    okG G φ1 H1 W (fun a A _ _ => okG G φ H W P (f a A)) r := by
  cases r with
  | ok a A => exact fun φ' H' e _ => h
  | exc y A => exact okG.ext (r := (.exc y A : Res β)) h x
  | no => exact h
/-! ### rows -/
section
variable {cl : Cl}
theorem se_nil : SE cl .nil where
  pe := fun _ h => by simp [mt] at h
  pt := fun _ h => by simp [mt] at h
  pw := fun _ h => by simp [mt] at h
  pa := fun {X c W xs} ok h => by
    cases xs with
    | nil => exact pa_imp pa_nil fun σ H Q ⟨φ, F, A, hr, fr, q⟩ => q φ H .refl hr [] rfl
    | cons => simp [mts] at h
  pd := fun {X c W ks vs pos} ok h => by
    cases ks with
    | cons => simp [mtd] at h
    | nil =>
      cases vs with
      | cons => simp [mtd] at h
      | nil =>
        refine ⟨[], pps_nil, rfl, rfl, fun σ H Q ⟨φ, F, A, hr, fr, q⟩ => ?_⟩
        obtain ⟨kvs, e, k⟩ := q φ H .refl hr
        cases e
        exact k [] rfl
  po := fun {X c W o} ok h => by
    cases o with
    | some => simp [mto] at h
    | none => exact ⟨fun pins s σ H Q I ⟨φ, F, A, hr, fr, q⟩ => po_none.run pins s σ H Q I (q φ H .refl hr)⟩
  pc := fun {X c W xs} ok h => by
    cases xs with
    | cons => simp [mtc] at h
    | nil => exact ⟨fun pins s σ H Q I ⟨φ, F, A, hr, fr, q⟩ => pts_nil.run pins s σ H Q I (q φ H .refl hr)⟩
  pi := fun _ h => by simp [mtw] at h
theorem pa_of {a r : Ex} (iha : SE cl a) (ihr : SE cl r) {X : Cx} {c : SC} {W : WX} {xs : List Expr} (ok : CtxOk X c cl W) (h : mts (.cons a r) c xs = true) : PA X xs (tA (Gd X) cl W (.cons a r)) := by
  cases xs with
  | nil => simp [mts] at h
  | cons x xs =>
    have h : (mt a c x && mts r c xs) = true := h
    simp only [Bool.and_eq_true] at h
    refine pa_imp (pa_cons (iha.pe ok h.1) (ihr.pa ok h.2) (star_plain (mt_plain h.1))) fun σ H Q ⟨φ, F, A, hr, fr, q⟩ => ?_
    refine tE_mono (tE_go (β := List D) (cl := cl) (e := a) (f := fun x A1 => bnd (evs cl r F A1) fun xs A2 => .ok (x :: xs) A2) hr fr q) fun x H1 ⟨φ1, A1, d, hr1, fr1, r1, q1⟩ => ?_
    exact ⟨φ1, F, A1, hr1, fr1, q1.bnd.imp fun ds A2 φ2 H2 e2 hr2 q2 vs rv => q2 φ2 H2 .refl hr2 _ (.cons (r1.ext hr1 e2) rv)⟩
theorem po_of {a : Ex} (iha : SE cl a) {X : Cx} {c : SC} {W : WX} {r : Ex} {o : Option Expr} (ok : CtxOk X c cl W) (h : mto (.cons a r) c o = true) : PO X o (tO (Gd X) cl W (.cons a r)) := by
  cases o with
  | none => simp [mto] at h
  | some x =>
    have h : mt a c x = true := h
    refine ⟨fun pins s σ H Q I ⟨φ, F, A, hr, fr, q⟩ => (po_some (iha.pe ok h)).run pins s σ H Q I ?_⟩
    refine tE_mono (tE_go (β := Option Int) (cl := cl) (e := a) (f := fun x A1 => match x with | .int i => .ok (some i) A1 | _ => .no) hr fr q) fun x H1 ⟨φ1, A1, d, hr1, fr1, r1, q1⟩ => ?_
    cases d with
    | int i => cases r1; exact ⟨i, rfl, q1 φ1 H1 .refl hr1⟩
    | _ => exact q1.elim
theorem pc_of {a : Ex} (iha : SE cl a) {X : Cx} {c : SC} {W : WX} {r : Ex} {xs : List Expr} (ok : CtxOk X c cl W) (h : mtc (.cons a r) c xs = true) : PTs X xs (tCd (Gd X) cl W (.cons a r)) := by
  rcases xs with _ | ⟨x, _ | _⟩ <;> first | (simp [mtc] at h; done) | skip
  have h : mt a c x = true := h
  exact ⟨fun pins s σ H Q I q => (pts_one (iha.pt ok h)).run pins s σ H Q I q⟩
theorem pairUp_key {k v : D} {r : List D} {kvs : List (D × D)} (h : pairUp (k :: v :: r) = some kvs) : keyOk k = true ∧ ∃ m, pairUp r = some m ∧ kvs = (k, v) :: m := by
  unfold pairUp at h
  split at h
  · rename_i hk
    obtain ⟨m, e, rfl⟩ := Option.map_eq_some_iff.mp h
    exact ⟨hk, m, e, rfl⟩
  · cases h
theorem evs_two {a b r : Ex} {F : Fr} {A : AH} : evs cl (.cons a (.cons b r)) F A = bnd (ev cl a F A) fun x A1 => bnd (ev cl b F A1) fun y A2 => bnd (evs cl r F A2) fun ys A3 => .ok (x :: y :: ys) A3 := by
  show (bnd (ev cl a F A) fun x A1 => bnd (bnd (ev cl b F A1) fun y A2 => bnd (evs cl r F A2) fun ys A3 => .ok (y :: ys) A3) fun xs A2 => .ok (x :: xs) A2) = _
  cases ev cl a F A with
  | ok x A1 =>
    simp only [bnd]
    cases ev cl b F A1 with
    | ok y A2 =>
      simp only []
      cases evs cl r F A2 <;> rfl
    | exc => rfl
    | no => rfl
  | exc => rfl
  | no => rfl
theorem pd_of {a b r : Ex} (iha : SE cl a) (ihb : SE cl b) (ihr : SE cl r) {X : Cx} {c : SC} {W : WX} {ks : List (Option Expr)} {vs : List Expr} {pos : Pos} (ok : CtxOk X c cl W) (h : mtd (.cons a (.cons b r)) c ks vs = true) :
    ∃ trs, PPs X pos ks vs trs ∧ ks.all (·.isSome) = true ∧ ks.length = vs.length ∧
      ∀ (σ : L2.St) (H : Hp) (Q : List (V × V) → Hp → Prop), tG (Gd X) W (evs cl (.cons a (.cons b r))) σ H (fun ds A φ H' => ∃ kvs, pairUp ds = some kvs ∧ ∀ ps, KReps (Gd X) φ H' kvs ps → Q (ps.map fun kv => (kV kv.1, kv.2)) H') → tPairs trs σ H Q := by
  rcases ks with _ | ⟨_ | k, ks⟩ <;> rcases vs with _ | ⟨v, vs⟩ <;> first | (simp [mtd] at h; done) | skip
  have h : (mt a c k && mt b c v && mtd r c ks vs) = true := h
  simp only [Bool.and_eq_true] at h
  obtain ⟨⟨h1, h2⟩, h3⟩ := h
  obtain ⟨trs, pp, p1, p2, p3⟩ := ihr.pd (pos := pos) ok h3
  refine ⟨_, pps_cons (iha.pe ok h1) (ihb.pe ok h2) pp, by simpa using p1, by simp [p2], fun σ H Q ⟨φ, F, A, hr, fr, q⟩ => ?_⟩
  have q : okG (Gd X) φ H (fun c d H' => W c d σ H') _ (evs cl (.cons a (.cons b r)) F A) := q
  rw [evs_two] at q
  refine tE_mono (tE_go2 (β := List D) (cl := cl) (e := a) (e2 := b) (f := fun x y A2 => bnd (evs cl r F A2) fun ys A3 => .ok (x :: y :: ys) A3) hr fr q) fun x H1 t1 => tE_mono t1 fun y H2 ⟨φ2, A2, d, d2, hr2, fr2, r1, r2, q2⟩ => ?_
  refine p3 σ H2 (fun ps H3 => Q ((x, y) :: ps) H3) ⟨φ2, F, A2, hr2, fr2, q2.bnd.imp fun ds A3 φ3 H3 e3 hr3 q3 => ?_⟩
  obtain ⟨kvs, e, k⟩ := q3 φ3 H3 .refl hr3
  obtain ⟨hk, m, em, rfl⟩ := pairUp_key e
  obtain ⟨j, rfl, kr⟩ := KR.key hk r1
  exact ⟨m, em, fun ps rp => k ((j, y) :: ps) ⟨j, y, ps, rfl, kr, r2.ext hr2 e3, rp⟩⟩
theorem se_cons {a r : Ex} (iha : SE cl a) (ihr : SE cl r) (ihd : ∀ b s, r = .cons b s → SE cl b ∧ SE cl s) : SE cl (.cons a r) where
  pe := fun _ h => by simp [mt] at h
  pt := fun _ h => by simp [mt] at h
  pw := fun _ h => by simp [mt] at h
  pa := pa_of iha ihr
  pd := fun {X c W ks vs pos} ok h => by
    cases r with
    | cons b s => exact pd_of iha (ihd b s rfl).1 (ihd b s rfl).2 ok h
    | _ => simp [mtd] at h
  po := po_of iha
  pc := pc_of iha
  pi := fun _ h => by simp [mtw] at h
theorem se_dct {es : Ex} (ih : SE cl es) : SE cl (.dct es) := by
  have pe : ∀ {X : Cx} {c : SC} {W : WX} {x : Expr}, CtxOk X c cl W → mt (.dct es) c x = true → PE X x (tE (Gd X) cl W (.dct es)) := fun {X c W x} ok h => by
    cases x with
    | Dict ks vs p =>
      have h : (mtd es c ks vs && decide (ks.length ≤ 15)) = true := h
      simp only [Bool.and_eq_true, decide_eq_true_eq] at h
      obtain ⟨trs, pp, p1, p2, p3⟩ := ih.pd (pos := p) ok h.1
      by_cases h0 : ks = []
      · subst h0
        have hv : vs = [] := List.eq_nil_of_length_eq_zero p2.symm
        subst hv
        refine pe_imp pe_dnewK fun σ H Q ⟨φ, F, A, hr, fr, q⟩ p hp => ?_
        have he : es = .nil := by
          cases es with
          | nil => rfl
          | cons a r => cases r <;> simp [mtd] at h
          | _ => simp [mtd] at h
        subst he
        have q : okG (Gd X) φ H (fun c d H' => W c d σ H') (pV (Gd X) Q) (.ok (.ref A.length) (A ++ [.dct []])) := q
        exact q.vc.new hr hp ⟨[], rfl, rfl⟩
      · refine pe_imp (pe_disp pp p1 p2 h0 h.2) fun σ H Q ⟨φ, F, A, hr, fr, q⟩ p hp => ?_
        have x0 : Ext φ H φ (upd H p (.dK [])) := Ext.beside hp
        refine p3 σ _ _ ⟨φ, F, A, hr.beside hp, fr.ext hr x0, (okG.keep (α := List D) (r := evs cl es F A) q x0).imp fun ds A1 φ1 H1 x1 hr1 q1 => ?_⟩
        obtain ⟨lk, np⟩ := x1.laid (hr.notMemN hp)
        cases e : pairUp ds with
        | none => rw [e] at q1; exact q1.elim
        | some kvs =>
          rw [e] at q1
          by_cases hl : kvs.length ≤ 15
          · simp only [if_pos hl] at q1
            refine ⟨kvs, rfl, fun ps rp => ⟨lk, ps, rfl, by rw [rp.length]; exact hl, ?_⟩⟩
            refine q1 (φ1 ++ [p]) _ (x1.lay hp) (hr1.lay lk (fun z => z) np ⟨mergeK [] ps, rfl, KReps.merge rp rfl⟩) (.ref p) ⟨p, ?_, rfl⟩
            rw [← hr1.len]; simp
          · simp only [if_neg hl] at q1; exact q1.elim
    | _ => simp [mt] at h
  refine SE.of ⟨fun c xs => by simp [mts], fun c ks vs => by simp [mtd], fun c x => by simp [mto], fun c x => by simp [mtc], fun c x t => by simp [mtw]⟩ pe (fun {X c W x} ok h => pt_of (pe ok h) ?_) (fun ok h => by simp [mt] at h)
  cases x <;> first | (exact fun _ => rfl) | (simp [mt] at h; done)

/-! ### calls -/
theorem glB_gl {X : Cx} {c : SC} {W : WX} {n : Str} (ok : CtxOk X c cl W) (h : glB c.sc n = true) : Gl X n ∧ ((n == ("__debug__" : Str)) = false) ∧ n ≠ "__name__" := by
  simp only [Bool.and_eq_true, decide_eq_true_eq, glB] at h
  refine ⟨?_, h.1.2, h.2⟩
  show X.env.scope.names.lookup _ = _
  rw [ok.sc]; exact h.1.1
theorem se_call (f : String) {es : Ex} (ih : SE cl es) : SE cl (.call f es) := by
  have pe : ∀ {X : Cx} {c : SC} {W : WX} {x : Expr}, CtxOk X c cl W → mt (.call f es) c x = true → PE X x (tE (Gd X) cl W (.call f es)) := fun {X c W x} ok h => by
    cases x with
    | Call fn xs kws pos =>
      cases fn with
      | Name n np =>
        cases kws with
        | cons => simp [mt] at h
        | nil =>
          have h : (decide (n = Str.ofString f) && decide (f ≠ "super") && glB c.sc n && c.fns.contains f && mts es c xs) = true := h
          simp only [Bool.and_eq_true, decide_eq_true_eq] at h
          obtain ⟨⟨⟨⟨rfl, _⟩, hg⟩, hf⟩, hx⟩ := h
          obtain ⟨g1, g2, g3⟩ := glB_gl ok hg
          obtain ⟨fa, fd, ps, k, hm, hk, hb, F, hr⟩ := (ok.calls f (by simpa using hf)).ex
          have rd : ∀ σ H Q, tE (Gd X) cl W (.call f es) σ H Q → tCallSD (spEv (Gd X) cl f) [] (WE W) (tA (Gd X) cl W es) σ H Q := fun σ H Q ⟨φ, F, A, hr, fr, q⟩ => by
            obtain ⟨φ', F', A', hr', fr', o'⟩ := tA_go (β := D) (cl := cl) (e := es) (f := fun ds A1 => cl f ds A1) hr fr q
            refine ⟨φ', F', A', hr', fr', o'.imp fun ds A1 φ1 H1 _ _ q vs rv => ?_⟩
            obtain ⟨φ2, A2, ds2, hr2, fr2, r2, o2⟩ := q vs rv
            exact ⟨φ2, A2, ds2, hr2, by rw [List.append_nil]; exact r2, o2⟩
          cases xs with
          | cons x xs =>
            have hp := mts_plain hx
            simp only [List.all_cons, Bool.and_eq_true] at hp
            exact pe_imp (pe_callSD F hr g1 hm hk hb .nil (fun σ => passAt ok.tk σ) (ih.pa ok hx) g2 (star_plain hp.1) (back_none hp.2)) rd
          | nil =>
            refine ⟨fun pins s σ H Q I h => ?_⟩
            have h := rd σ H Q h
            have he : es = .nil := by
              cases es <;> first | rfl | (simp [mts] at hx; done)
            subst he
            obtain ⟨φ, F', A, hr', fr', q⟩ := h
            have q := q φ H .refl hr' [] rfl
            refine wpAny_Call_Name_kw (ld_glob I g1 hm ?_ g2)
            exact PySem.W.callWith_K0 I.kIn hk (run_fnSD (us := []) F hr hb .nil (passAt ok.tk σ) I .nil q)
      | _ => simp [mt] at h
    | _ => simp [mt] at h
  refine SE.of ⟨fun c xs => by simp [mts], fun c ks vs => by simp [mtd], fun c x => by simp [mto], fun c x => by simp [mtc], fun c x t => by simp [mtw]⟩ pe (fun {X c W x} ok h => pt_of (pe ok h) ?_) (fun ok h => by simp [mt] at h)
  cases x <;> first | (exact fun _ => rfl) | (simp [mt] at h; done)

theorem bi_rule {X : Cx} {c : SC} {W : WX} (ok : CtxOk X c cl W) {f : String} (h : (biNames.contains f || tyBi.contains f) = true) : X.mg (Str.ofString f) = none ∧
    ((∃ id, bootBuiltins (Str.ofString f) = some (.builtin id) ∧ CallR X (.builtin id) (rBi (Gd X) fun A ds => biF A f ds)) ∨ ∃ T, bootBuiltins (Str.ofString f) = some (.type T) ∧ CallR X (.type T) (rBi (Gd X) fun A ds => biF A f ds)) := by
  have hm : f ∈ biNames ++ tyBi := by
    rw [List.mem_append]
    simpa using h
  refine ⟨ok.bn f (by rw [List.mem_append]; exact .inl hm), ?_⟩
  have h : f = "len" ∨ f = "abs" ∨ f = "isinstance" ∨ f = "sum" ∨ f = "sorted" ∨ f = "max" ∨ f = "any" ∨ f = "all" ∨ f = "tuple" ∨ f = "list" ∨ f = "dict" ∨ f = "int" := by simpa [biNames, tyBi] using hm
  rcases h with rfl | rfl | rfl | rfl | rfl | rfl | rfl | rfl | rfl | rfl | rfl | rfl
  · exact .inl ⟨_, by decide +kernel, len_ok⟩
  · exact .inl ⟨_, by decide +kernel, abs_ok⟩
  · exact .inl ⟨_, by decide +kernel, isi_ok ok.fb⟩
  · exact .inl ⟨_, by decide +kernel, sum_ok ok.calm⟩
  · exact .inl ⟨_, by decide +kernel, sorted_ok ok.calm⟩
  · exact .inl ⟨_, by decide +kernel, max_ok ok.calm⟩
  · exact .inl ⟨_, by decide +kernel, any_ok ok.calm⟩
  · exact .inl ⟨_, by decide +kernel, all_ok ok.calm⟩
  · exact .inr ⟨_, by decide +kernel, tuple_ok⟩
  · exact .inr ⟨_, by decide +kernel, list_ok⟩
  · exact .inr ⟨_, by decide +kernel, dict_ok ok.calm⟩
  · exact .inr ⟨_, by decide +kernel, int_ok⟩
theorem biF_exc {A A' : AH} {f : String} {ds : List D} {y : Xc} (h : biF A f ds = .exc y A') : False := by
  unfold biF biLen biTuple biList biDict biInt biAbs biIsi biSum biSorted biMax biAny biAll ofO at h
  repeat' split at h
  all_goals cases h
theorem se_bi (f : String) {es : Ex} (ih : SE cl es) : SE cl (.bi f es) := by
  have pe : ∀ {X : Cx} {c : SC} {W : WX} {x : Expr}, CtxOk X c cl W → mt (.bi f es) c x = true → PE X x (tE (Gd X) cl W (.bi f es)) := fun {X c W x} ok h => by
    cases x with
    | Call fn xs kws pos =>
      cases fn with
      | Name n np =>
        cases kws with
        | cons => simp [mt] at h
        | nil =>
          have h : (decide (n = Str.ofString f) && decide (f ≠ "super") && glB c.sc n && (biNames.contains f || tyBi.contains f) && !xs.isEmpty && mts es c xs) = true := h
          simp only [Bool.and_eq_true, decide_eq_true_eq] at h
          obtain ⟨⟨⟨⟨⟨rfl, _⟩, hg⟩, hf⟩, hne⟩, hx⟩ := h
          obtain ⟨g1, g2, g3⟩ := glB_gl ok hg
          have rd : ∀ σ H Q, tE (Gd X) cl W (.bi f es) σ H Q → tCB (rBi (Gd X) fun A ds => biF A f ds) (tA (Gd X) cl W es) σ H Q := fun σ H Q ⟨φ, F, A, hr, fr, q⟩ => by
            obtain ⟨φ', F', A', hr', fr', o'⟩ := tA_go (β := D) (cl := cl) (e := es) (f := fun ds A1 => biF A1 f ds) hr fr q
            refine ⟨φ', F', A', hr', fr', o'.imp fun ds A1 φ1 H1 _ _ q vs rv => ?_⟩
            obtain ⟨φ2, A2, ds2, hr2, fr2, r2, o2⟩ := q vs rv
            cases e : biF A2 f ds2 with
            | ok r A3 => rw [e] at o2; exact ⟨φ2, A2, ds2, r, A3, hr2, r2, e, o2.vc⟩
            | exc y A3 => exact (biF_exc e).elim
            | no => rw [e] at o2; exact o2.elim
          cases xs with
          | nil => cases hne
          | cons x xs =>
            have hp := mts_plain hx
            simp only [List.all_cons, Bool.and_eq_true] at hp
            obtain ⟨hm, ⟨id, hv, hc⟩ | ⟨T, hv, hc⟩⟩ := bi_rule ok hf
            · exact pe_imp (pe_callB hc g1 hm hv (ih.pa ok hx) g3 g2 (star_plain hp.1) (back_none hp.2)) rd
            · exact pe_imp (pe_callTy hc g1 hm hv (ih.pa ok hx) g3 g2 (star_plain hp.1) (back_none hp.2)) rd
      | _ => simp [mt] at h
    | _ => simp [mt] at h
  refine SE.of ⟨fun c xs => by simp [mts], fun c ks vs => by simp [mtd], fun c x => by simp [mto], fun c x => by simp [mtc], fun c x t => by simp [mtw]⟩ pe (fun {X c W x} ok h => pt_of (pe ok h) ?_) (fun ok h => by simp [mt] at h)
  cases x <;> first | (exact fun _ => rfl) | (simp [mt] at h; done)
end
end Ev

/-! ## EvSnd5 -/
/-! EvSnd5: methods of lists and dicts; what is walked. -/
namespace Ev
open PySem PySem.Spec PyProof.Rows L2
def tyM : Bool → String
  | false => "list"
  | true => "dict"
theorem mt_rule {X : Cx} (hu : X.A.units + 65 < cLine) {k : Bool} {m : String} {f : MF} (h : mtG k m = some f) :
    ∃ id, PlainAttrs (tyM k) ∧ Slot (tyM k) (Str.ofString m) id ∧ typeOf (.builtin id) = pure (.type "method_descriptor") ∧ MtM X id (rMt (Gd X) f) := by
  unfold mtG at h
  split at h <;> split at h <;> first | (cases h; done) | skip
  · cases h; exact ⟨_, PySem.F.plainAttrs_list, PySem.F.slot_list_append, PySem.F.type_list_append, append_ok⟩
  · cases h; exact ⟨_, PySem.F.plainAttrs_list, PySem.F.slot_list_extend, PySem.F.type_list_extend, extend_ok⟩
  · cases h; exact ⟨_, PySem.F.plainAttrs_list, PySem.F.slot_list_pop, PySem.F.type_list_pop, lpop_ok⟩
  · cases h; exact ⟨_, PySem.F.plainAttrs_list, PySem.F.slot_list_index, PySem.F.type_list_index, index_ok⟩
  · cases h; exact ⟨_, PySem.F.plainAttrs_dict, PySem.F.slot_dict_get, PySem.F.type_dict_get, get_ok hu⟩
  · cases h; exact ⟨_, PySem.F.plainAttrs_dict, PySem.F.slot_dict_pop, PySem.F.type_dict_pop, dpop_ok⟩
  · cases h; exact ⟨_, PySem.F.plainAttrs_dict, PySem.F.slot_dict_update, PySem.F.type_dict_update, update_ok⟩
theorem mtG_exc {k : Bool} {m : String} {f : MF} {A A' : AH} {n : Nat} {ds : List D} {y : Xc} (h : mtG k m = some f) (e : f A n ds = .exc y A') : False := by
  unfold mtG at h
  split at h <;> split at h <;> first | (cases h; done) | skip
  all_goals
    cases h
    revert e
    simp only [mtAppend, mtExtend, mtLPop, mtDPop, mtPop, mtGet, mtUpdate, mtIndex]
    repeat' split
    all_goals (intro e; cases e)
section
variable {cl : Cl}
theorem tyV_mk {G : Md} {φ : Ph} {H : Hp} {A : AH} {d : D} {v : V} {k : Bool} (hr : HR G φ H A) (r : Rep G φ H d v) (h : mkD A d = some k) : tyV G.K (tyM k) v H ∧ ∃ n, d = .ref n := by
  unfold mkD at h
  split at h
  · rename_i n
    split at h
    · rename_i xs hx
      cases h
      obtain ⟨a, ea, rfl⟩ := r
      obtain ⟨vs, e, _⟩ := hr.lst hx ea
      exact ⟨.inl ⟨rfl, vs, .inl (.inl e)⟩, n, rfl⟩
    · rename_i kvs hx
      cases h
      obtain ⟨a, ea, rfl⟩ := r
      obtain ⟨ks, e, _⟩ := hr.dct hx ea
      exact ⟨.inr (.inr (.inl ⟨rfl, .inl ⟨ks, e⟩⟩)), n, rfl⟩
    · cases h
  · cases h
theorem mkM_of {A : AH} {m : String} {d : D} {k : Bool} (h : mkM A m d = some k) : mkD A d = some k ∧ ∃ f, mtG k m = some f := by
  unfold mkM at h
  split at h
  · rename_i k' e
    split at h
    · rename_i h'
      cases h
      exact ⟨e, Option.isSome_iff_exists.mp h'⟩
    · cases h
  · cases h
theorem backKw {cpos : Pos} {env : Env} : (backToKw cpos (keywordEach [] env)).all (fun x => x.1.isSome) = true := rfl
theorem back_all {xs : List Expr} {env : Env} {pos : Pos} (h : xs.all plainB = true) : (backTo pos (starEach xs env)).all (fun x => !x.1) = true := by
  rw [star_all h]
  simp [backTo]
theorem se_mth (m : String) {o es : Ex} (iho : SE cl o) (ih : SE cl es) : SE cl (.mth m o es) := by
  have pe : ∀ {X : Cx} {c : SC} {W : WX} {x : Expr}, CtxOk X c cl W → mt (.mth m o es) c x = true → PE X x (tE (Gd X) cl W (.mth m o es)) := fun {X c W x} ok h => by
    cases x with
    | Call fn xs kws pos =>
      cases fn with
      | Attribute l n apos =>
        cases kws with
        | cons => simp [mt] at h
        | nil =>
          have h : (decide (n = Str.ofString m) && (apos.endLine == pos.line) && mtNames.contains m && decide (xs.length < 29) && mt o c l && mts es c xs) = true := h
          simp only [Bool.and_eq_true, decide_eq_true_eq] at h
          obtain ⟨⟨⟨⟨⟨rfl, hl⟩, _⟩, h29⟩, h1⟩, hx⟩ := h
          have hp := mts_plain hx
          refine ⟨fun pins s σ H Q I ⟨φ, F, A, hr, fr, q⟩ => ?_⟩
          have t := tE_go (β := D) (cl := cl) (e := o) (f := fun x A1 => bnd (ofO (mkM A1 m x) A1) fun k A2 => bnd (evs cl es F A2) fun ds A3 => mtF A3 k m x ds) hr fr q
          refine wpAny_Call_method_late (attr_plain h1) (by simp only [back_all hp, backKw]; simp; omega) hl rfl (thn ((iho.pe ok h1).run pins s σ H _ I t) fun v s1 ⟨x, H1, I1, r1, φ1, A1, d, hr1, fr1, rd, q1⟩ => ?_)
          obtain ⟨k, hk, q2⟩ := q1.bnd.ofO
          have q2 := q2 φ1 H1 .refl hr1
          obtain ⟨hk, f, hG⟩ := mkM_of hk
          obtain ⟨ty, nn, rfl⟩ := tyV_mk hr1 rd hk
          obtain ⟨id, pa, slot, hty, hm⟩ := mt_rule ok.hu hG
          obtain ⟨y1, y2⟩ := tyV_is I1 r1 ty
          refine ⟨tyM k, id, pa, slot, hty, y1, y2, ?_⟩
          have ta : tA (Gd X) cl W es σ H1 (fun vs H2 => rMt (Gd X) f x vs H2 Q) := by
            refine ⟨φ1, F, A1, hr1, fr1, q2.bnd.imp fun ds A2 φ2 H2 e2 hr2 q3 vs rv => ?_⟩
            have rd2 := Rep.ext hr1 e2 rd
            have q3 : okG (Gd X) φ2 H2 _ (pV (Gd X) Q) (match mtG k m with | some f => f A2 nn ds | none => .no) := q3
            rw [hG] at q3
            cases e : f A2 nn ds with
            | ok r A3 => simp only [e] at q3; exact ⟨φ2, A2, nn, ds, r, A3, hr2, rd2, rv, e, q3.vc⟩
            | exc y A3 => exact (mtG_exc hG e).elim
            | no => simp only [e] at q3; exact q3.elim
          have hA := (ih.pa ok hx).run pos pins s1 σ H1 _ I1 ta
          refine Calls.callWith_builtin (back_none hp) ?_
          have fin := thn hA fun us s2 ⟨vs, H2, I2, r2, q2⟩ => hm pins s2 σ H2 x vs v us Q I2 r1 r2 q2
          cases xs with
          | nil =>
            have he : es = .nil := by
              cases es <;> first | rfl | (simp [mts] at hx; done)
            subst he
            obtain ⟨φ3, F3, A3, hr3, fr3, q3⟩ := ta
            exact PySem.evalArgs_none (hm pins s1 σ H1 x [] v [] Q I1 r1 .nil (q3 φ3 H1 .refl hr3 [] rfl))
          | cons x xs =>
            simp only [List.all_cons, Bool.and_eq_true] at hp
            rw [star_plain hp.1] at fin ⊢
            exact Calls.evalArgs_plain fin
      | _ => simp [mt] at h
    | _ => simp [mt] at h
  refine SE.of ⟨fun c xs => by simp [mts], fun c ks vs => by simp [mtd], fun c x => by simp [mto], fun c x => by simp [mtc], fun c x t => by simp [mtw]⟩ pe (fun {X c W x} ok h => pt_of (pe ok h) ?_) (fun ok h => by simp [mt] at h)
  cases x <;> first | (exact fun _ => rfl) | (simp [mt] at h; done)
end
end Ev

/-! ## EvSnd6 -/
/-! EvSnd6: what is walked. -/
namespace Ev
open PySem PySem.Spec PyProof.Rows L2
/-- a list or a tuple that is walked -/
def SrcOk (G : Md) (φ0 : Ph) (H0 : Hp) (xs : List D) (g : Guard) (b : Bool) (a : Addr) : Prop :=
  ∀ φ H A, Ext φ0 H0 φ H → HR G φ H A → gOk A g = true → ∃ vs, SqB b G.K H a vs ∧ Reps G φ H xs vs
theorem src_of {G : Md} {φ : Ph} {H : Hp} {A : AH} {d : D} {v : V} {w : Wk} (hr : HR G φ H A) (r : Rep G φ H d v) (e : wkOf A d = some w) (hn : w.lock = none) :
    ∃ b a, v = .ref a ∧ SrcOk G φ H w.items w.g b a ∧ gOk A w.g = true := by
  unfold wkOf at e
  split at e
  · rename_i xs
    cases e
    obtain ⟨a, vs, rfl, sq, rs⟩ := r
    exact ⟨true, a, rfl, fun φ1 H1 A1 x hr1 _ => ⟨vs, SqT.ext hr x sq, rs.ext hr x⟩, rfl⟩
  · rename_i xs
    cases e
    obtain ⟨a, vs, rfl, sq, rs⟩ := r
    exact ⟨false, a, rfl, fun φ1 H1 A1 x hr1 _ => ⟨vs, (FzL.ext hr x sq).sq, rs.ext hr x⟩, rfl⟩
  · rename_i n
    split at e
    · rename_i xs hx
      cases e
      obtain ⟨a, ea, rfl⟩ := r
      refine ⟨false, a, rfl, fun φ1 H1 A1 x hr1 g => ?_, by simp [gOk, hx]⟩
      have hg : A1[n]? = some (.lst xs) := by simpa [gOk] using g
      obtain ⟨vs, e, rs⟩ := hr1.lst hg (x.get ea)
      exact ⟨vs, .inl (.inl e), rs⟩
    · cases e; cases hn
    · cases e
  · cases e
theorem enum_get : ∀ {xs : List D} {k i : Nat} {d : D}, (enumD k xs)[i]? = some d → ∃ y, d = .tup [.int ((k + i : Nat) : Int), y] ∧ xs[i]? = some y
  | [], _, _, _, e => by simp [enumD] at e
  | x :: xs, k, 0, d, e => by
    simp [enumD] at e
    exact ⟨x, e.symm, rfl⟩
  | x :: xs, k, i + 1, d, e => by
    have e : (enumD (k + 1) xs)[i]? = some d := by simpa [enumD] using e
    obtain ⟨y, h1, h2⟩ := enum_get e
    exact ⟨y, by rw [h1]; congr 3; congr 1; omega, by simpa using h2⟩
theorem enum_len : ∀ (xs : List D) (k : Nat), (enumD k xs).length = xs.length
  | [], _ => rfl
  | x :: xs, k => by simp [enumD, enum_len xs]
theorem zip_get : ∀ {xs ys : List D} {i : Nat} {d : D}, (zipD xs ys)[i]? = some d → ∃ x y, d = .tup [x, y] ∧ xs[i]? = some x ∧ ys[i]? = some y
  | [], _, _, _, e => by simp [zipD] at e
  | x :: xs, [], _, _, e => by simp [zipD] at e
  | x :: xs, y :: ys, 0, d, e => by
    simp [zipD] at e
    exact ⟨x, y, e.symm, rfl, rfl⟩
  | x :: xs, y :: ys, i + 1, d, e => by
    have e : (zipD xs ys)[i]? = some d := by simpa [zipD] using e
    obtain ⟨u, v, h1, h2, h3⟩ := zip_get e
    exact ⟨u, v, h1, by simpa using h2, by simpa using h3⟩
theorem zip_len : ∀ (xs ys : List D), (zipD xs ys).length = min xs.length ys.length
  | [], ys => by simp [zipD]
  | x :: xs, [] => by simp [zipD]
  | x :: xs, y :: ys => by simp [zipD, zip_len xs ys]
section
variable {G : Md} {φ0 : Ph} {H0 : Hp} {xs ys : List D} {g k : Guard} {a c : Addr} {b b2 : Bool} {l : Option Nat}
theorem wk_list (s : SrcOk G φ0 H0 xs g false a) : WkIt G φ0 H0 ⟨xs, g, l⟩ (Itl G.K a) where
  step := fun φ H A i d x hr hg e => by
    obtain ⟨vs, sq, rs⟩ := s φ H A x hr hg
    obtain ⟨v, ev, rv⟩ := rs.get e
    exact ⟨⟨vs, v, sq, ev⟩, fun y H' ⟨e1, e2⟩ => by
      subst e1
      have := e2 vs sq
      rw [ev] at this; cases this
      exact ⟨.refl, hr, rv⟩⟩
  stop := fun φ H A x hr hg => by
    obtain ⟨vs, sq, rs⟩ := s φ H A x hr hg
    exact ⟨vs, sq, Nat.le_of_eq rs.length⟩
theorem wk_tup (s : SrcOk G φ0 H0 xs g true a) : WkIt G φ0 H0 ⟨xs, g, l⟩ (Itt G.K a) where
  step := fun φ H A i d x hr hg e => by
    obtain ⟨vs, sq, rs⟩ := s φ H A x hr hg
    obtain ⟨v, ev, rv⟩ := rs.get e
    exact ⟨⟨vs, v, sq, ev⟩, fun y H' ⟨e1, e2⟩ => by
      subst e1
      have := e2 vs sq
      rw [ev] at this; cases this
      exact ⟨.refl, hr, rv⟩⟩
  stop := fun φ H A x hr hg => by
    obtain ⟨vs, sq, rs⟩ := s φ H A x hr hg
    exact ⟨vs, sq, Nat.le_of_eq rs.length⟩
theorem wk_enum (s : SrcOk G φ0 H0 xs g b a) : WkIt G φ0 H0 ⟨enumD 0 xs, g, l⟩ (IteB b G.K a) where
  step := fun φ H A i d x hr hg e => by
    obtain ⟨vs, sq, rs⟩ := s φ H A x hr hg
    obtain ⟨y, rfl, ey⟩ := enum_get e
    obtain ⟨v, ev, rv⟩ := rs.get ey
    refine ⟨⟨vs, v, sq, ev⟩, fun z H' ⟨T, u, e1, hT, e2, e3⟩ => ?_⟩
    subst e1 e2
    have := e3 vs sq
    rw [ev] at this; cases this
    have x1 : Ext φ H φ (upd H T (.tup [.int ((i : Nat) : Int), v])) := Ext.beside hT
    exact ⟨x1, hr.beside hT, T, _, rfl, .inl (.inl upd_same), Reps.cons (by rw [Nat.zero_add]; rfl) (Reps.cons (rv.ext hr x1) .nil)⟩
  stop := fun φ H A x hr hg => by
    obtain ⟨vs, sq, rs⟩ := s φ H A x hr hg
    exact ⟨vs, sq, by rw [rs.length]; exact (enum_len xs 0).symm⟩
theorem gOk_app {A : AH} : gOk A (g ++ k) = (gOk A g && gOk A k) := by simp [gOk, List.all_append]
theorem wk_zip (s : SrcOk G φ0 H0 xs g b a) (t : SrcOk G φ0 H0 ys k b2 c) : WkIt G φ0 H0 ⟨zipD xs ys, g ++ k, l⟩ (ItzB b b2 G.K a c) where
  step := fun φ H A i d x hr hg e => by
    have hg : gOk A (g ++ k) = true := hg
    rw [gOk_app, Bool.and_eq_true] at hg
    obtain ⟨vs, sq, rs⟩ := s φ H A x hr hg.1
    obtain ⟨ws, sq2, rs2⟩ := t φ H A x hr hg.2
    obtain ⟨y, z, rfl, ey, ez⟩ := zip_get e
    obtain ⟨v, ev, rv⟩ := rs.get ey
    obtain ⟨w, ew, rw⟩ := rs2.get ez
    refine ⟨⟨vs, ws, v, w, sq, sq2, ev, ew⟩, fun z H' ⟨T, u1, u2, e1, hT, e2, e3, e4⟩ => ?_⟩
    subst e1 e2
    have := e3 vs sq
    rw [ev] at this; cases this
    have := e4 ws sq2
    rw [ew] at this; cases this
    have x1 : Ext φ H φ (upd H T (.tup [v, w])) := Ext.beside hT
    exact ⟨x1, hr.beside hT, T, _, rfl, .inl (.inl upd_same), Reps.cons (rv.ext hr x1) (Reps.cons (rw.ext hr x1) .nil)⟩
  stop := fun φ H A x hr hg => by
    have hg : gOk A (g ++ k) = true := hg
    rw [gOk_app, Bool.and_eq_true] at hg
    obtain ⟨vs, sq, rs⟩ := s φ H A x hr hg.1
    obtain ⟨ws, sq2, rs2⟩ := t φ H A x hr hg.2
    exact ⟨vs, ws, sq, sq2, by rw [rs.length, rs2.length]; exact (zip_len xs ys).symm⟩
theorem wk_rng {lo hi : Int} : WkIt G φ0 H0 ⟨rngD lo hi, [], l⟩ (Itr lo (hi - lo).toNat) where
  step := fun φ H A i d x hr hg e => by
    obtain ⟨h1, h2⟩ := List.getElem?_eq_some_iff.mp e
    have h1 : i < (hi - lo).toNat := by simpa [rngD] using h1
    refine ⟨h1, fun y H' ⟨e1, e2⟩ => ?_⟩
    subst e1 e2
    refine ⟨.refl, hr, ?_⟩
    have : d = .int (lo + i) := by rw [← h2]; simp [rngD]
    subst this
    exact rfl
  stop := fun φ H A x hr hg => by
    show (hi - lo).toNat ≤ _
    simp [rngD]
end
section
variable {X : Cx} {pins : List (Addr × Obj)} {σ : L2.St} {H : Hp} {s : Shared} {R : It → Hp → Prop} {tg : Expr} {E : Value → Shared → Prop}
theorem it_list {a : Addr} {xs : List V} (I : L2.Inv X pins σ H s) (h : SqL X.K H a xs) (q : R (Itl X.K a) H) : wpAny (model X.prog X.w) X.A (pyIter (.ref a)) (PIE X pins σ tg R) E s := by
  obtain ⟨its, rv, p, hz⟩ := I.list h
  exact wpAny_pyIter_list p.isList (pi_one (tk := s.toks) I _ (turn_list a _) ⟨_, Heap.get?_push_size _ rfl, rfl, rfl⟩ q)
theorem it_tup {a : Addr} {xs : List V} (I : L2.Inv X pins σ H s) (h : SqT X.K H a xs) (q : R (Itt X.K a) H) : wpAny (model X.prog X.w) X.A (pyIter (.ref a)) (PIE X pins σ tg R) E s := by
  obtain ⟨its, rv, p, hz⟩ := I.tuple h
  exact wpAny_pyIter_tuple (show s.heap.IsTuple a its.toArray from p) (pi_one (tk := s.toks) I _ (turn_tuple a _) ⟨_, Heap.get?_push_size _ rfl, rfl, rfl⟩ q)
theorem it_keys {d : Addr} {o : Obj} {kvs : List (Key × V)} (I : L2.Inv X pins σ H s) (h : H d = some (.frz o (.dK kvs))) (q : R (Itk d o kvs) H) : wpAny (model X.prog X.w) X.A (pyIter (.ref d)) (PIE X pins σ tg R) E s := by
  obtain ⟨hs, hgd, hx, es, ep, vs, hdt, hsz, kv, hm⟩ := I.frzK h
  refine iter_keys hs hgd hx hdt (pi_one (tk := s.toks) I _ (turn_keys _ hdt) ⟨_, Heap.get?_push_size _ rfl, rfl, ?_⟩ q)
  rw [hsz] <;> rfl
end
/-- where a walk starts over a list or a tuple -/
theorem src_begins {X : Cx} {pins : List (Addr × Obj)} {σ : L2.St} {H : Hp} {s : Shared} {b : Bool} {a : Addr} {xs : List V} (I : L2.Inv X pins σ H s) (h : SqB b X.K H a xs) :
    a < s.heap.objs.size ∧ ∃ (o : Obj) (P : Heap → Prop), Begins (.ref a) o P ∧ P s.heap ∧ ∀ (h' : Heap) (it : Addr), h'.get? it = some o → ItB b h' it a 0 := by
  cases b with
  | true =>
    obtain ⟨its, rv, p, hz⟩ := I.tuple h
    obtain ⟨o1, ho1, _⟩ := id p
    exact ⟨Heap.lt_size ho1, _, _, begins_tuple a its.toArray, p, fun h' it e => ⟨_, e, rfl, rfl⟩⟩
  | false =>
    obtain ⟨its, rv, p, hz⟩ := I.list h
    exact ⟨p.lt, _, _, begins_list a its.toArray, p.isList, fun h' it e => ⟨_, e, rfl, rfl⟩⟩
section
variable {cl : Cl}
theorem lock_of {G : Md} {φ : Ph} {H : Hp} {A : AH} {d : D} {v : V} {w : Wk} {n : Nat} (hr : HR G φ H A) (r : Rep G φ H d v) (e : wkOf A d = some w) (hn : w.lock = some n) :
    ∃ a kvs ks, v = .ref a ∧ φ[n]? = some a ∧ A[n]? = some (.dct kvs) ∧ H a = some (.dK ks) ∧ KReps G φ H kvs ks ∧ w = ⟨kvs.map (·.1), [(n, .lk kvs)], some n⟩ := by
  unfold wkOf at e
  split at e
  · cases e; cases hn
  · cases e; cases hn
  · rename_i m
    split at e
    · cases e; cases hn
    · rename_i kvs hx
      cases e
      cases hn
      obtain ⟨a, ea, rfl⟩ := r
      obtain ⟨ks, e, rk⟩ := hr.dct hx ea
      exact ⟨a, kvs, ks, rfl, ea, hx, e, rk, rfl⟩
    · cases e
  · cases e
theorem wk_keys {G : Md} {φ0 : Ph} {H0 : Hp} {kvs : List (D × D)} {ks : List (Key × V)} {n : Nat} {a : Addr} {o : Obj} {A0 : AH} (hr0 : HR G φ0 H0 A0) (ea : φ0[n]? = some a) (h : H0 a = some (.frz o (.dK ks))) (rk : KReps G φ0 H0 kvs ks) :
    WkIt G φ0 H0 ⟨kvs.map (·.1), [(n, .lk kvs)], some n⟩ (Itk a o ks) where
  step := fun φ H A i d x hr hg e => by
    have hk : H a = some (.frz o (.dK ks)) := x.frz _ _ _ h
    have rk' := rk.ext hr0 x
    obtain ⟨v, ev, rv⟩ := rk'.keys.get e
    have hi : i < ks.length := by
      have := (List.getElem?_eq_some_iff.mp ev).1
      simpa using this
    refine ⟨⟨hk, hi⟩, fun y H' ⟨e1, k, v', e2, e3⟩ => ?_⟩
    subst e1 e3
    rw [List.getElem?_map, e2] at ev
    cases ev
    exact ⟨.refl, hr, rv⟩
  stop := fun φ H A x hr hg => by
    refine ⟨x.frz _ _ _ h, ?_⟩
    rw [List.length_map, rk.length]
    exact Nat.le_refl _
theorem se_wk {e : Ex} (ih : SE cl e) : SE cl (.wk e) where
  pe := fun _ h => by simp [mt] at h
  pt := fun _ h => by simp [mt] at h
  pw := fun _ h => by simp [mt] at h
  pa := fun _ h => by simp [mts] at h
  pd := fun _ h => by simp [mtd] at h
  po := fun _ h => by simp [mto] at h
  pc := fun _ h => by simp [mtc] at h
  pi := fun {X c W x tg} ok h => by
    have h : mt e c x = true := h
    refine ⟨fun pins s σ H R I ⟨φ, F, A, hr, fr, q⟩ => ?_⟩
    have t := tE_go (β := Wk) (cl := cl) (e := e) (f := fun x A1 => ofO (wkOf A1 x) A1) hr fr q
    refine thn ((ih.pe ok h).run pins s σ H _ I t) fun v s1 ⟨x, H1, I1, r1, φ1, A1, d, hr1, fr1, rd, q1⟩ => ?_
    obtain ⟨w, hw, q2⟩ := q1.ofO
    have q2 := q2 φ1 H1 .refl hr1
    cases hl : w.lock with
    | none =>
      obtain ⟨b, a, rfl, so, _⟩ := src_of hr1 rd hw hl
      cases r1
      have q3 := fun J => q2 H1 J (fun _ => rfl) (fun n e => by rw [hl] at e; cases e) (by rw [hl]; exact hr1)
      obtain ⟨vs, sq, _⟩ := so φ1 H1 A1 .refl hr1 (src_of hr1 rd hw hl).choose_spec.choose_spec.2.2
      obtain ⟨its, g, l⟩ := w
      cases hl
      cases b with
      | true => exact it_tup I1 sq (q3 _ (wk_tup so))
      | false => exact it_list I1 sq (q3 _ (wk_list so))
    | some n =>
      obtain ⟨a, kvs, ks, rfl, ea, hA, hH, rk, rfl⟩ := lock_of hr1 rd hw hl
      cases r1
      obtain ⟨o, I2⟩ := I1.lock hH trivial
      have nf : NF H1 a := .dK hH
      have x1 : Ext φ1 H1 φ1 (upd H1 a (.frz o (.dK ks))) := Ext.set (List.mem_of_getElem? ea) nf
      have hr2 : HR (Gd X) φ1 (upd H1 a (.frz o (.dK ks))) (A1.set n (.lk kvs)) := hr1.set ea nf ⟨o, ks, rfl, rk⟩
      have hlk : lockA A1 (some n) = A1.set n (.lk kvs) := by
        show (match A1[n]? with | some (.dct kvs) => A1.set n (.lk kvs) | _ => A1) = _
        rw [hA]
      refine it_keys I2 upd_same (q2 _ _ (fun z => by cases z) (fun m em => ?_) (by show HR _ _ _ (lockA A1 (some n)); rw [hlk]; exact hr2) (wk_keys hr2 ea upd_same (rk.ext hr1 x1)))
      cases em
      exact ⟨a, o, ks, ea, hH, rfl, I1.nofrz hH trivial⟩
theorem mg_of {X : Cx} {c : SC} {W : WX} (ok : CtxOk X c cl W) {x : String} (h : x ∈ ["enumerate", "zip", "range"]) : X.mg (Str.ofString x) = none := ok.bn x (by rw [List.mem_append]; exact .inr h)
theorem wk_none {A : AH} {d : D} {xs : List D} {g : Guard} {w : Wk} (h : wkEnum A d = some w) : ∃ u, wkOf A d = some u ∧ u.lock = none ∧ w = ⟨enumD 0 u.items, u.g, none⟩ := by
  unfold wkEnum at h
  split at h
  · rename_i xs g e
    cases h
    exact ⟨_, e, rfl, rfl⟩
  · cases h
theorem wk_none2 {A : AH} {d e : D} {w : Wk} (h : wkZip A d e = some w) : ∃ u v, wkOf A d = some u ∧ wkOf A e = some v ∧ u.lock = none ∧ v.lock = none ∧ w = ⟨zipD u.items v.items, u.g ++ v.g, none⟩ := by
  unfold wkZip at h
  split at h
  · rename_i xs g ys k e1 e2
    cases h
    exact ⟨_, _, e1, e2, rfl, rfl, rfl⟩
  · cases h
theorem se_enm {e : Ex} (ih : SE cl e) : SE cl (.enm e) where
  pe := fun _ h => by simp [mt] at h
  pt := fun _ h => by simp [mt] at h
  pw := fun _ h => by simp [mt] at h
  pa := fun _ h => by simp [mts] at h
  pd := fun _ h => by simp [mtd] at h
  po := fun _ h => by simp [mto] at h
  pc := fun _ h => by simp [mtc] at h
  pi := fun {X c W x tg} ok h => by
    cases tg <;> first | (simp [mtw, isTup] at h; done) | skip
    rename_i elts kk tpos
    cases x <;> first | (simp [mtw, isTup] at h; done) | skip
    rename_i fn xs kws pos
    cases fn <;> first | (simp [mtw, isTup] at h; done) | skip
    rename_i n np
    rcases xs with _ | ⟨l, _ | _⟩ <;> cases kws <;> first | (simp [mtw, isTup] at h; done) | skip
    have h : (true && (decide (n = "enumerate") && glB c.sc n && mt e c l)) = true := h
    simp only [Bool.true_and, Bool.and_eq_true, decide_eq_true_eq] at h
    obtain ⟨⟨rfl, hg⟩, h1⟩ := h
    obtain ⟨g1, g2, g3⟩ := glB_gl ok hg
    refine ⟨fun pins s σ H R I ⟨φ, F, A, hr, fr, q⟩ => ?_⟩
    have t := tE_go (β := Wk) (cl := cl) (e := e) (f := fun x A1 => ofO (wkEnum A1 x) A1) hr fr q
    have ha : PA X [l] (tCons (tE (Gd X) cl W e) tNil) := pa_cons (ih.pe ok h1) pa_nil (star_plain (mt_plain h1))
    refine wpAny_Call_Name_kw (ld_blt I g1 (mg_of ok (x := "enumerate") (by decide)) PyProof.Rows.boot_enumerate (PyProof.Rows.callWith_type1 (thn (ha.run pos pins s σ H (fun vs H1 => ∃ x, vs = [x] ∧ ∃ φ1 A1 d, HR (Gd X) φ1 H1 A1 ∧ FR (Gd X) φ1 H1 F σ ∧ Rep (Gd X) φ1 H1 d x ∧ okG (Gd X) φ1 H1 (fun c d H' => W c d σ H') _ (ofO (wkEnum A1 d) A1)) I (tE_mono t fun x H1 z => ⟨x, rfl, z⟩)) fun us s1 ⟨vs, H1, I1, r1, x, ex, φ1, A1, d, hr1, fr1, rd, q1⟩ => ?_) (star_plain (mt_plain h1)) rfl))
    subst ex
    obtain ⟨u, rfl, ru⟩ := Vals.one r1
    obtain ⟨w, hw, q2⟩ := q1.ofO
    have q2 := q2 φ1 H1 .refl hr1
    obtain ⟨w0, hw0, hl, rfl⟩ := wk_none (xs := []) (g := []) hw
    obtain ⟨b, a, rfl, so, sg⟩ := src_of hr1 rd hw0 hl
    cases ru
    obtain ⟨vs, sq, _⟩ := so φ1 H1 A1 .refl hr1 sg
    obtain ⟨lt, o, P, B, hP, hI⟩ := src_begins I1 sq
    refine ev_enum1_begins B hP fun h' he ho hsz hk => wpAny_pyIter_enum he ?_
    have I2 : L2.Inv X pins σ H1 { s1 with heap := h' } := I1.kept (t' := s1.toks) hk
    have n3 : s1.heap.objs.size + 1 ≠ a := Nat.ne_of_gt (Nat.lt_succ_of_lt lt)
    have n2 : a ≠ s1.heap.objs.size := Nat.ne_of_lt lt
    refine ⟨s1.heap.objs.size + 1, [s1.heap.objs.size + 1, s1.heap.objs.size], _, _, H1, rfl, I2, turn_enumB (b := b) (a := a) (e := s1.heap.objs.size + 1) (it := s1.heap.objs.size) (Nat.succ_ne_self _) n2 n3, ⟨⟨.none, he⟩, hI _ _ ho⟩, fun c hc => ?_, q2 H1 _ (fun _ => rfl) (fun n e => by cases e) hr1 (wk_enum so)⟩
    have e' : c = s1.heap.objs.size + 1 ∨ c = s1.heap.objs.size := by simpa using hc
    have hle : s1.heap.objs.size ≤ c := by
      rcases e' with z | z
      · rw [z]; exact Nat.le_add_right _ _
      · rw [z]; exact Nat.le_refl _
    exact I1.fpOk hle (I1.hok.fresh hle)
theorem se_zip {e e2 : Ex} (ih : SE cl e) (ih2 : SE cl e2) : SE cl (.zip e e2) where
  pe := fun _ h => by simp [mt] at h
  pt := fun _ h => by simp [mt] at h
  pw := fun _ h => by simp [mt] at h
  pa := fun _ h => by simp [mts] at h
  pd := fun _ h => by simp [mtd] at h
  po := fun _ h => by simp [mto] at h
  pc := fun _ h => by simp [mtc] at h
  pi := fun {X c W x tg} ok h => by
    cases tg <;> first | (simp [mtw, isTup] at h; done) | skip
    rename_i elts kk tpos
    cases x <;> first | (simp [mtw, isTup] at h; done) | skip
    rename_i fn xs kws pos
    cases fn <;> first | (simp [mtw, isTup] at h; done) | skip
    rename_i n np
    rcases xs with _ | ⟨l, _ | ⟨r, _ | _⟩⟩ <;> cases kws <;> first | (simp [mtw, isTup] at h; done) | skip
    have h : (true && (decide (n = "zip") && glB c.sc n && mt e c l && mt e2 c r)) = true := h
    simp only [Bool.true_and, Bool.and_eq_true, decide_eq_true_eq] at h
    obtain ⟨⟨⟨rfl, hg⟩, h1⟩, h2⟩ := h
    obtain ⟨g1, g2, g3⟩ := glB_gl ok hg
    refine ⟨fun pins s σ H R I ⟨φ, F, A, hr, fr, q⟩ => ?_⟩
    have t := tE_go2 (β := Wk) (cl := cl) (e := e) (e2 := e2) (f := fun x y A2 => ofO (wkZip A2 x y) A2) hr fr q
    have ha : PA X [l, r] (tCons (tE (Gd X) cl W e) (tCons (tE (Gd X) cl W e2) tNil)) := pa_cons (ih.pe ok h1) (pa_cons (ih2.pe ok h2) pa_nil (star_plain (mt_plain h2))) (star_plain (mt_plain h1))
    refine wpAny_Call_Name_kw (ld_blt I g1 (mg_of ok (x := "zip") (by decide)) PyProof.Rows.boot_zip (PyProof.Rows.callWith_type1 (thn (ha.run pos pins s σ H (fun vs H1 => ∃ x y, vs = [x, y] ∧ ∃ φ1 A1 d d2, HR (Gd X) φ1 H1 A1 ∧ FR (Gd X) φ1 H1 F σ ∧ Rep (Gd X) φ1 H1 d x ∧ Rep (Gd X) φ1 H1 d2 y ∧ okG (Gd X) φ1 H1 (fun c d H' => W c d σ H') _ (ofO (wkZip A1 d d2) A1)) I (tE_mono t fun x H1 z => tE_mono z fun y H2 z2 => ⟨x, y, rfl, z2⟩)) fun us s1 ⟨vs, H1, I1, r1, x, y, ex, φ1, A1, d, d2, hr1, fr1, rd, rd2, q1⟩ => ?_) (star_plain (mt_plain h1)) (back_none (xs := [r]) (by simp [mt_plain h2]))))
    subst ex
    obtain ⟨u, u2, rfl, ru, ru2⟩ := Vals.two r1
    obtain ⟨w, hw, q2⟩ := q1.ofO
    have q2 := q2 φ1 H1 .refl hr1
    obtain ⟨w0, w1, hw0, hw1, hl, hl1, rfl⟩ := wk_none2 hw
    obtain ⟨b, a, rfl, so, sg⟩ := src_of hr1 rd hw0 hl
    obtain ⟨b2, a2, rfl, so2, sg2⟩ := src_of hr1 rd2 hw1 hl1
    cases ru
    cases ru2
    obtain ⟨vs, sq, _⟩ := so φ1 H1 A1 .refl hr1 sg
    obtain ⟨vs2, sq2, _⟩ := so2 φ1 H1 A1 .refl hr1 sg2
    obtain ⟨lt, o, P, B, hP, hI⟩ := src_begins I1 sq
    obtain ⟨lt2, o2, P2, B2, hP2, hI2⟩ := src_begins I1 sq2
    refine zip_begins2 B B2 hP hP2 fun h' hz hTI hTO ho1 ho2 hsz hk => wpAny_pyIter_zip hz ?_
    have I2 : L2.Inv X pins σ H1 { s1 with heap := h' } := I1.kept (t' := s1.toks) hk
    have ap : Apart2 (s1.heap.objs.size + 4) (s1.heap.objs.size + 2) (s1.heap.objs.size + 3) s1.heap.objs.size (s1.heap.objs.size + 1) a a2 :=
      ⟨zip_sep2 (N := s1.heap.objs.size) (fp1 := [a]) (fp2 := [a2]) (fun b hb => by rw [List.mem_singleton.mp hb]; exact lt) (fun b hb => by rw [List.mem_singleton.mp hb]; exact lt2), Nat.ne_of_lt lt, Nat.ne_of_lt (Nat.lt_succ_of_lt lt2)⟩
    refine ⟨s1.heap.objs.size + 4, [s1.heap.objs.size + 4, s1.heap.objs.size + 2, s1.heap.objs.size + 3, s1.heap.objs.size, s1.heap.objs.size + 1], _, _, H1, rfl, I2, turn_zipB (b1 := b) (b2 := b2) ap, ⟨hz, hTI, ⟨_, _, hTO⟩, hI _ _ ho1, hI2 _ _ ho2⟩, fun c hcm => ?_, q2 H1 _ (fun _ => rfl) (fun n e => by cases e) hr1 (wk_zip so so2)⟩
    have e' : c = s1.heap.objs.size + 4 ∨ c = s1.heap.objs.size + 2 ∨ c = s1.heap.objs.size + 3 ∨ c = s1.heap.objs.size ∨ c = s1.heap.objs.size + 1 := by simpa using hcm
    have hle : s1.heap.objs.size ≤ c := by
      rcases e' with z | z | z | z | z
      · rw [z]; exact Nat.le_add_right _ _
      · rw [z]; exact Nat.le_add_right _ _
      · rw [z]; exact Nat.le_add_right _ _
      · rw [z]; exact Nat.le_refl _
      · rw [z]; exact Nat.le_add_right _ _
    exact I1.fpOk hle (I1.hok.fresh hle)
theorem okG.imp' {G : Md} {β : Type} {φ : Ph} {H : Hp} {W : Value → Option Addr → Hp → Prop} {P P' : β → AH → Ph → Hp → Prop} {r : Res β} (h : okG G φ H W P r) (k : ∀ b A φ' H', r = .ok b A → Ext φ H φ' H' → HR G φ' H' A → P b A φ' H' → P' b A φ' H') : okG G φ H W P' r := by
  cases r with
  | ok b A => exact fun φ' H' e hr => k _ _ _ _ rfl e hr (h φ' H' e hr)
  | exc y A => exact h
  | no => exact h
theorem evs_len {c : SC} {F : Fr} : ∀ {es : Ex} {xs : List Expr} {A A' : AH} {ds : List D}, mts es c xs = true → evs cl es F A = .ok ds A' → ds.length = xs.length
  | .nil, xs, A, A', ds, h, e => by
    cases xs with
    | nil => cases e; rfl
    | cons => simp [mts] at h
  | .cons a r, xs, A, A', ds, h, e => by
    cases xs with
    | nil => simp [mts] at h
    | cons x xs =>
      have h : mt a c x = true ∧ mts r c xs = true := by simpa [mts] using h
      have e : (bnd (ev cl a F A) fun x A1 => bnd (evs cl r F A1) fun xs A2 => .ok (x :: xs) A2) = .ok ds A' := e
      cases e1 : ev cl a F A with
      | ok y A1 =>
        rw [e1] at e
        simp only [bnd] at e
        cases e2 : evs cl r F A1 with
        | ok ys A2 =>
          rw [e2] at e
          cases e
          simp [evs_len h.2 e2]
        | exc => rw [e2] at e; cases e
        | no => rw [e2] at e; cases e
      | exc => rw [e1] at e; cases e
      | no => rw [e1] at e; cases e
  | .var _, _, _, _, _, h, _ | .int _, _, _, _, _, h, _ | .str _, _, _, _, _, h, _ | .bl _, _, _, _, _, h, _ | .non, _, _, _, _, h, _ | .gl _, _, _, _, _, h, _ | .cst _ _, _, _, _, _, h, _ | .tup _, _, _, _, _, h, _ | .lst _, _, _, _, _, h, _ | .dct _, _, _, _, _, h, _ | .op _ _ _, _, _, _, _, h, _ | .neg _, _, _, _, _, h, _ | .cmp _ _ _, _, _, _, _, h, _
  | .chn _ _ _ _ _, _, _, _, _, h, _ | .and _ _, _, _, _, _, h, _ | .or _ _, _, _, _, _, h, _ | .not _, _, _, _, _, h, _ | .ite _ _ _, _, _, _, _, h, _ | .ix _ _, _, _, _, _, h, _ | .sl _ _ _, _, _, _, _, h, _ | .call _ _, _, _, _, _, h, _ | .bi _ _, _, _, _, _, h, _ | .mth _ _ _, _, _, _, _, h, _ | .lc _ _ _ _ _, _, _, _, _, h, _
  | .dc _ _ _ _ _ _, _, _, _, _, h, _ | .wk _, _, _, _, _, h, _ | .enm _, _, _, _, _, h, _ | .zip _ _, _, _, _, _, h, _ | .rng _, _, _, _, _, h, _ => by simp [mts] at h
theorem small_of {i : Int} (h : small i = true) : -(2 ^ 62) ≤ i ∧ i < 2 ^ 62 := by
  unfold small at h
  simp only [Bool.and_eq_true, decide_eq_true_eq] at h
  omega
theorem se_rng {es : Ex} (ih : SE cl es) : SE cl (.rng es) where
  pe := fun _ h => by simp [mt] at h
  pt := fun _ h => by simp [mt] at h
  pw := fun _ h => by simp [mt] at h
  pa := fun _ h => by simp [mts] at h
  pd := fun _ h => by simp [mtd] at h
  po := fun _ h => by simp [mto] at h
  pc := fun _ h => by simp [mtc] at h
  pi := fun {X c W x tg} ok h => by
    cases x <;> first | (simp [mtw] at h; done) | skip
    rename_i fn xs kws pos
    cases fn <;> first | (simp [mtw] at h; done) | skip
    rename_i n np
    cases kws <;> first | (simp [mtw] at h; done) | skip
    have h : (decide (n = "range") && glB c.sc n && (xs.length == 1 || xs.length == 2) && mts es c xs) = true := h
    simp only [Bool.and_eq_true, decide_eq_true_eq] at h
    obtain ⟨⟨⟨rfl, hg⟩, hx⟩, h1⟩ := h
    obtain ⟨g1, g2, g3⟩ := glB_gl ok hg
    have hp := mts_plain h1
    refine ⟨fun pins s σ H R I ⟨φ, F, A, hr, fr, q⟩ => ?_⟩
    have t := tA_go (β := Wk) (cl := cl) (e := es) (f := fun ds A1 => ofO (wkRng ds) A1) hr fr q
    rcases xs with _ | ⟨x, _ | ⟨y, _ | _⟩⟩
    · simp at hx
    · refine (pi_range1 g1 (mg_of ok (x := "range") (by decide)) (ih.pa ok h1) (by simp only [List.all_cons, Bool.and_eq_true] at hp; exact star_plain hp.1)).run pins s σ H R I ?_
      refine ⟨φ, F, A, hr, fr, (okG.bnd (α := List D) (r := evs cl es F A) q).imp' fun ds A1 φ1 H1 e1 _ hr1 q vs rv => ?_⟩
      have hl := evs_len h1 e1
      obtain ⟨w, hw, q⟩ := q.ofO
      rcases ds with _ | ⟨d, _ | ⟨d2, ds⟩⟩
      · cases hl
      · obtain ⟨v, rfl, rz⟩ := rv.one
        unfold wkRng at hw
        split at hw <;> first | (cases hw; done) | skip
        · rename_i j e
          cases e
          have rz : v = .int j := rz
          subst rz
          split at hw
          · rename_i hs
            cases hw
            obtain ⟨s1, s2⟩ := small_of hs
            have z := q φ1 H1 .refl hr1 H1 _ (fun _ => rfl) (fun n e => by cases e) hr1 (wk_rng (lo := 0) (hi := j))
            rw [Int.sub_zero] at z
            exact ⟨j, rfl, s1, s2, z⟩
          · cases hw
        · rename_i e; cases e
      · cases hl
    · refine (pi_range2 g1 (mg_of ok (x := "range") (by decide)) (ih.pa ok h1) (by simp only [List.all_cons, Bool.and_eq_true] at hp; rw [star_plain hp.1, star_plain hp.2.1]; rfl) (by simp only [List.all_cons, Bool.and_eq_true] at hp; exact star_plain hp.2.1)).run pins s σ H R I ?_
      refine ⟨φ, F, A, hr, fr, (okG.bnd (α := List D) (r := evs cl es F A) q).imp' fun ds A1 φ1 H1 e1 _ hr1 q vs rv => ?_⟩
      have hl := evs_len h1 e1
      obtain ⟨w, hw, q⟩ := q.ofO
      rcases ds with _ | ⟨d, _ | ⟨d2, _ | ⟨d3, ds⟩⟩⟩
      · cases hl
      · cases hl
      · obtain ⟨v, v2, rfl, rz, rz2⟩ := rv.two
        unfold wkRng at hw
        split at hw <;> first | (cases hw; done) | skip
        · rename_i j e; cases e
        · rename_i i j e
          cases e
          have rz : v = .int i := rz
          have rz2 : v2 = .int j := rz2
          subst rz rz2
          split at hw
          · rename_i hs
            cases hw
            simp only [Bool.and_eq_true] at hs
            obtain ⟨s1, s2⟩ := small_of hs.1
            obtain ⟨s3, s4⟩ := small_of hs.2
            exact ⟨i, j, rfl, ⟨s1, s2, s3, s4⟩, q φ1 H1 .refl hr1 H1 _ (fun _ => rfl) (fun n e => by cases e) hr1 wk_rng⟩
          · cases hw
      · cases hl
    · simp at hx
end
end Ev

/-! ## EvSnd7 -/
/-! EvSnd7: targets, comprehensions. -/
namespace Ev
open PySem PySem.Spec PyProof.Rows L2

/-! ### targets -/
def Agree (l : List Nat) (σ σ' : L2.St) : Prop := σ'.length = σ.length ∧ ∀ i, i ∉ l → σ'[i]? = σ[i]?
theorem Agree.refl {l : List Nat} {σ : L2.St} : Agree l σ σ := ⟨rfl, fun _ _ => rfl⟩
theorem Agree.trans {l m : List Nat} {σ σ1 σ2 : L2.St} (a : Agree l σ σ1) (b : Agree m σ1 σ2) : Agree (l ++ m) σ σ2 :=
  ⟨b.1.trans a.1, fun i h => by
    rw [List.mem_append, not_or] at h
    rw [b.2 i h.2, a.2 i h.1]⟩
def gE (G : Md) (t : Tg) : TG := fun v σ H Q => ∃ φ F A d F', HR G φ H A ∧ FR G φ H F σ ∧ Rep G φ H d v ∧ asgT t d F = some F' ∧ ∀ σ', FR G φ H F' σ' → Agree (tgSlots t) σ σ' → Q σ' H
def gEs (G : Md) (t : Tg) : TGs := fun vs σ H Q => ∃ φ F A ds F', HR G φ H A ∧ FR G φ H F σ ∧ Reps G φ H ds vs ∧ asgTs t ds F = some F' ∧ ∀ σ', FR G φ H F' σ' → Agree (tgSlots t) σ σ' → Q σ' H
theorem pg_imp {X : Cx} {x : Expr} {t t' : TG} (h : PG X x t) (k : ∀ v σ H Q, t' v σ H Q → t v σ H Q) : PG X x t' := ⟨fun pins s σ H v u Q I r q => h.run pins s σ H v u Q I r (k v σ H Q q)⟩
theorem pgs_imp {X : Cx} {x : List Expr} {t t' : TGs} (h : PGs X x t) (k : ∀ v σ H Q, t' v σ H Q → t v σ H Q) : PGs X x t' := ⟨fun pins s σ H v u Q I r q => h.run pins s σ H v u Q I r (k v σ H Q q)⟩
theorem asg_plain {x : Expr} {xs : List Expr} {env : Env} (h : plainB x = true) : assignEach (x :: xs) env = (false, assign x env) :: assignEach xs env := by
  cases x <;> first | rfl | (cases h; done)
theorem mtt_plain : ∀ {t : Tg} {c : SC} {x : Expr}, mtt t c x = true → plainB x = true := fun {t c x} h => by
  cases t <;> cases x <;> first | rfl | (simp [mtt] at h; done)
theorem mtts_plain : ∀ {t : Tg} {c : SC} {xs : List Expr}, mtts t c xs = true → xs.all plainB = true
  | .nil, c, xs, h => by
    cases xs with
    | nil => rfl
    | cons => simp [mtts] at h
  | .cons a r, c, xs, h => by
    cases xs with
    | nil => rfl
    | cons x xs =>
      have h : mtt a c x = true ∧ mtts r c xs = true := by simpa [mtts] using h
      rw [List.all_cons, mtt_plain h.1, mtts_plain h.2]; rfl
  | .nm _, _, _, h => by simp [mtts] at h
  | .tu _, _, _, h => by simp [mtts] at h
theorem asg_len : ∀ {xs : List Expr} {env : Env}, xs.all plainB = true → (assignEach xs env).length = xs.length ∧ (assignEach xs env).findIdx? (·.1) = none
  | [], _, _ => ⟨rfl, rfl⟩
  | x :: xs, env, h => by
    simp only [List.all_cons, Bool.and_eq_true] at h
    obtain ⟨h1, h2⟩ := asg_len (env := env) h.2
    rw [asg_plain h.1]
    refine ⟨by simp [h1], ?_⟩
    rw [List.findIdx?_cons, h2]
    rfl
theorem asgTs_len : ∀ {t : Tg} {c : SC} {xs : List Expr} {ds : List D} {F F' : Fr}, mtts t c xs = true → asgTs t ds F = some F' → ds.length = xs.length
  | .nil, c, xs, ds, F, F', h, e => by
    cases xs with
    | cons => simp [mtts] at h
    | nil => cases ds with
      | nil => rfl
      | cons => simp [asgTs] at e
  | .cons a r, c, xs, ds, F, F', h, e => by
    cases xs with
    | nil => simp [mtts] at h
    | cons x xs =>
      have h : mtt a c x = true ∧ mtts r c xs = true := by simpa [mtts] using h
      cases ds with
      | nil => simp [asgTs] at e
      | cons d ds =>
        unfold asgTs at e
        split at e
        · simp [asgTs_len h.2 e]
        · cases e
  | .nm _, _, _, _, _, _, h, _ => by simp [mtts] at h
  | .tu _, _, _, _, _, _, h, _ => by simp [mtts] at h
section
variable {cl : Cl} {X : Cx} {c : SC} {W : WX}
mutual
theorem pg_of (ok : CtxOk X c cl W) : ∀ {t : Tg} {x : Expr}, mtt t c x = true → PG X x (gE (Gd X) t)
  | .nm i, x, h => by
    cases x with
    | Name n p =>
      have h : (decide (c.N[i]? = some n) && c.sto.contains n) = true := h
      simp only [Bool.and_eq_true, decide_eq_true_eq] at h
      obtain ⟨h1, h2⟩ := ok.sto n (by simpa using h.2)
      refine pg_imp (pg_name (i := i) (by rw [ok.N]; exact ok.nd) (by rw [ok.N]; exact h.1) h1 h2) fun v σ H Q ⟨φ, F, A, d, F', hr, fr, rd, e, q⟩ => ?_
      cases e
      refine q _ (fr.set i rd) ⟨by simp, fun j hj => ?_⟩
      rw [List.getElem?_set_ne (fun e => hj (by rw [← e]; simp [tgSlots]))]
    | _ => simp [mtt] at h
  | .tu ts, x, h => by
    cases x with
    | Tuple es k p =>
      have h : mtts ts c es = true := h
      obtain ⟨h1, h2⟩ := asg_len (env := X.env) (mtts_plain h)
      refine pg_imp (pg_tup (n := es.length) ok.calm (pgs_of ok h) h1 h2) fun v σ H Q ⟨φ, F, A, d, F', hr, fr, rd, e, q⟩ => ?_
      cases d with
      | tup xs =>
        obtain ⟨a, vs, rfl, sq, rs⟩ := rd
        have e : asgTs ts xs F = some F' := e
        exact ⟨a, vs, rfl, sq, by rw [rs.length]; exact asgTs_len h e, φ, F, A, xs, F', hr, fr, rs, e, q⟩
      | _ => cases e
    | _ => simp [mtt] at h
  | .nil, x, h => by simp [mtt] at h
  | .cons _ _, x, h => by simp [mtt] at h
theorem pgs_of (ok : CtxOk X c cl W) : ∀ {t : Tg} {xs : List Expr}, mtts t c xs = true → PGs X xs (gEs (Gd X) t)
  | .nil, xs, h => by
    cases xs with
    | cons => simp [mtts] at h
    | nil =>
      refine pgs_imp pgs_nil fun v σ H Q ⟨φ, F, A, ds, F', hr, fr, rd, e, q⟩ => ?_
      cases ds with
      | cons => simp [asgTs] at e
      | nil =>
        cases e
        exact ⟨rd, q σ fr .refl⟩
  | .cons a r, xs, h => by
    cases xs with
    | nil => simp [mtts] at h
    | cons x xs =>
      have h : mtt a c x = true ∧ mtts r c xs = true := by simpa [mtts] using h
      refine pgs_imp (pgs_cons (pg_of ok h.1) (pgs_of ok h.2) (by rw [asg_plain (mtt_plain h.1)]; rfl)) fun v σ H Q ⟨φ, F, A, ds, F', hr, fr, rd, e, q⟩ => ?_
      cases ds with
      | nil => simp [asgTs] at e
      | cons d ds =>
        obtain ⟨w, ws, rfl, r1, r2⟩ := rd
        unfold asgTs at e
        split at e
        · rename_i F1 e1
          exact ⟨w, ws, rfl, φ, F, A, d, F1, hr, fr, r1, e1, fun σ1 fr1 ag1 => ⟨φ, F1, A, ds, F', hr, fr1, r2, e, fun σ2 fr2 ag2 => q σ2 fr2 (ag1.trans ag2)⟩⟩
        · cases e
  | .nm _, _, h => by simp [mtts] at h
  | .tu _, _, h => by simp [mtts] at h
end
end

/-! ### the frame with slots forgotten -/
theorem wipe_get {σ : L2.St} : ∀ {l : List Nat} {i : Nat}, (L2.wipe σ l)[i]? = if i ∈ l ∧ i < σ.length then some none else σ[i]?
  | [], i => by simp [L2.wipe]
  | v :: l, i => by
    unfold L2.wipe
    by_cases h : v = i
    · subst h
      by_cases hl : v < σ.length
      · rw [List.getElem?_set_self (by rw [L2.wipe_length]; exact hl), if_pos ⟨List.mem_cons_self, hl⟩]
      · rw [List.getElem?_eq_none (by rw [List.length_set, L2.wipe_length]; omega), if_neg (fun z => hl z.2), List.getElem?_eq_none (by omega)]
    · rw [List.getElem?_set_ne h, wipe_get]
      have : (i ∈ v :: l) ↔ i ∈ l := by
        rw [List.mem_cons]
        exact ⟨fun z => z.resolve_left (fun e => h e.symm), .inr⟩
      simp only [this]
theorem wipe_agree {σ σ' : L2.St} {l m : List Nat} (a : Agree m (L2.wipe σ l) σ') (h : ∀ i ∈ m, i ∈ l) : L2.wipe σ' l = L2.wipe σ l := by
  have hl : σ'.length = σ.length := by rw [a.1, L2.wipe_length]
  refine List.ext_getElem? fun i => ?_
  rw [wipe_get, wipe_get, hl]
  by_cases hi : i ∈ l ∧ i < σ.length
  · rw [if_pos hi, if_pos hi]
  · rw [if_neg hi, if_neg hi]
    by_cases him : i ∈ l
    · have : ¬ i < σ.length := fun z => hi ⟨him, z⟩
      rw [List.getElem?_eq_none (by omega), List.getElem?_eq_none (by omega)]
    · rw [a.2 i (fun z => him (h i z)), wipe_get, if_neg hi]
end Ev

/-! ## EvCls -/
/-! EvCls: fields, making, methods. -/
namespace Ev
open PySem PySem.Spec PyProof.Rows L2

/-! ### fields -/
section
variable {G : Md} {φ : Ph} {H : Hp} {A : AH}
theorem FReps.get {f : String} : ∀ {fs : List (String × D)} {ks : List (Str × V)}, FReps G φ H fs ks →
    (∃ d v, fget fs f = some d ∧ ks.lookup (Str.ofString f) = some v ∧ Rep G φ H d v) ∨ (fget fs f = none ∧ ks.lookup (Str.ofString f) = none)
  | [], ks, r => by rw [show ks = [] from r]; exact .inr ⟨rfl, rfl⟩
  | (g, d) :: fs, ks, r => by
    obtain ⟨v, s, rfl, r1, r2⟩ := r
    by_cases h : g = f
    · subst h
      exact .inl ⟨d, v, by simp [fget], by simp [List.lookup], r1⟩
    · have hb : (Str.ofString f == Str.ofString g) = false := by
        rw [beq_eq_false_iff_ne]
        exact fun q => h (ofString_inj q).symm
      rcases FReps.get (f := f) r2 with ⟨d', v', h1, h2, h3⟩ | ⟨h1, h2⟩
      · exact .inl ⟨d', v', by simpa [fget, h] using h1, by simpa [List.lookup, hb] using h2, h3⟩
      · exact .inr ⟨by simpa [fget, h] using h1, by simpa [List.lookup, hb] using h2⟩
theorem FReps.put {f : String} {d : D} {v : V} (rd : Rep G φ H d v) : ∀ {fs : List (String × D)} {ks : List (Str × V)}, FReps G φ H fs ks → FReps G φ H (fput f d fs) (putF (Str.ofString f) v ks)
  | [], ks, r => by rw [show ks = [] from r]; exact ⟨v, [], rfl, rd, rfl⟩
  | (g, d') :: fs, ks, r => by
    obtain ⟨v', s, rfl, r1, r2⟩ := r
    by_cases h : g = f
    · subst h
      simp only [fput, putF, if_pos]
      exact ⟨v, s, rfl, rd, r2⟩
    · have hb : ¬ Str.ofString g = Str.ofString f := fun q => h (ofString_inj q)
      simp only [fput, putF, if_neg h, if_neg hb]
      exact ⟨v', _, rfl, r1, FReps.put rd r2⟩
theorem FReps.length : ∀ {fs : List (String × D)} {ks : List (Str × V)}, FReps G φ H fs ks → ks.length = fs.length
  | [], ks, r => by rw [show ks = [] from r]; rfl
  | (g, d) :: fs, ks, r => by
    obtain ⟨v, s, rfl, _, r2⟩ := r
    simp [FReps.length r2]
theorem HR.ins (hr : HR G φ H A) {n : Nat} {a : Addr} {c : String} {fs : List (String × D)} (e : A[n]? = some (.ins c fs)) (ea : φ[n]? = some a) : ∃ C dx vs, H a = some (.ins C dx vs) ∧ G.mg (Str.ofString c) = some (.ref C) ∧ FReps G φ H fs vs := by
  obtain ⟨ho, e1, C, dx, vs, rfl, g, r⟩ := hr.at_ n a _ ea e
  exact ⟨C, dx, vs, e1, g, r⟩
theorem NF.ins {H : Hp} {a C dx : Addr} {vs : List (Str × V)} (e : H a = some (.ins C dx vs)) : NF H a := fun o u z => by rw [e] at z; cases z
end
/-- a field is read -/
theorem fld_of {X : Cx} {c : SC} {cl : Cl} {W : WX} (ok : CtxOk X c cl W) {k f : String} (hf : (k, f) ∈ c.flds) {φ : Ph} {H : Hp} {A : AH} {d e : D} {v : V} (hr : HR (Gd X) φ H A) (r : Rep (Gd X) φ H d v) (h : fldD A k f d = some e) :
    ∃ n a C dx fs vs w, d = .ref n ∧ v = .ref a ∧ φ[n]? = some a ∧ A[n]? = some (.ins k fs) ∧ H a = some (.ins C dx vs) ∧ X.mg (Str.ofString k) = some (.ref C) ∧ Cls X.K C ∧ NoAttr X.K C (Str.ofString f) ∧ vs.lookup (Str.ofString f) = some w ∧ Rep (Gd X) φ H e w := by
  unfold fldD at h
  split at h
  · rename_i n
    obtain ⟨a, ea, rfl⟩ := r
    split at h
    · rename_i k' fs hA
      split at h
      · rename_i hk
        subst hk
        obtain ⟨C, dx, vs, e1, g, rf⟩ := hr.ins hA ea
        obtain ⟨C', g', hc, hn⟩ := ok.tab.flds _ hf
        have hC : C' = C := by
          have := g'.symm.trans g
          cases this; rfl
        subst hC
        rcases rf.get (f := f) with ⟨d', w, h1, h2, h3⟩ | ⟨h1, _⟩
        · rw [h1] at h; cases h
          exact ⟨n, a, C', dx, fs, vs, w, rfl, rfl, ea, hA, e1, g, hc, hn, h2, h3⟩
        · rw [h1] at h; cases h
      · cases h
    · cases h
  · cases h
section
variable {cl : Cl}
theorem se_fld (k f : String) {a : Ex} (iha : SE cl a) : SE cl (.fld a k f) := by
  have pe : ∀ {X : Cx} {c : SC} {W : WX} {x : Expr}, CtxOk X c cl W → mt (.fld a k f) c x = true → PE X x (tE (Gd X) cl W (.fld a k f)) := fun {X c W x} ok h => by
    cases x with
    | Attribute l n pos =>
      have h : (decide (n = Str.ofString f) && c.flds.contains (k, f) && mt a c l) = true := h
      simp only [Bool.and_eq_true, decide_eq_true_eq] at h
      obtain ⟨⟨rfl, hf⟩, h1⟩ := h
      have hf : (k, f) ∈ c.flds := by simpa using hf
      refine pe_imp (pe_fld (iha.pe ok h1) (attr_plain h1)) fun σ H Q ⟨φ, F, A, hr, fr, q⟩ => ?_
      refine tE_mono (tE_go (β := D) (cl := cl) (e := a) (f := fun x A1 => ofO (fldD A1 k f x) A1) hr fr q) fun v H1 ⟨φ1, A1, d, hr1, fr1, r1, q1⟩ => ?_
      obtain ⟨e, he, q2⟩ := q1.ofO
      obtain ⟨n, b, C, dx, fs, vs, w, rfl, rfl, ea, hA, e1, g, hc, hn, hl, rw'⟩ := fld_of ok hf hr1 r1 he
      exact ⟨b, C, dx, vs, w, rfl, e1, hc, hn, hl, q2 φ1 H1 .refl hr1 w rw'⟩
    | _ => simp [mt] at h
  refine SE.of ⟨fun c xs => by simp [mts], fun c ks vs => by simp [mtd], fun c x => by simp [mto], fun c x => by simp [mtc], fun c x t => by simp [mtw]⟩ pe (fun {X c W x} ok h => pt_of (pe ok h) ?_) (fun ok h => by simp [mt] at h)
  cases x <;> first | (exact fun _ => rfl) | (simp [mt] at h; done)

/-! ### making -/
theorem run_makeS {X : Cx} {CX : CXT} {k : Nat} {C f : Addr} {fd : FuncData} {ps : List Str} {sp : Sp} {E : L2.St → XK} {pins : List (Addr × Obj)} {σ : L2.St} {H : Hp} {s : Shared} {Q : VK} {us : List Value} {vs : List V} (M : Mk X.K C f) (F : FnOk X.prog X.w X.K X.mg X.base CX k f fd ps sp) (hr : Room (k + 1) X.A) (hb : Binds X.K fd ps [])
    (hx : PassesAt CX X σ (E σ)) (I : Inv X pins σ H s) (r : Vals vs us)
    (h : ∀ x dx, H x = none → H dx = none → dx ≠ x → sp (.ref x :: vs) (upd (upd H dx (.own x)) x (.ins C dx [])) (fun v H2 => v = .non ∧ Q (.ref x) H2) (E σ)) :
    wpAny (model X.prog X.w) X.A (call (.ref C) us) (EP X pins σ Q) X.xe s := by
  have hq := h (s.heap.objs.size + 1) s.heap.objs.size (I.hok.fresh (Nat.le_succ _)) (I.hok.fresh (Nat.le_refl _)) (Nat.ne_of_lt (Nat.lt_succ_self _))
  have I2 := Inv.made (C := C) I
  have r2 : Vals (V.ref (s.heap.objs.size + 1) :: vs) (Value.ref (s.heap.objs.size + 1) :: us) := .cons rfl r
  have hl : (Value.ref (s.heap.objs.size + 1) :: us).length = ps.length := by
    have e := r2.length
    rw [F.len _ _ _ _ hq] at e
    exact e.symm
  have hb1 := hb _ (Value.ref (s.heap.objs.size + 1) :: us) I2.kIn (by rw [List.append_nil]; exact hl)
  rw [List.append_nil] at hb1
  refine wpAny_call (make_map (f := f) I.kIn M.makes M.init (beq_iff_eq.mp M.fn) (codeAny_mono (F.run _ X.stack _ _ ⟨Value.ref (s.heap.objs.size + 1) :: us, []⟩ (Value.ref (s.heap.objs.size + 1) :: us) _ _ (E σ) (hr.make C us [])
    (I2.env0.make C us []) hb1 r2 hq) fun r s' hq' => ?_))
  cases r with
  | error e => exact hx pins _ _ e s' I2 hq'
  | ok fl =>
    cases fl with
    | ret u =>
      obtain ⟨v, H', I3, rv, ev, q3⟩ := I2.after hq'
      subst ev
      exact ⟨rv, ⟨V.ref (s.heap.objs.size + 1), H', I3, rfl, q3⟩⟩
    | next => exact False.elim hq'
    | brk => exact False.elim hq'
    | cont => exact False.elim hq'
/-- the reading of a making -/
theorem mk_read {X : Cx} {W : WX} {k f : String} {C : Addr} {σ : L2.St} {φ : Ph} {H : Hp} {A : AH} {ds : List D} {vs : List V} {Q : VK} (hm : X.mg (Str.ofString k) = some (.ref C)) (hr : HR (Gd X) φ H A) (rs : Reps (Gd X) φ H ds vs)
    (o : okG (Gd X) φ H (fun c d H' => W c d σ H') (pV (Gd X) Q) (bnd (cl f (.ref A.length :: ds) (A ++ [.ins k []])) fun r A2 => match r with | .non => .ok (.ref A.length) A2 | _ => .no)) :
    ∀ x dx, H x = none → H dx = none → dx ≠ x → spEv (Gd X) cl f (.ref x :: vs) (upd (upd H dx (.own x)) x (.ins C dx [])) (fun v H2 => v = .non ∧ Q (.ref x) H2) (WE W σ) := by
  intro x dx hx hdx hne
  have x1 : Ext φ H φ (upd H dx (.own x)) := Ext.beside hdx
  have hx1 : upd H dx (.own x) x = none := by rw [upd_ne (Ne.symm hne)]; exact hx
  have hr1 := hr.beside (o := .own x) hdx
  have x2 : Ext φ H (φ ++ [x]) (upd (upd H dx (.own x)) x (.ins C dx [])) := x1.trans (Ext.push hx1)
  have hr2 : HR (Gd X) (φ ++ [x]) (upd (upd H dx (.own x)) x (.ins C dx [])) (A ++ [.ins k []]) := hr1.push hx1 ⟨C, dx, [], rfl, hm, rfl⟩
  have hx2 : (φ ++ [x])[A.length]? = some x := by rw [← hr.len]; simp
  refine ⟨φ ++ [x], A ++ [.ins k []], .ref A.length :: ds, hr2, Reps.cons ⟨x, hx2, rfl⟩ (rs.ext hr x2), ?_⟩
  refine (okG.bnd o).ext x2 |>.imp fun r A3 φ3 H3 e3 hr3 q3 v rv => ?_
  cases r <;> first | (exact q3.elim) | skip
  refine ⟨rv, ?_⟩
  exact q3 φ3 H3 .refl hr3 (.ref x) ⟨x, e3.get hx2, rfl⟩
theorem se_mk (k f : String) {es : Ex} (ih : SE cl es) : SE cl (.mk k f es) := by
  have pe : ∀ {X : Cx} {c : SC} {W : WX} {x : Expr}, CtxOk X c cl W → mt (.mk k f es) c x = true → PE X x (tE (Gd X) cl W (.mk k f es)) := fun {X c W x} ok h => by
    cases x with
    | Call fn xs kws pos =>
      cases fn with
      | Name n np =>
        cases kws with
        | cons => simp [mt] at h
        | nil =>
          have h : (decide (n = Str.ofString k) && decide (k ≠ "super") && glB c.sc n && c.mks.contains (k, f) && mts es c xs) = true := h
          simp only [Bool.and_eq_true, decide_eq_true_eq] at h
          obtain ⟨⟨⟨⟨rfl, _⟩, hg⟩, hf⟩, hx⟩ := h
          obtain ⟨g1, g2, g3⟩ := glB_gl ok hg
          obtain ⟨C, fa, fd, ps, m, hm, M, hb, F, hr⟩ := (ok.mks (k, f) (by simpa using hf)).ex
          refine ⟨fun pins s σ H Q I ⟨φ, F', A, hr', fr', q⟩ => ?_⟩
          have t := tA_go (β := D) (cl := cl) (e := es) (f := fun ds A1 => bnd (cl f (.ref A1.length :: ds) (A1 ++ [.ins k []])) fun r A2 => match r with | .non => .ok (.ref A1.length) A2 | _ => .no) hr' fr' q
          refine wpAny_Call_Name_kw (ld_glob I g1 hm ?_ g2)
          have fin := thn ((ih.pa ok hx).run pos pins s σ H _ I t) fun us s1 ⟨vs, H1, I1, r1, φ1, A1, ds, hr1, fr1, rs1, q1⟩ => (⟨I1.kIn, run_makeS (us := us) M F hr hb (passAt ok.tk σ) I1 r1 (mk_read (σ := σ) hm hr1 rs1 q1)⟩ : X.K.In s1.heap ∧ _)
          cases xs with
          | cons x xs =>
            have hp := mts_plain hx
            simp only [List.all_cons, Bool.and_eq_true] at hp
            exact PySem.W.callWith_K (h₀ := X.base) I.ok.mod.kin M.kp fin (star_plain hp.1) (back_none hp.2)
          | nil =>
            have he : es = .nil := by
              cases es <;> first | rfl | (simp [mts] at hx; done)
            subst he
            obtain ⟨φ3, F3, A3, hr3, fr3, q3⟩ := t
            obtain ⟨φ1, A1, ds, hr1, fr1, rs1, q1⟩ := q3 φ3 H .refl hr3 [] rfl
            exact PySem.W.callWith_K0 I.kIn M.kp (run_makeS (us := []) M F hr hb (passAt ok.tk σ) I .nil (mk_read (σ := σ) hm hr1 rs1 q1))
      | _ => simp [mt] at h
    | _ => simp [mt] at h
  refine SE.of ⟨fun c xs => by simp [mts], fun c ks vs => by simp [mtd], fun c x => by simp [mto], fun c x => by simp [mtc], fun c x t => by simp [mtw]⟩ pe (fun {X c W x} ok h => pt_of (pe ok h) ?_) (fun ok h => by simp [mt] at h)
  cases x <;> first | (exact fun _ => rfl) | (simp [mt] at h; done)

/-! ### methods -/
theorem wpAny_Call_method_ins {prog : Program} {w : World} {A : Around} {E : Value → Shared → Prop} {s : Shared} {env : Env} {o : Expr} {name : Str} {apos pos : Pos} {args : List Expr} {Q : Value → Shared → Prop}
    (hbase : attributeBase o name env (eval o env) = eval o env)
    (hfew : ((backTo pos (starEach args env)).all (fun x => !x.1) && (backToKw pos (keywordEach [] env)).all (fun x => x.1.isSome)
      && decide (args.length + ([] : List Keyword).length + (if ([] : List Keyword).isEmpty then 0 else 1) < 30)) = true)
    (hline : (apos.endLine == pos.line) = true)
    (h : wpAny (model prog w) A (eval o env) (fun ov s₁ => ∀ pl, wpAny (model prog w) A (getMethod ov name pl) (fun fx s₂ => wpAny (model prog w) A (callWith pos fx.1 fx.2 (backTo pos (starEach args env)) (backToKw pos (keywordEach [] env))) Q E s₂) E s₁) E s) :
    wpAny (model prog w) A (eval (.Call (.Attribute o name apos) args [] pos) env) Q E s := by
  rw [arm_eval_Call, hbase]
  refine wpAny_bind (wpAny_mono h (fun ov s₁ h₁ => ?_) fun _ _ e => e)
  refine wpAny_bind (wpAny_standAt ?_)
  first
    | (
       have hform : methodCallForm (args.length + ([] : List Keyword).length) (backTo pos (starEach args env)) (backToKw pos (keywordEach [] env)) = true := hfew
       have hpos : methodCallPos true o env apos pos = pure pos := by unfold methodCallPos; simp [hline]
       unfold methodCall
       rw [hform]
       refine wpAny_bind (wpAny_holding (wpAny_mono (h₁ _) (fun fx s₂ h₂ => ?_) fun _ _ e => e))
       exact wpAny_bind (wpAny_of_eq hpos h₂))
    | (
       unfold methodCall calleeOf methodCallPos methodCallForm
       simp only [hfew, hline, if_true, Bool.not_true, Bool.or_true]
       refine wpAny_bind (wpAny_holding (wpAny_mono (h₁ _) (fun fx s₂ h₂ => ?_) fun _ _ e => e))
       exact h₂)
theorem isMe_of {G : Md} {φ : Ph} {H : Hp} {A : AH} {k m : String} {d : D} {v : V} (hr : HR G φ H A) (r : Rep G φ H d v) (h : isMe A k m d = true) :
    ∃ a C dx vs, v = .ref a ∧ H a = some (.ins C dx vs) ∧ G.mg (Str.ofString k) = some (.ref C) ∧ vs.lookup (Str.ofString m) = none := by
  unfold isMe at h
  split at h
  · rename_i n
    obtain ⟨a, ea, rfl⟩ := r
    split at h
    · rename_i k' fs hA
      simp only [Bool.and_eq_true, decide_eq_true_eq] at h
      obtain ⟨rfl, hn⟩ := h
      obtain ⟨C, dx, vs, e1, g, rf⟩ := hr.ins hA ea
      rcases rf.get (f := m) with ⟨d', w, h1, h2, h3⟩ | ⟨h1, h2⟩
      · rw [h1] at hn; cases hn
      · exact ⟨a, C, dx, vs, rfl, e1, g, h2⟩
    · cases h
  · cases h
theorem se_mc (k m f : String) {o es : Ex} (iho : SE cl o) (ih : SE cl es) : SE cl (.mc k m f o es) := by
  have pe : ∀ {X : Cx} {c : SC} {W : WX} {x : Expr}, CtxOk X c cl W → mt (.mc k m f o es) c x = true → PE X x (tE (Gd X) cl W (.mc k m f o es)) := fun {X c W x} ok h => by
    cases x with
    | Call fn xs kws pos =>
      cases fn with
      | Attribute l n apos =>
        cases kws with
        | cons => simp [mt] at h
        | nil =>
          have h : (decide (n = Str.ofString m) && (apos.endLine == pos.line) && c.meths.contains (k, m, f) && decide (xs.length < 29) && mt o c l && mts es c xs) = true := h
          simp only [Bool.and_eq_true, decide_eq_true_eq] at h
          obtain ⟨⟨⟨⟨⟨rfl, hl⟩, hf⟩, h29⟩, h1⟩, hx⟩ := h
          have hp := mts_plain hx
          obtain ⟨C, fa, fd, ps, kk, hm, hC, hM, hb, F, hrm⟩ := (ok.meths (k, m, f) (by simpa using hf)).ex
          refine ⟨fun pins s σ H Q I ⟨φ, F', A, hr, fr, q⟩ => ?_⟩
          have t := tE_go (β := D) (cl := cl) (e := o) (f := fun x A1 => if isMe A1 k m x then bnd (evs cl es F' A1) fun ds A2 => cl f (x :: ds) A2 else .no) hr fr q
          refine wpAny_Call_method_ins (attr_plain h1) (by simp only [back_all hp, backKw]; simp; omega) hl (thn ((iho.pe ok h1).run pins s σ H _ I t) fun v s1 ⟨x, H1, I1, r1, φ1, A1, d, hr1, fr1, rd, q1⟩ pl => ?_)
          split at q1
          · rename_i hme
            obtain ⟨a, C', dx, vs, rfl, e1, g, hlk⟩ := isMe_of hr1 rd hme
            have hCC : C' = C := by
              have := g.symm.trans hm
              cases this; rfl
            subst hCC
            obtain rfl : v = Value.ref a := r1
            refine getmeth_ok I1 e1 hC hM hlk ?_
            have ta : tA (Gd X) cl W es σ H1 (fun vs H2 => spEv (Gd X) cl f (.ref a :: vs) H2 Q (WE W σ)) := by
              refine ⟨φ1, F', A1, hr1, fr1, (okG.bnd (r := evs cl es F' A1) q1).imp fun ds A2 φ2 H2 e2 hr2 q3 vs rv => ?_⟩
              exact ⟨φ2, A2, d :: ds, hr2, Reps.cons (rd.ext hr1 e2) rv, q3⟩
            have fin := thn ((ih.pa ok hx).run pos pins s1 σ H1 _ I1 ta) fun us s2 ⟨vs, H2, I2, r2, q2⟩ => (⟨I2.kIn, by
              have := run_fnSD (us := .ref a :: us) (vs := .ref a :: vs) (ds := []) (dvs := []) (E := WE W) F hrm hb .nil (passAt ok.tk σ) I2 (.cons rfl r2) (by rw [List.append_nil]; exact q2)
              exact this⟩ : X.K.In s2.heap ∧ _)
            cases xs with
            | cons x xs =>
              simp only [List.all_cons, Bool.and_eq_true] at hp
              exact PySem.W.callWith_K (first := [.ref a]) (h₀ := X.base) I.ok.mod.kin hM.kp fin (star_plain hp.1) (back_none hp.2)
            | nil =>
              have he : es = .nil := by
                cases es <;> first | rfl | (simp [mts] at hx; done)
              subst he
              obtain ⟨φ3, F3, A3, hr3, fr3, q3⟩ := ta
              have q3 := q3 φ3 H1 .refl hr3 [] rfl
              exact PySem.W.callWith_K0 (first := [.ref a]) I1.kIn hM.kp (run_fnSD (us := [.ref a]) (vs := [.ref a]) (ds := []) (dvs := []) (E := WE W) F hrm hb .nil (passAt ok.tk σ) I1 (.cons rfl .nil) (by rw [List.append_nil]; exact q3))
          · exact q1.elim
      | _ => simp [mt] at h
    | _ => simp [mt] at h
  refine SE.of ⟨fun c xs => by simp [mts], fun c ks vs => by simp [mtd], fun c x => by simp [mto], fun c x => by simp [mtc], fun c x t => by simp [mtw]⟩ pe (fun {X c W x} ok h => pt_of (pe ok h) ?_) (fun ok h => by simp [mt] at h)
  cases x <;> first | (exact fun _ => rfl) | (simp [mt] at h; done)
end
end Ev

/-! ## EvSnd8 -/
/-! EvSnd8: comprehensions. -/
namespace Ev
open PySem PySem.Spec PyProof.Rows L2
section
variable {G : Md} {φ φ1 : Ph} {H H1 : Hp} {A : AH}
theorem Ext.own {p : Addr} {ho : HO} (x : Ext φ1 H1 φ H) (hp : H1 p = none) : Ext φ1 H1 φ (upd H p ho) :=
  ⟨x.pre, fun a o e n => by rw [upd_ne (ne_of_none e hp)]; exact x.keep a o e n, x.new, fun a o u e => by rw [upd_ne (ne_of_none e hp)]; exact x.frz a o u e⟩
theorem Ext.addp {p : Addr} (x : Ext φ1 H1 φ H) (hp : H1 p = none) : Ext φ1 H1 (φ ++ [p]) H := by
  obtain ⟨m, e⟩ := x.pre
  refine ⟨⟨m ++ [p], by rw [e, List.append_assoc]⟩, x.keep, fun a h n => ?_, x.frz⟩
  rcases List.mem_append.mp h with h | h
  · exact x.new a h n
  · rw [List.mem_singleton.mp h]; exact hp
/-- what stands and is none of the evaluator's stays so -/
theorem Ext.held {p : Addr} {o : HO} (x : Ext φ1 H1 φ H) (hp : H1 p = some o) (np : p ∉ φ1) : H p = some o ∧ p ∉ φ :=
  ⟨x.keep p o hp np, fun h => by have := x.new p h np; rw [hp] at this; cases this⟩
theorem HR.setM (h : HR G φ H A) {n : Nat} {a : Addr} {o : AO} {ho hq : HO} (hn : φ[n]? = some a) (hq' : H a = some hq) (ns : ¬ Still hq) (r : ORep G φ H o ho) : HR G φ (upd H a ho) (A.set n o) := by
  have x : Mono φ H φ (upd H a ho) := Mono.own hq' ns
  refine ⟨by simp [h.len], h.inj, fun m b ob e1 e2 => ?_⟩
  by_cases hm : m = n
  · subst hm
    rw [hn] at e1; cases e1
    have hl : m < A.length := by rw [← h.len]; exact (List.getElem?_eq_some_iff.mp hn).1
    rw [List.getElem?_set_self hl] at e2
    cases e2
    exact ⟨ho, upd_same, r.mono x⟩
  · rw [List.getElem?_set_ne (Ne.symm hm)] at e2
    obtain ⟨ho', e3, r'⟩ := h.at_ m b ob e1 e2
    refine ⟨ho', ?_, r'.mono x⟩
    rw [upd_ne (show b ≠ a from fun q => hm (h.inj m n a (by rw [← q]; exact e1) hn))]; exact e3
theorem Ext.unlock {a : Addr} {o : Obj} {u v : HO} (x : Ext φ1 (upd H1 a v) φ H) (ha : a ∈ φ1) (nf : NF H1 a) : Ext φ1 H1 φ (upd H a u) := by
  refine ⟨x.pre, fun b ob e n => ?_, fun b h n => ?_, fun b ob w e => ?_⟩
  · have hne : b ≠ a := fun z => n (by rw [z]; exact ha)
    rw [upd_ne hne]
    exact x.keep b ob (by rw [upd_ne hne]; exact e) n
  · have := x.new b h n
    have hne : b ≠ a := fun z => n (by rw [z]; exact ha)
    rw [upd_ne hne] at this
    exact this
  · have hne : b ≠ a := fun z => nf ob w (by rw [← z]; exact e)
    rw [upd_ne hne]
    exact x.frz b ob w (by rw [upd_ne hne]; exact e)
theorem upd_self {p : Addr} {o : HO} (h : H p = some o) : upd H p o = H := by
  funext a
  by_cases e : a = p
  · subst e; rw [upd_same, h]
  · rw [upd_ne e]
end
theorem bnd_assoc {α β γ : Type} {r : Res α} {f : α → AH → Res β} {g : β → AH → Res γ} : bnd (bnd r f) g = bnd r fun a A => bnd (f a A) g := by
  cases r <;> rfl
abbrev WT : Value → Option Addr → Hp → Prop := fun _ _ _ => True
theorem okG.nox {G : Md} {α β : Type} {φ φ1 : Ph} {H H1 : Hp} {W W' : Value → Option Addr → Hp → Prop} {P : β → AH → Ph → Hp → Prop} {r : Res α} {f : α → AH → Res β} (h : okG G φ H W P (Ev.bnd (Ev.nox r) f)) :
    okG G φ1 H1 W' (fun a A _ _ => okG G φ H W P (f a A)) r := by
  cases r with
  | ok a A => exact fun φ' H' e _ => h
  | exc y A => exact h.elim
  | no => exact h.elim
theorem okG.unl {G : Md} {α : Type} {φ φ1 : Ph} {H H1 : Hp} {W : Value → Option Addr → Hp → Prop} {P : α → AH → Ph → Hp → Prop} {r : Res α} {l : Option Nat} (h : okG G φ H W P (unlR l r)) :
    okG G φ1 H1 WT (fun a A _ _ => okG G φ H W P (.ok a (unlockA A l))) r := by
  cases r with
  | ok a A => cases l <;> exact fun φ' H' e _ => h
  | exc y A => exact fun _ _ _ _ _ _ _ => trivial
  | no => cases l <;> exact h
abbrev WF : WX := fun _ _ _ _ => False
def Unl (X : Cx) (Q : VK) : VK := fun v H' => Q v H' ∨ ∃ a o u, H' a = some (.frz o u) ∧ (∀ o' u', X.H_0 a ≠ some (.frz o' u')) ∧ Q v (upd H' a u)
theorem pe_unl {X : Cx} {x : Expr} {t : TE} (h : PE X x t) : PE X x (fun σ H Q => t σ H (Unl X Q)) := by
  refine ⟨fun pins s σ H Q I q => ?_⟩
  refine thn (h.run pins s σ H _ I q) fun v s1 ⟨x, H1, I1, r1, z⟩ => ?_
  rcases z with z | ⟨a, o, u, e, n, z⟩
  · exact ⟨x, H1, I1, r1, z⟩
  · exact ⟨x, _, I1.unlock e n, r1, z⟩
/-- the end of a walk: the lock is opened -/
theorem unl_end {G : Md} {φ1 φ : Ph} {H0 H1 H2 H : Hp} {A A0 : AH} {w : Wk} {W : Value → Option Addr → Hp → Prop} {α : Type} {b : α} {P : α → AH → Ph → Hp → Prop} (hr1 : HR G φ1 H1 A0)
    (c1 : w.lock = none → H2 = H1) (c2 : ∀ n, w.lock = some n → ∃ a o ks, φ1[n]? = some a ∧ H1 a = some (.dK ks) ∧ H2 = upd H1 a (.frz o (.dK ks)) ∧ ∀ o' u', H0 a ≠ some (.frz o' u'))
    (x : Ext φ1 H2 φ H) (hr : HR G φ H A) (q : okG G φ1 H1 W P (.ok b (unlockA A w.lock))) :
    (w.lock = none ∧ P b A φ H) ∨ ∃ a o u n kvs, w.lock = some n ∧ H a = some (.frz o u) ∧ (∀ o' u', H0 a ≠ some (.frz o' u')) ∧ a ∈ φ ∧ ¬ Still (.frz o u) ∧ HR G φ (upd H a u) (A.set n (.dct kvs)) ∧ Mono φ H φ (upd H a u) ∧ P b (A.set n (.dct kvs)) φ (upd H a u) := by
  cases e : w.lock with
  | none =>
    rw [e] at q
    rw [c1 e] at x
    exact .inl ⟨rfl, q φ H x hr⟩
  | some n =>
    obtain ⟨a, o, ks, ea, hH, rfl, nf⟩ := c2 n e
    have hf : H a = some (.frz o (.dK ks)) := x.frz _ _ _ upd_same
    obtain ⟨kvs, hA⟩ : ∃ kvs, A[n]? = some (.lk kvs) := by
      have hn : n < A.length := by rw [← hr.len]; exact (List.getElem?_eq_some_iff.mp (x.get ea)).1
      obtain ⟨ho, e3, r⟩ := hr.at_ n a _ (x.get ea) (List.getElem?_eq_getElem hn)
      rw [hf] at e3
      cases e3
      cases ho : A[n] with
      | lst ds => rw [ho] at r; obtain ⟨vs, z, _⟩ := r; cases z
      | dct ds => rw [ho] at r; obtain ⟨vs, z, _⟩ := r; cases z
      | lk kvs => exact ⟨kvs, by rw [List.getElem?_eq_getElem hn, ho]⟩
      | ins c fs => rw [ho] at r; obtain ⟨_, _, _, z, _⟩ := r; cases z
    obtain ⟨ho, e3, o', ks', rfl, rk⟩ := hr.at_ n a _ (x.get ea) hA
    rw [hf] at e3
    cases e3
    have ma : a ∈ φ := List.mem_of_getElem? (x.get ea)
    have h2 : HR G φ (upd H a (.dK ks)) (A.set n (.dct kvs)) := hr.setM (x.get ea) hf (fun z => z) ⟨ks, rfl, rk⟩
    have hu : unlockA A w.lock = A.set n (.dct kvs) := by
      rw [e]
      show (match A[n]? with | some (.lk kvs) => A.set n (.dct kvs) | _ => A) = _
      rw [hA]
    rw [hu] at q
    exact .inr ⟨a, o, _, n, kvs, rfl, hf, nf, ma, fun z => z, h2, Mono.own hf (fun z => z), q φ _ (x.unlock (o := o) (List.mem_of_getElem? ea) (.dK hH)) h2⟩
theorem gOk_mem {A : AH} {g : Guard} (h : gOk A g = true) {n : Nat} {o : AO} (m : (n, o) ∈ g) : A[n]? = some o := by
  have := List.all_eq_true.mp h _ m
  simpa using this
/-- a walk with a lock guards it -/
def WkLk (w : Wk) : Prop := ∀ n, w.lock = some n → ∃ kvs, (n, AO.lk kvs) ∈ w.g
section
variable {cl : Cl}
abbrev finL : List D → AH → Res D := fun ds A2 => .ok (.ref A2.length) (A2 ++ [.lst ds])
abbrev finK : List (D × D) → AH → Res D := fun ds A2 => .ok (.ref A2.length) (A2 ++ [.dct ds])
/-- the loop of a list comprehension -/
theorem lc_read {X : Cx} {W : WX} {t : Tg} {it cd e : Ex} {own : List Nat} {σ : L2.St} {H : Hp} {Q : VK} (ht : ∀ i ∈ tgSlots t, i ∈ own) (hlk : ∀ F A w A', evw cl it F A = .ok w A' → WkLk w)
    (h : tE (Gd X) cl W (.lc t it cd e own) σ H Q) : tLc (iW X cl W it) (gE (Gd X) t) (tCd (Gd X) cl WF cd) (tE (Gd X) cl WF e) own σ H (Unl X Q) := by
  obtain ⟨φ, F, A, hr, fr, q⟩ := h
  refine ⟨φ, F, A, hr, fr, (okG.bnd (α := Wk) (r := evw cl it F A) q).imp' fun w A1 φ1 H1 ew e1 hr1 q1 H2 J c1 c2 hr2 wk La hD => ?_⟩
  have wlk := hlk _ _ _ _ ew
  have x2 : Ext φ1 H1 φ1 H2 := by
    cases el : w.lock with
    | none => rw [c1 el]; exact .refl
    | some n =>
      obtain ⟨a, o, ks, ea, hH, rfl, _⟩ := c2 n el
      exact Ext.set (List.mem_of_getElem? ea) (.dK hH)
  generalize hbody : (fun F' A' => Ev.nox (bnd (evc cl cd F' A') fun b A2 => if b = true then bnd (ev cl e F' A2) fun y A3 => .ok (some y) A3 else .ok none A2)) = body at q1
  generalize hP2 : (fun (d : D) A' (_ : Ph) (_ : Hp) => okG (Gd X) φ1 H1 (fun c d H' => W c d σ H') (pV (Gd X) Q) (.ok d (unlockA A' w.lock))) = P2
  have q2 : okG (Gd X) φ1 H2 WT P2 (bnd (lcL (asgT t) w.g body (wipeF F own) w.items [] (lockA A1 w.lock)) finL) := by
    rw [← hP2]
    exact okG.unl q1
  have np0 : La ∉ φ1 := hr2.notMemN hD
  have fr2 : FR (Gd X) φ1 H2 (wipeF F own) (L2.wipe σ own) := ((fr.ext hr e1).ext hr1 x2).wipe own
  refine ⟨fun i m H => m = w.items.length - i ∧ i ≤ w.items.length ∧ ∃ φ A acc vs, Ext φ1 H2 φ H ∧ HR (Gd X) φ H A ∧ La ∉ φ ∧ H La = some (.lst vs) ∧ Reps (Gd X) φ H acc vs ∧ FR (Gd X) φ H (wipeF F own) (L2.wipe σ own) ∧
    okG (Gd X) φ1 H2 WT P2 (bnd (lcL (asgT t) w.g body (wipeF F own) (w.items.drop i) acc A) finL),
    ⟨_, rfl, Nat.zero_le _, φ1, _, [], [], Ext.beside hD, hr2.beside hD, np0, upd_same, rfl, fr2.ext hr2 (Ext.beside hD), q2⟩, ?_⟩
  rintro i m H3 ⟨rfl, hi, φ3, A3, acc, vs, x3, hr3, np3, hD3, rs3, fr3, q3⟩
  have hlk : gOk A3 w.g = true := by
    cases hg : gOk A3 w.g with
    | true => rfl
    | false =>
      exfalso
      cases hd : w.items.drop i with
      | nil => rw [hd] at q3; unfold lcL at q3; rw [if_neg (by rw [hg]; exact Bool.false_ne_true)] at q3; exact q3
      | cons d r => rw [hd] at q3; unfold lcL at q3; rw [if_neg (by rw [hg]; exact Bool.false_ne_true)] at q3; exact q3
  by_cases hlt : i < w.items.length
  · have hd : w.items.drop i = w.items[i] :: w.items.drop (i + 1) := List.drop_eq_getElem_cons hlt
    obtain ⟨go, yld⟩ := wk.step φ3 H3 A3 i _ x3 hr3 hlk (List.getElem?_eq_getElem hlt)
    refine .inr ⟨go, fun H4 => ∃ φ4 A4 acc4 vs4, Ext φ1 H2 φ4 H4 ∧ HR (Gd X) φ4 H4 A4 ∧ La ∉ φ4 ∧ H4 La = some (.lst vs4) ∧ Reps (Gd X) φ4 H4 acc4 vs4 ∧ FR (Gd X) φ4 H4 (wipeF F own) (L2.wipe σ own) ∧
      okG (Gd X) φ1 H2 WT P2 (bnd (lcL (asgT t) w.g body (wipeF F own) (w.items.drop (i + 1)) acc4 A4) finL),
      fun H' z => ⟨_, by omega, rfl, hlt, z⟩, fun x H4 hy => ?_⟩
    obtain ⟨x4, hr4, rx⟩ := yld x H4 hy
    rw [hd] at q3
    unfold lcL at q3
    rw [if_pos hlk] at q3
    split at q3
    · rename_i F' ha
      rw [← hbody] at q3
      simp only [bnd_assoc] at q3
      rw [hbody] at q3
      refine ⟨φ3, _, A3, _, F', hr4, fr3.ext hr3 x4, rx, ha, fun σ' frσ ag => ⟨wipe_agree ag ht, ?_⟩⟩
      have q4 := okG.nox (φ1 := φ3) (H1 := H4) (W' := fun c d H' => WF c d σ' H') q3
      refine ⟨φ3, F', A3, hr4, frσ, q4.bnd.imp fun b A5 φ5 H5 e5 hr5 q5 => ?_⟩
      have x5 : Ext φ1 H2 φ5 H5 := (x3.trans x4).trans e5
      have x35 : Ext φ3 H3 φ5 H5 := x4.trans e5
      obtain ⟨hD5, np5⟩ := x35.held hD3 np3
      cases b with
      | false =>
        have q5 := q5 φ5 H5 .refl hr5
        exact ⟨φ5, A5, acc, vs, x5, hr5, np5, hD5, rs3.ext hr3 x35, fr3.ext hr3 x35, q5⟩
      | true =>
        refine ⟨φ5, F', A5, hr5, frσ.ext hr4 e5, (okG.bnd q5).imp fun y A6 φ6 H6 e6 hr6 q6 v rv => ?_⟩
        have q6 := q6 φ6 H6 .refl hr6
        have x6 : Ext φ1 H2 φ6 H6 := x5.trans e6
        have x36 : Ext φ3 H3 φ6 H6 := x35.trans e6
        obtain ⟨hD6, np6⟩ := x36.held hD3 np3
        have rs6 := rs3.ext hr3 x36
        by_cases hz : acc.length < sizeLine
        · simp only [if_pos hz] at q6
          have mo : Mono φ6 H6 φ6 (upd H6 La (.lst (vs ++ [v]))) := Mono.own hD6 (fun z => z)
          exact ⟨vs, hD6, by rw [rs6.length]; exact hz, φ6, A6, acc ++ [y], vs ++ [v], x6.own hD, hr6.own hD6 (fun z => z) np6, np6, upd_same, Reps.mono mo _ _ (rs6.append (.cons rv .nil)), (fr3.ext hr3 x36).mono mo, q6⟩
        · simp only [if_neg hz] at q6; exact q6.elim
    · exact q3.elim
  · have hi' : i = w.items.length := by omega
    subst hi'
    refine .inl ⟨wk.stop φ3 H3 A3 x3 hr3 hlk, ?_⟩
    rw [List.drop_length] at q3
    unfold lcL at q3
    rw [if_pos hlk] at q3
    have hrF : HR (Gd X) (φ3 ++ [La]) H3 (A3 ++ [.lst acc]) := by
      have := hr3.lay (o := .lst acc) (ho := .lst vs) hD3 (fun z => z) np3 ⟨vs, rfl, rs3⟩
      rw [upd_self hD3] at this
      exact this
    have xF : Ext φ1 H2 (φ3 ++ [La]) H3 := x3.addp hD
    have q4 := q3 (φ3 ++ [La]) H3 xF hrF
    rw [← hP2] at q4
    have hDn : (φ3 ++ [La])[A3.length]? = some La := by rw [← hr3.len]; simp
    rcases unl_end (w := w) hr1 c1 c2 xF hrF q4 with ⟨_, z⟩ | ⟨a, o, u, n, kvs, en, hf, nf, ma, ns, h2, mo, z⟩
    · exact .inl (z (.ref La) ⟨La, hDn, rfl⟩)
    · exact .inr ⟨a, o, u, hf, nf, z (.ref La) ⟨La, hDn, rfl⟩⟩
/-- the loop of a dict comprehension -/
theorem dc_read {X : Cx} {W : WX} {t : Tg} {it cd ek e : Ex} {own : List Nat} {σ : L2.St} {H : Hp} {Q : VK} (ht : ∀ i ∈ tgSlots t, i ∈ own) (hlk : ∀ F A w A', evw cl it F A = .ok w A' → WkLk w)
    (h : tE (Gd X) cl W (.dc t it cd ek e own) σ H Q) : tDc (iW X cl W it) (gE (Gd X) t) (tCd (Gd X) cl WF cd) (tE (Gd X) cl WF ek) (tE (Gd X) cl WF e) own σ H (Unl X Q) := by
  obtain ⟨φ, F, A, hr, fr, q⟩ := h
  refine ⟨φ, F, A, hr, fr, (okG.bnd (α := Wk) (r := evw cl it F A) q).imp' fun w A1 φ1 H1 ew e1 hr1 q1 H2 J c1 c2 hr2 wk La hD => ?_⟩
  have wlk := hlk _ _ _ _ ew
  have x2 : Ext φ1 H1 φ1 H2 := by
    cases el : w.lock with
    | none => rw [c1 el]; exact .refl
    | some n =>
      obtain ⟨a, o, ks, ea, hH, rfl, _⟩ := c2 n el
      exact Ext.set (List.mem_of_getElem? ea) (.dK hH)
  generalize hbody : (fun F' A' => Ev.nox (bnd (evc cl cd F' A') fun b A2 => if b = true then bnd (ev cl ek F' A2) fun x A3 => bnd (ev cl e F' A3) fun y A4 => .ok (some (x, y)) A4 else .ok none A2)) = body at q1
  generalize hP2 : (fun (d : D) A' (_ : Ph) (_ : Hp) => okG (Gd X) φ1 H1 (fun c d H' => W c d σ H') (pV (Gd X) Q) (.ok d (unlockA A' w.lock))) = P2
  have q2 : okG (Gd X) φ1 H2 WT P2 (bnd (dcL (asgT t) w.g body (wipeF F own) w.items [] (lockA A1 w.lock)) finK) := by
    rw [← hP2]
    exact okG.unl q1
  have np0 : La ∉ φ1 := hr2.notMemN hD
  have fr2 : FR (Gd X) φ1 H2 (wipeF F own) (L2.wipe σ own) := ((fr.ext hr e1).ext hr1 x2).wipe own
  refine ⟨fun i m H => m = w.items.length - i ∧ i ≤ w.items.length ∧ ∃ φ A acc vs, Ext φ1 H2 φ H ∧ HR (Gd X) φ H A ∧ La ∉ φ ∧ H La = some (.dK vs) ∧ KReps (Gd X) φ H acc vs ∧ FR (Gd X) φ H (wipeF F own) (L2.wipe σ own) ∧
    okG (Gd X) φ1 H2 WT P2 (bnd (dcL (asgT t) w.g body (wipeF F own) (w.items.drop i) acc A) finK),
    ⟨_, rfl, Nat.zero_le _, φ1, _, [], [], Ext.beside hD, hr2.beside hD, np0, upd_same, rfl, fr2.ext hr2 (Ext.beside hD), q2⟩, ?_⟩
  rintro i m H3 ⟨rfl, hi, φ3, A3, acc, vs, x3, hr3, np3, hD3, rs3, fr3, q3⟩
  have hlk : gOk A3 w.g = true := by
    cases hg : gOk A3 w.g with
    | true => rfl
    | false =>
      exfalso
      cases hd : w.items.drop i with
      | nil => rw [hd] at q3; unfold dcL at q3; rw [if_neg (by rw [hg]; exact Bool.false_ne_true)] at q3; exact q3
      | cons d r => rw [hd] at q3; unfold dcL at q3; rw [if_neg (by rw [hg]; exact Bool.false_ne_true)] at q3; exact q3
  by_cases hlt : i < w.items.length
  · have hd : w.items.drop i = w.items[i] :: w.items.drop (i + 1) := List.drop_eq_getElem_cons hlt
    obtain ⟨go, yld⟩ := wk.step φ3 H3 A3 i _ x3 hr3 hlk (List.getElem?_eq_getElem hlt)
    refine .inr ⟨go, fun H4 => ∃ φ4 A4 acc4 vs4, Ext φ1 H2 φ4 H4 ∧ HR (Gd X) φ4 H4 A4 ∧ La ∉ φ4 ∧ H4 La = some (.dK vs4) ∧ KReps (Gd X) φ4 H4 acc4 vs4 ∧ FR (Gd X) φ4 H4 (wipeF F own) (L2.wipe σ own) ∧
      okG (Gd X) φ1 H2 WT P2 (bnd (dcL (asgT t) w.g body (wipeF F own) (w.items.drop (i + 1)) acc4 A4) finK),
      fun H' z => ⟨_, by omega, rfl, hlt, z⟩, fun x H4 hy => ?_⟩
    obtain ⟨x4, hr4, rx⟩ := yld x H4 hy
    rw [hd] at q3
    unfold dcL at q3
    rw [if_pos hlk] at q3
    split at q3
    · rename_i F' ha
      rw [← hbody] at q3
      simp only [bnd_assoc] at q3
      rw [hbody] at q3
      refine ⟨φ3, _, A3, _, F', hr4, fr3.ext hr3 x4, rx, ha, fun σ' frσ ag => ⟨wipe_agree ag ht, ?_⟩⟩
      have q4 := okG.nox (φ1 := φ3) (H1 := H4) (W' := fun c d H' => WF c d σ' H') q3
      refine ⟨φ3, F', A3, hr4, frσ, q4.bnd.imp fun b A5 φ5 H5 e5 hr5 q5 => ?_⟩
      have x5 : Ext φ1 H2 φ5 H5 := (x3.trans x4).trans e5
      have x35 : Ext φ3 H3 φ5 H5 := x4.trans e5
      obtain ⟨hD5, np5⟩ := x35.held hD3 np3
      cases b with
      | false =>
        have q5 := q5 φ5 H5 .refl hr5
        exact ⟨φ5, A5, acc, vs, x5, hr5, np5, hD5, rs3.ext hr3 x35, fr3.ext hr3 x35, q5⟩
      | true =>
        refine ⟨φ5, F', A5, hr5, frσ.ext hr4 e5, (okG.bnd q5).imp fun y A6 φ6 H6 e6 hr6 q6 v rv => ?_⟩
        refine ⟨φ6, F', A6, hr6, (frσ.ext hr4 e5).ext hr5 e6, (okG.bnd q6).imp fun y2 A7 φ7 H7 e7 hr7 q7 v2 rv2 => ?_⟩
        have q7 := q7 φ7 H7 .refl hr7
        have x7 : Ext φ1 H2 φ7 H7 := (x5.trans e6).trans e7
        have x37 : Ext φ3 H3 φ7 H7 := (x35.trans e6).trans e7
        obtain ⟨hD7, np7⟩ := x37.held hD3 np3
        have rs7 := rs3.ext hr3 x37
        by_cases hz : (decide (acc.length < sizeLine) && keyOk y) = true
        · simp only [if_pos hz] at q7
          simp only [Bool.and_eq_true, decide_eq_true_eq] at hz
          obtain ⟨j, rfl, kr⟩ := KR.key hz.2 rv
          have mo : Mono φ7 H7 φ7 (upd H7 La (.dK (putK vs j v2))) := Mono.own hD7 (fun z => z)
          exact ⟨vs, j, rfl, hD7, by rw [rs7.length]; exact hz.1, φ7, A7, dput acc y y2, putK vs j v2, x7.own hD, hr7.own hD7 (fun z => z) np7, np7, upd_same, KReps.mono mo _ _ (rs7.put kr rv2), (fr3.ext hr3 x37).mono mo, q7⟩
        · simp only [if_neg hz] at q7; exact q7.elim
    · exact q3.elim
  · have hi' : i = w.items.length := by omega
    subst hi'
    refine .inl ⟨wk.stop φ3 H3 A3 x3 hr3 hlk, ?_⟩
    rw [List.drop_length] at q3
    unfold dcL at q3
    rw [if_pos hlk] at q3
    have hrF : HR (Gd X) (φ3 ++ [La]) H3 (A3 ++ [.dct acc]) := by
      have := hr3.lay (o := .dct acc) (ho := .dK vs) hD3 (fun z => z) np3 ⟨vs, rfl, rs3⟩
      rw [upd_self hD3] at this
      exact this
    have xF : Ext φ1 H2 (φ3 ++ [La]) H3 := x3.addp hD
    have q4 := q3 (φ3 ++ [La]) H3 xF hrF
    rw [← hP2] at q4
    have hDn : (φ3 ++ [La])[A3.length]? = some La := by rw [← hr3.len]; simp
    rcases unl_end (w := w) hr1 c1 c2 xF hrF q4 with ⟨_, z⟩ | ⟨a, o, u, n, kvs, en, hf, nf, ma, ns, h2, mo, z⟩
    · exact .inl (z (.ref La) ⟨La, hDn, rfl⟩)
    · exact .inr ⟨a, o, u, hf, nf, z (.ref La) ⟨La, hDn, rfl⟩⟩

/-! ### comprehensions -/
theorem CtxOk.blk {X : Cx} {c : SC} {W : WX} {scope : Scope} {own : List (Str × Nat)} (ok : CtxOk X c cl W) (hb : BlkOk X.N X.env.scope scope own) (s : Shared) (H : Hp) (C : Addr) (clo : List (Str × Addr)) (fp : List Addr) :
    CtxOk (X.blk s H scope (compEnvC scope clo C X.env) fp) (c.blk scope) cl WF where
  N := ok.N
  nd := ok.nd
  sc := by
    show relS scope X.env.scope = relS scope c.sc
    rw [ok.sc]
  calm := ok.calm
  kd := hb.kind
  hu := ok.hu
  tk := fun u s' ⟨_, _, _, _, _, _, _, _, _, _, _, _, _, _, _, _, w⟩ => w
  ps := PassesOwn.never
  fb := ok.fb
  bn := ok.bn
  sto := fun x hx => by
    obtain ⟨y, hy, rfl⟩ := List.mem_map.mp (show x ∈ (scope.names.filter fun y => y.2 == .local || y.2 == .cell).map (·.1) from hx)
    obtain ⟨h1, h2⟩ := List.mem_filter.mp hy
    have h3 := hb.uniq y h1
    simp only [Bool.or_eq_true, beq_iff_eq] at h2
    rcases h2 with h2 | h2
    · rw [h2] at h3
      have := lookup_relS_keep (sc := X.env.scope) (by decide) h3
      exact ⟨.inl this, .inr this⟩
    · rw [h2] at h3
      have := lookup_relS_keep (sc := X.env.scope) (by decide) h3
      refine ⟨.inr this, .inl ?_⟩
      show (scope.names.lookup y.1 == some NameKind.cell) = true
      rw [h3]; rfl
  calls := ok.calls
  csts := ok.csts
  mks := ok.mks
  meths := ok.meths
  tab := ok.tab
  rm := ok.rm
theorem evw_lk {it : Ex} {F : Fr} {A A' : AH} {w : Wk} (h : evw cl it F A = .ok w A') : WkLk w := by
  have go : ∀ {A : AH} {d : D} {w : Wk}, wkOf A d = some w → WkLk w := fun {A d w} h n hn => by
    unfold wkOf at h
    split at h
    · cases h; cases hn
    · cases h; cases hn
    · split at h
      · cases h; cases hn
      · cases h; cases hn; exact ⟨_, List.mem_singleton.mpr rfl⟩
      · cases h
    · cases h
  have nn : ∀ {w : Wk}, w.lock = none → WkLk w := fun h n hn => by rw [h] at hn; cases hn
  cases it <;> first | (cases h; done) | skip
  · rename_i e
    have h : (bnd (ev cl e F A) fun x A1 => ofO (wkOf A1 x) A1) = .ok w A' := h
    cases e1 : ev cl e F A with
    | ok x A1 =>
      rw [e1] at h
      have h : ofO (wkOf A1 x) A1 = .ok w A' := h
      cases e2 : wkOf A1 x with
      | some w' => rw [e2] at h; cases h; exact go e2
      | none => rw [e2] at h; cases h
    | exc => rw [e1] at h; cases h
    | no => rw [e1] at h; cases h
  · rename_i e
    have h : (bnd (ev cl e F A) fun x A1 => ofO (wkEnum A1 x) A1) = .ok w A' := h
    cases e1 : ev cl e F A with
    | ok x A1 =>
      rw [e1] at h
      have h : ofO (wkEnum A1 x) A1 = .ok w A' := h
      cases e2 : wkEnum A1 x with
      | some w' => rw [e2] at h; cases h; obtain ⟨u, _, _, rfl⟩ := wk_none (xs := []) (g := []) e2; exact nn rfl
      | none => rw [e2] at h; cases h
    | exc => rw [e1] at h; cases h
    | no => rw [e1] at h; cases h
  · rename_i e e'
    have h : (bnd (ev cl e F A) fun x A1 => bnd (ev cl e' F A1) fun y A2 => ofO (wkZip A2 x y) A2) = .ok w A' := h
    cases e1 : ev cl e F A with
    | ok x A1 =>
      rw [e1] at h
      have h : (bnd (ev cl e' F A1) fun y A2 => ofO (wkZip A2 x y) A2) = .ok w A' := h
      cases e3 : ev cl e' F A1 with
      | ok y A2 =>
        rw [e3] at h
        have h : ofO (wkZip A2 x y) A2 = .ok w A' := h
        cases e2 : wkZip A2 x y with
        | some w' => rw [e2] at h; cases h; obtain ⟨u, v, _, _, _, _, rfl⟩ := wk_none2 e2; exact nn rfl
        | none => rw [e2] at h; cases h
      | exc => rw [e3] at h; cases h
      | no => rw [e3] at h; cases h
    | exc => rw [e1] at h; cases h
    | no => rw [e1] at h; cases h
  · rename_i es
    have h : (bnd (evs cl es F A) fun ds A1 => ofO (wkRng ds) A1) = .ok w A' := h
    cases e1 : evs cl es F A with
    | ok ds A1 =>
      rw [e1] at h
      have h : ofO (wkRng ds) A1 = .ok w A' := h
      cases e2 : wkRng ds with
      | some w' =>
        rw [e2] at h; cases h
        unfold wkRng at e2
        split at e2 <;> first | (cases e2; done) | skip
        all_goals
          split at e2
          · cases e2; exact nn rfl
          · cases e2
      | none => rw [e2] at h; cases h
    | exc => rw [e1] at h; cases h
    | no => rw [e1] at h; cases h
theorem mtw_plain {it : Ex} {c : SC} {x tg : Expr} (h : mtw it c x tg = true) : plainB x = true := by
  cases it <;> first | (simp [mtw] at h; done) | skip
  · exact mt_plain (show mt _ c x = true from h)
  all_goals
    cases x <;> first | rfl | (simp [mtw] at h; done)
theorem se_lc {t : Tg} {it cd e : Ex} {own : List Nat} (ihi : SE cl it) (ihc : SE cl cd) (ihe : SE cl e) : SE cl (.lc t it cd e own) := by
  have pe : ∀ {X : Cx} {c : SC} {W : WX} {x : Expr}, CtxOk X c cl W → mt (.lc t it cd e own) c x = true → PE X x (tE (Gd X) cl W (.lc t it cd e own)) := fun {X c W x} ok h => by
    cases x with
    | ListComp l gs scope pos =>
      rcases gs with _ | ⟨⟨tg, iter, ifs, k⟩, _ | _⟩ <;> first | (simp [mt] at h; done) | skip
      have h : (decide (k = 0) && blkC c.N c.sc scope (ownB c.N own) && decide ((ownB c.N own).map (·.2) = own) && (tgSlots t).all own.contains && mtw it c iter tg && mtt t (c.blk scope) tg && mtc cd (c.blk scope) ifs && mt e (c.blk scope) l) = true := h
      simp only [Bool.and_eq_true, decide_eq_true_eq] at h
      obtain ⟨⟨⟨⟨⟨⟨⟨rfl, hb⟩, ho⟩, ht⟩, h1⟩, h2⟩, h3⟩, h4⟩ := h
      have hb : BlkOk X.N X.env.scope scope (ownB c.N own) := blkOk_by (by rw [ok.N, ok.sc]; exact hb)
      have ht : ∀ i ∈ tgSlots t, i ∈ own := fun i hi => by simpa using List.all_eq_true.mp ht i hi
      refine pe_imp (pe_unl (pe_lc (g := gE (Gd X) t) (tt := tCd (Gd X) cl WF cd) (te := tE (Gd X) cl WF e) ok.calm (by rw [ok.N]; exact ok.nd) (ihi.pi ok h1) hb (fun s H C clo fp => pg_of (ok.blk hb s H C clo fp) h2) (fun s H C clo fp => ihc.pc (ok.blk hb s H C clo fp) h3) (fun s H C clo fp => ihe.pe (ok.blk hb s H C clo fp) h4) ?_)) fun σ H Q q => ?_
      · exact fun x => folded_plain (mtw_plain h1)
      · rw [ho]
        exact lc_read ht (fun F A w A' h => evw_lk h) q
    | _ => simp [mt] at h
  refine SE.of ⟨fun c xs => by simp [mts], fun c ks vs => by simp [mtd], fun c x => by simp [mto], fun c x => by simp [mtc], fun c x t => by simp [mtw]⟩ pe (fun {X c W x} ok h => pt_of (pe ok h) ?_) (fun ok h => by simp [mt] at h)
  cases x <;> first | (exact fun _ => rfl) | (simp [mt] at h; done)
theorem se_dc {t : Tg} {it cd ek e : Ex} {own : List Nat} (ihi : SE cl it) (ihc : SE cl cd) (ihk : SE cl ek) (ihe : SE cl e) : SE cl (.dc t it cd ek e own) := by
  have pe : ∀ {X : Cx} {c : SC} {W : WX} {x : Expr}, CtxOk X c cl W → mt (.dc t it cd ek e own) c x = true → PE X x (tE (Gd X) cl W (.dc t it cd ek e own)) := fun {X c W x} ok h => by
    cases x with
    | DictComp kx l gs scope pos =>
      rcases gs with _ | ⟨⟨tg, iter, ifs, k⟩, _ | _⟩ <;> first | (simp [mt] at h; done) | skip
      have h : (decide (k = 0) && blkC c.N c.sc scope (ownB c.N own) && decide ((ownB c.N own).map (·.2) = own) && (tgSlots t).all own.contains && mtw it c iter tg && mtt t (c.blk scope) tg && mtc cd (c.blk scope) ifs && mt ek (c.blk scope) kx && mt e (c.blk scope) l) = true := h
      simp only [Bool.and_eq_true, decide_eq_true_eq] at h
      obtain ⟨⟨⟨⟨⟨⟨⟨⟨rfl, hb⟩, ho⟩, ht⟩, h1⟩, h2⟩, h3⟩, hk⟩, h4⟩ := h
      have hb : BlkOk X.N X.env.scope scope (ownB c.N own) := blkOk_by (by rw [ok.N, ok.sc]; exact hb)
      have ht : ∀ i ∈ tgSlots t, i ∈ own := fun i hi => by simpa using List.all_eq_true.mp ht i hi
      refine pe_imp (pe_unl (pe_dc (g := gE (Gd X) t) (tt := tCd (Gd X) cl WF cd) (tk := tE (Gd X) cl WF ek) (tv := tE (Gd X) cl WF e) ok.calm (by rw [ok.N]; exact ok.nd) (ihi.pi ok h1) hb (fun s H C clo fp => pg_of (ok.blk hb s H C clo fp) h2) (fun s H C clo fp => ihc.pc (ok.blk hb s H C clo fp) h3) (fun s H C clo fp => ihk.pe (ok.blk hb s H C clo fp) hk) (fun s H C clo fp => ihe.pe (ok.blk hb s H C clo fp) h4) ?_)) fun σ H Q q => ?_
      · exact fun x => folded_plain (mtw_plain h1)
      · rw [ho]
        exact dc_read ht (fun F A w A' h => evw_lk h) q
    | _ => simp [mt] at h
  refine SE.of ⟨fun c xs => by simp [mts], fun c ks vs => by simp [mtd], fun c x => by simp [mto], fun c x => by simp [mtc], fun c x t => by simp [mtw]⟩ pe (fun {X c W x} ok h => pt_of (pe ok h) ?_) (fun ok h => by simp [mt] at h)
  cases x <;> first | (exact fun _ => rfl) | (simp [mt] at h; done)

theorem se_both : ∀ e : Ex, SE cl e ∧ ∀ b s, e = .cons b s → SE cl b ∧ SE cl s
  | .var i => ⟨se_var i, fun _ _ h => by cases h⟩
  | .int i => ⟨se_int i, fun _ _ h => by cases h⟩
  | .str s => ⟨se_str s, fun _ _ h => by cases h⟩
  | .bl b => ⟨se_bl b, fun _ _ h => by cases h⟩
  | .non => ⟨se_non, fun _ _ h => by cases h⟩
  | .gl x => ⟨se_gl x, fun _ _ h => by cases h⟩
  | .cst x d => ⟨se_cst x d, fun _ _ h => by cases h⟩
  | .tup es => ⟨se_tup (se_both es).1, fun _ _ h => by cases h⟩
  | .lst es => ⟨se_lst (se_both es).1, fun _ _ h => by cases h⟩
  | .dct es => ⟨se_dct (se_both es).1, fun _ _ h => by cases h⟩
  | .nil => ⟨se_nil, fun _ _ h => by cases h⟩
  | .cons a r => ⟨se_cons (se_both a).1 (se_both r).1 (se_both r).2, fun b s h => by cases h; exact ⟨(se_both a).1, (se_both r).1⟩⟩
  | .op o a b => ⟨se_op o (se_both a).1 (se_both b).1, fun _ _ h => by cases h⟩
  | .neg a => ⟨se_neg (se_both a).1, fun _ _ h => by cases h⟩
  | .cmp o a b => ⟨se_cmp o (se_both a).1 (se_both b).1, fun _ _ h => by cases h⟩
  | .chn o p a b c => ⟨se_chn o p (se_both a).1 (se_both b).1 (se_both c).1, fun _ _ h => by cases h⟩
  | .and a b => ⟨se_and (se_both a).1 (se_both b).1, fun _ _ h => by cases h⟩
  | .or a b => ⟨se_or (se_both a).1 (se_both b).1, fun _ _ h => by cases h⟩
  | .not a => ⟨se_not (se_both a).1, fun _ _ h => by cases h⟩
  | .ite c a b => ⟨se_ite (se_both c).1 (se_both a).1 (se_both b).1, fun _ _ h => by cases h⟩
  | .ix a i => ⟨se_ix (se_both a).1 (se_both i).1, fun _ _ h => by cases h⟩
  | .sl a lo hi => ⟨se_sl (se_both a).1 (se_both lo).1 (se_both hi).1, fun _ _ h => by cases h⟩
  | .call f es => ⟨se_call f (se_both es).1, fun _ _ h => by cases h⟩
  | .bi f es => ⟨se_bi f (se_both es).1, fun _ _ h => by cases h⟩
  | .mth m o es => ⟨se_mth m (se_both o).1 (se_both es).1, fun _ _ h => by cases h⟩
  | .lc t it c e own => ⟨se_lc (se_both it).1 (se_both c).1 (se_both e).1, fun _ _ h => by cases h⟩
  | .dc t it c k v own => ⟨se_dc (se_both it).1 (se_both c).1 (se_both k).1 (se_both v).1, fun _ _ h => by cases h⟩
  | .fld a k f => ⟨se_fld k f (se_both a).1, fun _ _ h => by cases h⟩
  | .mk k f es => ⟨se_mk k f (se_both es).1, fun _ _ h => by cases h⟩
  | .mc k m f o es => ⟨se_mc k m f (se_both o).1 (se_both es).1, fun _ _ h => by cases h⟩
  | .wk e => ⟨se_wk (se_both e).1, fun _ _ h => by cases h⟩
  | .enm e => ⟨se_enm (se_both e).1, fun _ _ h => by cases h⟩
  | .zip a b => ⟨se_zip (se_both a).1 (se_both b).1, fun _ _ h => by cases h⟩
  | .rng es => ⟨se_rng (se_both es).1, fun _ _ h => by cases h⟩
theorem se_all (e : Ex) : SE cl e := (se_both e).1
end
end Ev

/-! ## EvSt -/
/-! EvSt: statements. -/
namespace Ev
open PySem PySem.Spec PyProof.Rows L2

def isComp : Expr → Bool
  | .ListComp _ _ _ _ => true
  | .SetComp _ _ _ _ => true
  | .DictComp _ _ _ _ _ => true
  | _ => false
def compScope : Expr → Option Scope
  | .ListComp _ _ s _ => some s
  | .SetComp _ _ s _ => some s
  | .DictComp _ _ _ s _ => some s
  | _ => none
/-- the value of a comprehension goes straight into the local name -/
def swB (sc : Scope) (n : Str) (py : Pos) (x : Expr) : Bool := match compScope x with
  | none => false
  | some s => decide (sc.names.lookup n = some .local) && (py.line == x.pos.line) && !(s.names.any fun (m, k) => m == n && (k == .local || k == .cell))
/-- two or three local names are stored from the right -/
def parB (sc : Scope) (tg x : Expr) : Bool := match tg, x with
  | .Tuple [.Name n p, .Name m q] _ _, .Tuple vs _ _ => (vs.length == 2) && decide (sc.names.lookup n = some .local) && decide (sc.names.lookup m = some .local) && (q.line == p.line) && decide (n ≠ m) && !(vs.all (foldedForSure 8)) && !(vs.all (constantsAlone 8))
  | .Tuple [.Name n p, .Name m q, .Name l r] _ _, .Tuple vs _ _ => (vs.length == 3) && decide (sc.names.lookup n = some .local) && decide (sc.names.lookup m = some .local) && decide (sc.names.lookup l = some .local) && (q.line == p.line) && (r.line == p.line) && decide (n ≠ m) && decide (n ≠ l) && decide (m ≠ l) && !(vs.all (foldedForSure 8)) && !(vs.all (constantsAlone 8))
  | _, _ => false
/-- constants alone: no stores from the right -/
def foldB : Expr → Bool
  | .Tuple vs _ _ => vs.all (foldedForSure 8)
  | _ => false
def isTupSm : Tg → Bool
  | .tu _ => true
  | _ => false
mutual
def mhe : HE → Option Str → Expr → Bool
  | .non, _, x => match x with
    | .Constant .none _ _ => true
    | _ => false
  | .bl b, _, x => match x with
    | .Constant (.bool d) _ _ => b == d
    | _ => false
  | .int i, _, x => match x with
    | .Constant (.int j) _ _ => decide (i = j)
    | _ => false
  | .str s, _, x => match x with
    | .Constant (.str z) _ _ => decide (z = Str.ofString s)
    | _ => false
  | .fld f, nm, x => match nm, x with
    | some n, .Attribute (.Name m _) g _ => decide (m = n) && decide (g = Str.ofString f) && (decide (f = "code") || decide (f = "path"))
    | _, _ => false
  | .tup es, nm, x => match x with
    | .Tuple xs _ _ => mhes es nm xs
    | _ => false
  | .nil, _, _ => false
  | .cons _ _, _, _ => false
def mhes : HE → Option Str → List Expr → Bool
  | .nil, _, xs => match xs with
    | [] => true
    | _ => false
  | .cons a r, nm, xs => match xs with
    | x :: xs => mhe a nm x && mhes r nm xs
    | _ => false
  | _, _, _ => false
end
/-- an except clause's suite -/
def mhd : Hd → SC → Option Str → List Stmt → Bool
  | .ret e, _, nm, sts => match sts with
    | [.Return (some x) _] => mhe e nm x
    | _ => false
  | .set j e, c, nm, sts => match sts with
    | [.Assign [.Name n _] x _] => decide (c.N[j]? = some n) && c.sto.contains n && mhe e nm x
    | _ => false
  | .cont, _, _, sts => match sts with
    | [.Continue _] => true
    | _ => false
  | .brk, _, _, sts => match sts with
    | [.Break _] => true
    | _ => false
  | .pas, _, _, sts => match sts with
    | [.Pass _] => true
    | _ => false
def inB : Option Nat → SC → Option Str → Bool
  | none, _, nm => match nm with
    | none => true
    | some _ => false
  | some i, c, nm => match nm with
    | some n => decide (c.N[i]? = some n) && decide (c.sc.names.lookup n = some .local) && decide ((n == ("__debug__" : Str)) = false) && decide ((n == ("__classdict__" : Str)) = false)
    | none => false
mutual
def mst : Sm → SC → Stmt → Bool
  | .skip, _, st => match st with
    | .Pass _ => true
    | _ => false
  | .ex e, c, st => match st with
    | .Expr x _ => mt e c x && !isComp x
    | _ => false
  | .set i e, c, st => match st with
    | .Assign [.Name n _] x _ => decide (c.N[i]? = some n) && c.sto.contains n && mt e c x
    | _ => false
  | .asg t e, c, st => match st with
    | .Assign [tg] x _ => isTupSm t && mtt t c tg && mt e c x && (!isTup x || (parB c.sc tg x || foldB x))
    | _ => false
  | .sub o i e, c, st => match st with
    | .Assign [.Subscript ox ix _] x _ => mt o c ox && mt i c ix && mt e c x
    | _ => false
  | .ret e, c, st => match st with
    | .Return (some x) _ => mt e c x
    | .Return none _ => (match e with
      | .non => true
      | _ => false)
    | _ => false
  | .ite k a b, c, st => match st with
    | .If t xs ys _ => mt k c t && mss a c xs && mss b c ys
    | _ => false
  | .for t it b, c, st => match st with
    | .For tg iter body [] _ => mtw it c iter tg && mtt t c tg && mss b c body
    | _ => false
  | .whl k b, c, st => match st with
    | .While t body [] _ => mt k c t && mss b c body
    | _ => false
  | .brk, _, st => match st with
    | .Break _ => true
    | _ => false
  | .cont, _, st => match st with
    | .Continue _ => true
    | _ => false
  | .fst o k f e, c, st => match st with
    | .Assign [.Attribute ox n _] x _ => decide (n = Str.ofString f) && c.flds.contains (k, f) && mt o c ox && mt e c x
    | _ => false
  | .fau o k f op e, c, st => match st with
    | .AugAssign (.Attribute ox n _) p x _ => decide (n = Str.ofString f) && c.flds.contains (k, f) && decide (p = bop op) && mt o c ox && mt e c x
    | _ => false
  | .rs0 k, c, st => match st with
    | .Raise (some (.Call (.Name n _) [.Constant (.str _) _ _] [] _)) none _ => decide (n = Str.ofString k) && glB c.sc n && c.xos.contains k
    | _ => false
  | .rs2 k es, c, st => match st with
    | .Raise (some (.Call (.Name n _) [x, y] [] _)) none _ => decide (n = Str.ofString "TypeProblem") && decide (k = "TypeProblem") && glB c.sc n && c.xpb && mts es c [x, y]
    | _ => false
  | .tr b k cs i h, c, st => match st with
    | .Try body [.ExceptHandler (some (.Name x _)) nm suite _] [] [] _ => decide (x = Str.ofString k) && glB c.sc x && c.xcs.contains k && cs.all c.xcs.contains && (!nm.isSome || c.xpb) && inB i c nm && mss b c body && mhd h c nm suite
    | _ => false
  | .seq _ _, _, _ => false
def mss : Sm → SC → List Stmt → Bool
  | .skip, _, xs => match xs with
    | [] => true
    | _ => false
  | .seq a b, c, xs => match xs with
    | x :: xs => mst a c x && mss b c xs
    | [] => false
  | _, _, _ => false
end

/-! ### readings -/
structure PE4 where
  nx : Fr → AH → Ph → Hp → Prop
  bk : Fr → AH → Ph → Hp → Prop
  ct : Fr → AH → Ph → Hp → Prop
  rt : D → AH → Ph → Hp → Prop
  exc : Xc → Fr → AH → Ph → Hp → Prop
def okSP (G : Md) (φ : Ph) (H : Hp) (P : PE4) : SR → Prop
  | .nx F A => ∀ φ' H', Ext φ H φ' H' → HR G φ' H' A → P.nx F A φ' H'
  | .bk F A => ∀ φ' H', Ext φ H φ' H' → HR G φ' H' A → P.bk F A φ' H'
  | .ct F A => ∀ φ' H', Ext φ H φ' H' → HR G φ' H' A → P.ct F A φ' H'
  | .rt d A => ∀ φ' H', Ext φ H φ' H' → HR G φ' H' A → P.rt d A φ' H'
  | .exc x F A => ∀ φ' H', Ext φ H φ' H' → HR G φ' H' A → P.exc x F A φ' H'
  | .no => False
def pEnds (G : Md) (W : WX) (D : Ends) : PE4 where
  nx := fun F _ φ H => ∀ σ, FR G φ H F σ → D.nx σ H
  bk := fun F _ φ H => ∀ σ, FR G φ H F σ → D.bk σ H
  ct := fun F _ φ H => ∀ σ, FR G φ H F σ → D.ct σ H
  rt := fun d _ φ H => ∀ v, Rep G φ H d v → D.rt v H
  exc := fun x F _ φ H => ∀ σ cls dd, FR G φ H F σ → XRep G φ H x cls dd → W cls dd σ H
def tS (G : Md) (cl : Cl) (N : Nat) (W : WX) (b : Sm) : TS := fun D σ H => ∃ φ F A, HR G φ H A ∧ FR G φ H F σ ∧ okSP G φ H (pEnds G W D) (sx cl N b F A)
section
variable {G : Md} {φ φ1 : Ph} {H H1 : Hp} {P P' : PE4}
theorem okSP.ext {r : SR} (h : okSP G φ H P r) (x : Ext φ H φ1 H1) : okSP G φ1 H1 P r := by
  cases r <;> first | exact h | exact fun φ' H' e hr => h φ' H' (x.trans e) hr
/-- a value first, then the statement's end -/
theorem okSP.bns {α : Type} {W : WX} {D : Ends} {F : Fr} {σ : L2.St} {A : AH} {r : Res α} {f : α → AH → SR} (h : okSP G φ H (pEnds G W D) (bns F r f)) (hr : HR G φ H A) (fr : FR G φ H F σ) :
    okG G φ H (fun c d H' => W c d σ H') (fun a A φ' H' => okSP G φ' H' (pEnds G W D) (f a A)) r := by
  cases r with
  | ok a A => exact fun φ' H' e _ => okSP.ext (r := f a A) h e
  | exc y A => exact fun φ' H' cls dd e hr' x => h φ' H' e hr' σ cls dd (fr.ext hr e) x
  | no => exact h
end
theorem ps_imp {X : Cx} {st : Stmt} {t t' : TS} (h : PS X st t) (k : ∀ D σ H, t' D σ H → t D σ H) : PS X st t' := ⟨fun pins s σ H D I q => h.run pins s σ H D I (k D σ H q)⟩
theorem pss_imp {X : Cx} {st : List Stmt} {t t' : TS} (h : PSs X st t) (k : ∀ D σ H, t' D σ H → t D σ H) : PSs X st t' := ⟨fun pins s σ H D I q => h.run pins s σ H D I (k D σ H q)⟩
/-! ### the end of a walk that locked a dict -/
def unlQ (X : Cx) (P : Hp → Prop) (H : Hp) : Prop := P H ∨ ∃ a o u, H a = some (.frz o u) ∧ (∀ o' u', X.H_0 a ≠ some (.frz o' u')) ∧ P (upd H a u)
def UnlS (X : Cx) (D : Ends) : Ends where
  nx := fun σ H => unlQ X (D.nx σ) H
  bk := fun σ H => unlQ X (D.bk σ) H
  ct := fun σ H => unlQ X (D.ct σ) H
  rt := fun v H => unlQ X (D.rt v) H
theorem ps_unl {X : Cx} {st : Stmt} {t : TS} (h : PS X st t) : PS X st (fun D σ H => t (UnlS X D) σ H) := by
  refine ⟨fun pins s σ H D I q => thn (h.run pins s σ H _ I q) fun f s1 z => ?_⟩
  cases f with
  | next =>
    obtain ⟨σ1, H1, I1, z | ⟨a, o, u, e, n, z⟩⟩ := z
    · exact ⟨σ1, H1, I1, z⟩
    · exact ⟨σ1, _, I1.unlock e n, z⟩
  | brk =>
    obtain ⟨σ1, H1, I1, z | ⟨a, o, u, e, n, z⟩⟩ := z
    · exact ⟨σ1, H1, I1, z⟩
    · exact ⟨σ1, _, I1.unlock e n, z⟩
  | cont =>
    obtain ⟨σ1, H1, I1, z | ⟨a, o, u, e, n, z⟩⟩ := z
    · exact ⟨σ1, H1, I1, z⟩
    · exact ⟨σ1, _, I1.unlock e n, z⟩
  | ret v =>
    obtain ⟨w, σ1, H1, I1, r, z | ⟨a, o, u, e, n, z⟩⟩ := z
    · exact ⟨w, σ1, H1, I1, r, z⟩
    · exact ⟨w, σ1, _, I1.unlock e n, r, z⟩
theorem unl_endS {G : Md} {φ1 φ : Ph} {H1 H2 H : Hp} {X : Cx} {A A0 : AH} {l : Option Nat} {P : AH → Ph → Hp → Prop} {K : Hp → Prop} (hr1 : HR G φ1 H1 A0)
    (c1 : l = none → H2 = H1) (c2 : ∀ n, l = some n → ∃ a o ks, φ1[n]? = some a ∧ H1 a = some (.dK ks) ∧ H2 = upd H1 a (.frz o (.dK ks)) ∧ ∀ o' u', X.H_0 a ≠ some (.frz o' u'))
    (x : Ext φ1 H2 φ H) (hr : HR G φ H A) (q : ∀ φ' H', Ext φ1 H1 φ' H' → HR G φ' H' (unlockA A l) → P (unlockA A l) φ' H') (k : ∀ A' H', Mono φ H φ H' → P A' φ H' → K H') : unlQ X K H := by
  rcases unl_end (w := ⟨[], [], l⟩) (α := Unit) (b := ()) (W := fun _ _ _ => True) (P := fun _ A φ H => P A φ H) (H0 := X.H_0) hr1 c1 c2 x hr q with ⟨_, z⟩ | ⟨a, o, u, n, kvs, en, hf, nf, ma, ns, h2, mo, z⟩
  · exact .inl (k _ _ ⟨⟨[], by simp⟩, fun _ _ e _ => e⟩ z)
  · exact .inr ⟨a, o, u, hf, nf, k _ _ mo z⟩
def pUnl (G : Md) (φ1 : Ph) (H1 : Hp) (P : PE4) (l : Option Nat) : PE4 where
  nx := fun F A _ _ => okSP G φ1 H1 P (.nx F (unlockA A l))
  bk := fun F A _ _ => okSP G φ1 H1 P (.bk F (unlockA A l))
  ct := fun F A _ _ => okSP G φ1 H1 P (.ct F (unlockA A l))
  rt := fun d A _ _ => okSP G φ1 H1 P (.rt d (unlockA A l))
  exc := fun x F A _ _ => l = none ∧ okSP G φ1 H1 P (.exc x F A)
theorem okSP.unl {G : Md} {φ1 φ2 : Ph} {H1 H2 : Hp} {P : PE4} {l : Option Nat} {r : SR} (h : okSP G φ1 H1 P (unlS l r)) : okSP G φ2 H2 (pUnl G φ1 H1 P l) r := by
  cases l with
  | none => cases r <;> first | exact h | exact fun φ' H' e hr => h | exact fun φ' H' e hr => ⟨rfl, h⟩
  | some n => cases r <;> first | exact h | exact fun φ' H' e hr => h | exact h.elim
/-! ### for -/
theorem for_read {X : Cx} {cl : Cl} {N : Nat} {W : WX} {t : Tg} {it : Ex} {b : Sm} {D : Ends} {σ : L2.St} {H : Hp}
    (h : tS (Gd X) cl N W (.for t it b) D σ H) : tFor (iW X cl W it) (gE (Gd X) t) (tS (Gd X) cl N W b) (UnlS X D) σ H := by
  obtain ⟨φ, F, A, hr, fr, q⟩ := h
  refine ⟨φ, F, A, hr, fr, (okSP.bns (r := evw cl it F A) q hr fr).imp fun w A1 φ1 H1 e1 hr1 q1 H2 J c1 c2 hr2 wk => ?_⟩
  have x2 : Ext φ1 H1 φ1 H2 := by
    cases el : w.lock with
    | none => rw [c1 el]; exact .refl
    | some n =>
      obtain ⟨a, o, ks, ea, hH, rfl, _⟩ := c2 n el
      exact Ext.set (List.mem_of_getElem? ea) (.dK hH)
  generalize hbody : (fun F' A' => sx cl N b F' A') = body at q1
  generalize hP2 : pUnl (Gd X) φ1 H1 (pEnds (Gd X) W D) w.lock = P2
  have q2 : okSP (Gd X) φ1 H2 P2 (forL (asgT t) w.g body w.items F (lockA A1 w.lock)) := by
    rw [← hP2]
    exact okSP.unl q1
  have fr2 : FR (Gd X) φ1 H2 F σ := (fr.ext hr e1).ext hr1 x2
  refine ⟨fun i m σ H => m = w.items.length - i ∧ i ≤ w.items.length ∧ ∃ φ F A, Ext φ1 H2 φ H ∧ HR (Gd X) φ H A ∧ FR (Gd X) φ H F σ ∧ okSP (Gd X) φ1 H2 P2 (forL (asgT t) w.g body (w.items.drop i) F A),
    ⟨_, rfl, Nat.zero_le _, φ1, F, _, .refl, hr2, fr2, q2⟩, ?_⟩
  rintro i m σ3 H3 ⟨rfl, hi, φ3, F3, A3, x3, hr3, fr3, q3⟩
  have hlk : gOk A3 w.g = true := by
    cases hg : gOk A3 w.g with
    | true => rfl
    | false =>
      exfalso
      cases hd : w.items.drop i with
      | nil => rw [hd] at q3; unfold forL at q3; rw [if_neg (by rw [hg]; exact Bool.false_ne_true)] at q3; exact q3
      | cons d r => rw [hd] at q3; unfold forL at q3; rw [if_neg (by rw [hg]; exact Bool.false_ne_true)] at q3; exact q3
  by_cases hlt : i < w.items.length
  · have hd : w.items.drop i = w.items[i] :: w.items.drop (i + 1) := List.drop_eq_getElem_cons hlt
    obtain ⟨go, yld⟩ := wk.step φ3 H3 A3 i _ x3 hr3 hlk (List.getElem?_eq_getElem hlt)
    refine .inr ⟨go, fun σ4 H4 => ∃ φ F A, Ext φ1 H2 φ H4 ∧ HR (Gd X) φ H4 A ∧ FR (Gd X) φ H4 F σ4 ∧ okSP (Gd X) φ1 H2 P2 (forL (asgT t) w.g body (w.items.drop (i + 1)) F A),
      fun σ' H' z => ⟨_, by omega, rfl, hlt, z⟩, fun x H4 hy => ?_⟩
    obtain ⟨x4, hr4, rx⟩ := yld x H4 hy
    rw [hd] at q3
    unfold forL at q3
    rw [if_pos hlk] at q3
    split at q3
    · rename_i F' ha
      refine ⟨φ3, F3, A3, _, F', hr4, fr3.ext hr3 x4, rx, ha, fun σ' frσ ag => ⟨φ3, F', A3, hr4, frσ, ?_⟩⟩
      rw [← hbody] at q3
      have q3 : okSP (Gd X) φ1 H2 P2 (match sx cl N b F' A3 with
        | .nx F2 A2 => forL (asgT t) w.g (fun F' A' => sx cl N b F' A') (w.items.drop (i + 1)) F2 A2
        | .ct F2 A2 => forL (asgT t) w.g (fun F' A' => sx cl N b F' A') (w.items.drop (i + 1)) F2 A2
        | .bk F2 A2 => .nx F2 A2
        | x => x) := q3
      cases e : sx cl N b F' A3 with
      | nx F2 A2 =>
        rw [e] at q3
        simp only [hbody] at q3
        exact fun φ' H' e' hr' σ'' fr'' => ⟨φ', F2, A2, (x3.trans x4).trans e', hr', fr'', q3⟩
      | ct F2 A2 =>
        rw [e] at q3
        simp only [hbody] at q3
        exact fun φ' H' e' hr' σ'' fr'' => ⟨φ', F2, A2, (x3.trans x4).trans e', hr', fr'', q3⟩
      | bk F2 A2 =>
        rw [e, ← hP2] at q3
        intro φ' H' e' hr' σ'' fr''
        have xx := (x3.trans x4).trans e'
        exact unl_endS (X := X) (P := (pEnds (Gd X) W D).nx F2) (K := D.nx σ'') hr1 c1 c2 xx hr' (q3 φ' H' xx hr') fun A' H'' mo z => z σ'' (fr''.mono mo)
      | rt d A2 =>
        rw [e, ← hP2] at q3
        intro φ' H' e' hr' v rv
        have xx := (x3.trans x4).trans e'
        exact unl_endS (X := X) (P := (pEnds (Gd X) W D).rt d) (K := D.rt v) hr1 c1 c2 xx hr' (q3 φ' H' xx hr') fun A' H'' mo z => z v (Rep.mono mo _ _ rv)
      | exc y F2 A2 =>
        rw [e, ← hP2] at q3
        intro φ' H' e' hr' σ'' cls dd fr'' xr
        have xx := (x3.trans x4).trans e'
        obtain ⟨hn, z⟩ := q3 φ' H' xx hr'
        rw [c1 hn] at xx
        exact z φ' H' xx hr' σ'' cls dd fr'' xr
      | no => rw [e] at q3; exact q3.elim
    · exact q3.elim
  · have hi' : i = w.items.length := by omega
    subst hi'
    refine .inl ⟨wk.stop φ3 H3 A3 x3 hr3 hlk, ?_⟩
    rw [List.drop_length] at q3
    unfold forL at q3
    rw [if_pos hlk, ← hP2] at q3
    exact unl_endS (X := X) (P := (pEnds (Gd X) W D).nx F3) (K := D.nx σ3) hr1 c1 c2 x3 hr3 (q3 φ3 H3 x3 hr3) fun A' H'' mo z => z σ3 (fr3.mono mo)
end Ev

/-! ## EvSt2 -/
/-! EvSt2: statements, each. -/
namespace Ev
open PySem PySem.Spec PyProof.Rows L2
section
variable {X : Cx} {cl : Cl} {N : Nat} {W : WX}
theorem while_read {k : Ex} {b : Sm} {D : Ends} {σ : L2.St} {H : Hp} (h : tS (Gd X) cl N W (.whl k b) D σ H) : tWhile (tT (Gd X) cl W k) (tS (Gd X) cl N W b) D σ H := by
  obtain ⟨φ, F, A, hr, fr, q⟩ := h
  have q : okSP (Gd X) φ H (pEnds (Gd X) W D) (whlL (fun F' A' => tru (ev cl k F' A')) (fun F' A' => sx cl N b F' A') N F A) := q
  refine ⟨fun m σ H => ∃ φ F A, HR (Gd X) φ H A ∧ FR (Gd X) φ H F σ ∧ okSP (Gd X) φ H (pEnds (Gd X) W D) (whlL (fun F' A' => tru (ev cl k F' A')) (fun F' A' => sx cl N b F' A') m F A), ⟨N, φ, F, A, hr, fr, q⟩, ?_⟩
  rintro m σ1 H1 ⟨φ1, F1, A1, hr1, fr1, q1⟩
  cases m with
  | zero => exact q1.elim
  | succ m =>
    have q1 : okSP (Gd X) φ1 H1 (pEnds (Gd X) W D) (match tru (ev cl k F1 A1) with
      | .ok false A' => .nx F1 A'
      | .ok true A' => (match sx cl N b F1 A' with
        | .nx F2 A2 => whlL (fun F' A' => tru (ev cl k F' A')) (fun F' A' => sx cl N b F' A') m F2 A2
        | .ct F2 A2 => whlL (fun F' A' => tru (ev cl k F' A')) (fun F' A' => sx cl N b F' A') m F2 A2
        | .bk F2 A2 => .nx F2 A2
        | x => x)
      | .exc x A' => .exc x F1 A'
      | .no => .no) := q1
    refine ⟨φ1, F1, A1, hr1, fr1, ?_⟩
    show okG (Gd X) φ1 H1 (fun c d H' => W c d σ1 H') (pB _) (tru (ev cl k F1 A1))
    cases e : tru (ev cl k F1 A1) with
    | no => rw [e] at q1; exact q1.elim
    | exc y A2 =>
      rw [e] at q1
      exact fun φ' H' cls dd e' hr' x => q1 φ' H' e' hr' σ1 cls dd (fr1.ext hr1 e') x
    | ok r A2 =>
      rw [e] at q1
      intro φ2 H2 e2 hr2
      have fr2 := fr1.ext hr1 e2
      cases r with
      | false => exact q1 φ2 H2 e2 hr2 σ1 fr2
      | true =>
        refine ⟨fun σ' H' => ∃ φ F A, HR (Gd X) φ H' A ∧ FR (Gd X) φ H' F σ' ∧ okSP (Gd X) φ H' (pEnds (Gd X) W D) (whlL (fun F' A' => tru (ev cl k F' A')) (fun F' A' => sx cl N b F' A') m F A), fun σ' H' z => ⟨m, Nat.lt_succ_self m, z⟩, φ2, F1, A2, hr2, fr2, ?_⟩
        have q1 : okSP (Gd X) φ2 H2 (pEnds (Gd X) W D) (match sx cl N b F1 A2 with
          | .nx F2 A2 => whlL (fun F' A' => tru (ev cl k F' A')) (fun F' A' => sx cl N b F' A') m F2 A2
          | .ct F2 A2 => whlL (fun F' A' => tru (ev cl k F' A')) (fun F' A' => sx cl N b F' A') m F2 A2
          | .bk F2 A2 => .nx F2 A2
          | x => x) := q1.ext e2
        cases e3 : sx cl N b F1 A2 with
        | nx F2 A3 => rw [e3] at q1; exact fun φ' H' e' hr' σ'' fr'' => ⟨φ', F2, A3, hr', fr'', okSP.ext (r := whlL _ _ m F2 A3) q1 e'⟩
        | ct F2 A3 => rw [e3] at q1; exact fun φ' H' e' hr' σ'' fr'' => ⟨φ', F2, A3, hr', fr'', okSP.ext (r := whlL _ _ m F2 A3) q1 e'⟩
        | bk F2 A3 => rw [e3] at q1; exact q1
        | rt d A3 => rw [e3] at q1; exact q1
        | exc y F2 A3 => rw [e3] at q1; exact q1
        | no => rw [e3] at q1; exact q1.elim

/-! ### small statements -/
theorem st_ex {c : SC} {e : Ex} {st : Stmt} (ok : CtxOk X c cl W) (h : mst (.ex e) c st = true) : PS X st (tS (Gd X) cl N W (.ex e)) := by
  cases st <;> first | (simp [mst] at h; done) | skip
  rename_i x pos
  have h : (mt e c x && !isComp x) = true := h
  simp only [Bool.and_eq_true] at h
  refine ps_imp (ps_expr ((se_all e).pe ok h.1) (by cases x <;> first | rfl | exact absurd h.2 Bool.false_ne_true)) fun D σ H ⟨φ, F, A, hr, fr, q⟩ => ?_
  exact ⟨φ, F, A, hr, fr, (okSP.bns (r := ev cl e F A) q hr fr).imp fun d A1 φ1 H1 e1 hr1 q1 v _ => q1 φ1 H1 .refl hr1 σ (fr.ext hr e1)⟩
theorem st_ret {c : SC} {e : Ex} {st : Stmt} (ok : CtxOk X c cl W) (h : mst (.ret e) c st = true) : PS X st (tS (Gd X) cl N W (.ret e)) := by
  cases st <;> first | (simp [mst] at h; done) | skip
  rename_i o pos
  cases o with
  | some x =>
    have h : mt e c x = true := h
    refine ps_imp (ps_ret ((se_all e).pe ok h)) fun D σ H ⟨φ, F, A, hr, fr, q⟩ => ?_
    exact ⟨φ, F, A, hr, fr, (okSP.bns (r := ev cl e F A) q hr fr).imp fun d A1 φ1 H1 e1 hr1 q1 v rv => q1 φ1 H1 .refl hr1 v rv⟩
  | none =>
    cases e <;> first | (simp [mst] at h; done) | skip
    exact ps_imp ps_retN fun D σ H ⟨φ, F, A, hr, fr, q⟩ => q φ H .refl hr .non rfl
theorem sw_eq {x : Expr} {s : Scope} {n : Str} {py : Pos} {l : Nat} {env : Env} (hc : compScope x = some s) : swapsWith x (some (.Name n py)) l env = pure (env.blockKind == .function && env.kindOf n == some .local && py.line == x.pos.line && !(s.names.any fun (m, k) => m == n && (k == .local || k == .cell))) := by
  cases x <;> first | (cases hc; done) | skip
  all_goals
    cases hc
    rfl
theorem sw_none {x : Expr} {t : Option Expr} {l : Nat} {env : Env} (hc : compScope x = none) : swapsWith x t l env = pure false := by
  cases x <;> first | rfl | (cases hc; done)
theorem sw_val {sc : Scope} {x : Expr} {n : Str} {py : Pos} {l : Nat} {env : Env} (hs : env.scope = sc) (hk : env.scope.kind = .function) : swapsWith x (some (.Name n py)) l env = pure (swB sc n py x) := by
  subst hs
  unfold swB
  cases hc : compScope x with
  | none => exact sw_none hc
  | some s =>
    rw [sw_eq hc]
    have hb : env.blockKind = .function := by unfold Env.blockKind; rw [hk]; rfl
    rw [hb]
    congr 1
    show (true && (env.scope.names.lookup n == some .local) && _ && _) = _
    by_cases h : env.scope.names.lookup n = some .local
    · rw [h]; simp
    · have : (env.scope.names.lookup n == some NameKind.local) = false := by simpa using h
      rw [this]; simp [h]
theorem st_set_plain {c : SC} {i : Nat} {e : Ex} {n : Str} {py pos : Pos} {x : Expr} (ok : CtxOk X c cl W) (hn : c.N[i]? = some n) (hs : n ∈ c.sto) (he : mt e c x = true) (hw : swB c.sc n py x = false) :
    PS X (.Assign [.Name n py] x pos) (tS (Gd X) cl N W (.set i e)) := by
  obtain ⟨h1, h2⟩ := ok.sto n hs
  refine ps_imp (ps_set (i := i) (by rw [ok.N]; exact ok.nd) (by rw [ok.N]; exact hn) h1 ((se_all e).pe ok he) (by rw [sw_val ok.sc ok.kd, hw]) h2) fun D σ H ⟨φ, F, A, hr, fr, q⟩ => ?_
  exact ⟨φ, F, A, hr, fr, (okSP.bns (r := ev cl e F A) q hr fr).imp fun d A1 φ1 H1 e1 hr1 q1 v rv => q1 φ1 H1 .refl hr1 _ ((fr.ext hr e1).set i rv)⟩
/-- the unlocked end, for a statement that stores -/
theorem ps_setDc {i : Nat} {y : Str} {py : Pos} {kx elt tg iter : Expr} {ifs : List Expr} {scope : Scope} {own : List (Str × Nat)} {pos spos : Pos} {wi : TI} {g : TG} {tt : TT} {tk tv : TE} (hc : X.calm = true) (hN : X.N.Nodup) (hy : X.N[i]? = some y) (hyl : X.env.scope.names.lookup y = some .local)
    (hsw : swapsWith (.DictComp kx elt [⟨tg, iter, ifs, 0⟩] scope pos) (some (.Name y py)) spos.line X.env = pure true) (hi : PI X tg iter wi) (ok : BlkOk X.N X.env.scope scope own)
    (hg : ∀ (s : Shared) (H : Hp) (C : Addr) (cl : List (Str × Addr)) (fp : List Addr), PG (X.blk s H scope (compEnvC scope cl C X.env) fp) tg g) (ht : ∀ (s : Shared) (H : Hp) (C : Addr) (cl : List (Str × Addr)) (fp : List Addr), PTs (X.blk s H scope (compEnvC scope cl C X.env) fp) ifs tt)
    (hk : ∀ (s : Shared) (H : Hp) (C : Addr) (cl : List (Str × Addr)) (fp : List Addr), PE (X.blk s H scope (compEnvC scope cl C X.env) fp) kx tk)
    (he : ∀ (s : Shared) (H : Hp) (C : Addr) (cl : List (Str × Addr)) (fp : List Addr), PE (X.blk s H scope (compEnvC scope cl C X.env) fp) elt tv) (hs : ∀ x, foldedSetIterable iter X.env x = pure x := by intro _; rfl) :
    PS X (.Assign [.Name y py] (.DictComp kx elt [⟨tg, iter, ifs, 0⟩] scope pos) spos) (tAsg (tDc wi g tt tk tv (own.map (·.2))) (gName i)) := by
  refine ⟨fun pins s σ H D I h => ?_⟩
  rw [exec_Assign_Name_used _ _ _ _ hsw]
  refine wpAny_bind (wpAny_standAt (wpAny_bind ?_))
  show wpAny _ X.A (do let _ ← comprehension (.DictComp kx elt [⟨tg, iter, ifs, 0⟩] scope pos) scope X.env (firstIterPos [⟨tg, iter, ifs, 0⟩] pos) newDict false (eval iter X.env) (some (assign (.Name y py) X.env))) _ _ s
  have h : tDc wi g tt tk tv (own.map (·.2)) σ H (fun x H1 => gName i x σ H1 D.nx) := h
  refine wpAny_bind (thn (dc_core (Qf := fun _ s' => SP X pins D .next s') hc hN I hi ok hg ht hk he hs h fun L C s' m H' I' q hn f => ?_) fun _ s' hq => wpAny_pure (wpAny_pure hq))
  show wpAny _ _ (assign (.Name y py) X.env (.ref L)) _ _ _
  refine wpAny_assign_Name (store_ok2 (v := V.ref L) I' hN hy (.inl hyl) rfl (fun s2 I2 ⟨a, sb, ha⟩ => ?_) (.inr hyl))
  obtain ⟨f0, f1, f2, f3, f4, f5⟩ := f
  have haC : C ≠ a := by
    rcases ha with z | z
    · rw [z]; exact f1
    · exact fun e => f4 y a z e.symm
  refine ⟨m, hn.sameBut sb haC, fun h3 sb3 => ?_⟩
  exact ⟨_, H', I2.turned (t' := s2.toks) (fun b o hb e => (sb3.2 b hb).trans e) f0 f1 f3 f4 f5, q⟩
theorem st_set_lc {c : SC} {i : Nat} {e : Ex} {n : Str} {py pos : Pos} {x : Expr} (ok : CtxOk X c cl W) (hn : c.N[i]? = some n) (he : mt e c x = true) (hw : swB c.sc n py x = true) :
    PS X (.Assign [.Name n py] x pos) (tS (Gd X) cl N W (.set i e)) := by
  have hl : X.env.scope.names.lookup n = some .local := by
    unfold swB at hw
    split at hw
    · cases hw
    · simp only [Bool.and_eq_true, decide_eq_true_eq] at hw
      rw [ok.sc]; exact hw.1.1
  have hsw : swapsWith x (some (.Name n py)) pos.line X.env = pure true := by rw [sw_val ok.sc ok.kd, hw]
  have fin : ∀ D σ H, tS (Gd X) cl N W (.set i e) D σ H → tE (Gd X) cl W e σ H (fun v H1 => D.nx (σ.set i (some v)) H1) := fun D σ H ⟨φ, F, A, hr, fr, q⟩ =>
    ⟨φ, F, A, hr, fr, (okSP.bns (r := ev cl e F A) q hr fr).imp fun d A1 φ1 H1 e1 hr1 q1 v rv => q1 φ1 H1 .refl hr1 _ ((fr.ext hr e1).set i rv)⟩
  cases x <;> first | (cases hw; done) | skip
  · rename_i l gs scope cpos
    cases e <;> first | (simp [mt] at he; done) | skip
    rename_i t it cd e own
    rcases gs with _ | ⟨⟨tg, iter, ifs, k⟩, _ | _⟩ <;> first | (simp [mt] at he; done) | skip
    have h : (decide (k = 0) && blkC c.N c.sc scope (ownB c.N own) && decide ((ownB c.N own).map (·.2) = own) && (tgSlots t).all own.contains && mtw it c iter tg && mtt t (c.blk scope) tg && mtc cd (c.blk scope) ifs && mt e (c.blk scope) l) = true := he
    simp only [Bool.and_eq_true, decide_eq_true_eq] at h
    obtain ⟨⟨⟨⟨⟨⟨⟨rfl, hb⟩, ho⟩, ht⟩, h1⟩, h2⟩, h3⟩, h4⟩ := h
    have hb : BlkOk X.N X.env.scope scope (ownB c.N own) := blkOk_by (by rw [ok.N, ok.sc]; exact hb)
    have ht : ∀ i ∈ tgSlots t, i ∈ own := fun i hi => by simpa using List.all_eq_true.mp ht i hi
    refine ps_imp (ps_unl (ps_setLc (i := i) (g := gE (Gd X) t) (tt := tCd (Gd X) cl WF cd) (te := tE (Gd X) cl WF e) ok.calm (by rw [ok.N]; exact ok.nd) (by rw [ok.N]; exact hn) hl hsw ((se_all it).pi ok h1) hb (fun s H C clo fp => pg_of (ok.blk hb s H C clo fp) h2) (fun s H C clo fp => (se_all cd).pc (ok.blk hb s H C clo fp) h3) (fun s H C clo fp => (se_all e).pe (ok.blk hb s H C clo fp) h4) (fun x => folded_plain (mtw_plain h1)))) fun D σ H q => ?_
    have z := lc_read ht (fun F A w A' h => evw_lk h) (fin D σ H q)
    rw [ho]
    exact z
  · exfalso
    revert he
    cases e <;> simp [mt]
  · rename_i kx l gs scope cpos
    cases e <;> first | (simp [mt] at he; done) | skip
    rename_i t it cd ek e own
    rcases gs with _ | ⟨⟨tg, iter, ifs, k⟩, _ | _⟩ <;> first | (simp [mt] at he; done) | skip
    have h : (decide (k = 0) && blkC c.N c.sc scope (ownB c.N own) && decide ((ownB c.N own).map (·.2) = own) && (tgSlots t).all own.contains && mtw it c iter tg && mtt t (c.blk scope) tg && mtc cd (c.blk scope) ifs && mt ek (c.blk scope) kx && mt e (c.blk scope) l) = true := he
    simp only [Bool.and_eq_true, decide_eq_true_eq] at h
    obtain ⟨⟨⟨⟨⟨⟨⟨⟨rfl, hb⟩, ho⟩, ht⟩, h1⟩, h2⟩, h3⟩, hk⟩, h4⟩ := h
    have hb : BlkOk X.N X.env.scope scope (ownB c.N own) := blkOk_by (by rw [ok.N, ok.sc]; exact hb)
    have ht : ∀ i ∈ tgSlots t, i ∈ own := fun i hi => by simpa using List.all_eq_true.mp ht i hi
    refine ps_imp (ps_unl (ps_setDc (i := i) (g := gE (Gd X) t) (tt := tCd (Gd X) cl WF cd) (tk := tE (Gd X) cl WF ek) (tv := tE (Gd X) cl WF e) ok.calm (by rw [ok.N]; exact ok.nd) (by rw [ok.N]; exact hn) hl hsw ((se_all it).pi ok h1) hb (fun s H C clo fp => pg_of (ok.blk hb s H C clo fp) h2) (fun s H C clo fp => (se_all cd).pc (ok.blk hb s H C clo fp) h3) (fun s H C clo fp => (se_all ek).pe (ok.blk hb s H C clo fp) hk) (fun s H C clo fp => (se_all e).pe (ok.blk hb s H C clo fp) h4) (fun x => folded_plain (mtw_plain h1)))) fun D σ H q => ?_
    have z := dc_read ht (fun F A w A' h => evw_lk h) (fin D σ H q)
    rw [ho]
    exact z
theorem st_set {c : SC} {i : Nat} {e : Ex} {st : Stmt} (ok : CtxOk X c cl W) (h : mst (.set i e) c st = true) : PS X st (tS (Gd X) cl N W (.set i e)) := by
  cases st <;> first | (simp [mst] at h; done) | skip
  rename_i tgs x pos
  rcases tgs with _ | ⟨tg, _ | _⟩ <;> first | (simp [mst] at h; done) | skip
  cases tg <;> first | (simp [mst] at h; done) | skip
  rename_i n py
  have h : (decide (c.N[i]? = some n) && c.sto.contains n && mt e c x) = true := h
  simp only [Bool.and_eq_true, decide_eq_true_eq] at h
  cases hw : swB c.sc n py x with
  | false => exact st_set_plain ok h.1.1 (by simpa using h.1.2) h.2 hw
  | true => exact st_set_lc ok h.1.1 h.2 hw
theorem st_sub {c : SC} {o i e : Ex} {st : Stmt} (ok : CtxOk X c cl W) (h : mst (.sub o i e) c st = true) : PS X st (tS (Gd X) cl N W (.sub o i e)) := by
  cases st <;> first | (simp [mst] at h; done) | skip
  rename_i tgs x pos
  rcases tgs with _ | ⟨tg, _ | _⟩ <;> first | (simp [mst] at h; done) | skip
  cases tg <;> first | (simp [mst] at h; done) | skip
  rename_i ox ix spos
  have h : (mt o c ox && mt i c ix && mt e c x) = true := h
  simp only [Bool.and_eq_true] at h
  obtain ⟨⟨h1, h2⟩, h3⟩ := h
  have hip := mt_plain h2
  refine ps_imp (ps_asg ((se_all e).pe ok h3) (pg_sub ((se_all o).pe ok h1) ((se_all i).pe ok h2) (set_ok ok.hu) (by intro v; cases ix <;> first | rfl | (cases hip; done))) (by
    show swapsWith x (some (.Subscript ox ix spos)) pos.line X.env = pure false
    cases x <;> rfl)) fun D σ H ⟨φ, F, A, hr, fr, q⟩ => ?_
  refine ⟨φ, F, A, hr, fr, (okSP.bns (r := ev cl e F A) q hr fr).imp fun d A1 φ1 H1 e1 hr1 q1 v rv => ?_⟩
  have fr1 := fr.ext hr e1
  refine ⟨φ1, F, A1, hr1, fr1, (okSP.bns (r := ev cl o F A1) q1 hr1 fr1).imp fun d2 A2 φ2 H2 e2 hr2 q2 v2 rv2 => ?_⟩
  have fr2 := fr1.ext hr1 e2
  refine ⟨φ2, F, A2, hr2, fr2, (okSP.bns (r := ev cl i F A2) q2 hr2 fr2).imp fun d3 A3 φ3 H3 e3 hr3 q3 v3 rv3 => ?_⟩
  have fr3 := fr2.ext hr2 e3
  cases hA : opSet A3 d2 d3 d with
  | none => rw [hA] at q3; exact q3.elim
  | some A4 =>
    rw [hA] at q3
    exact ⟨φ3, A3, d2, d3, d, A4, hr3, rv2.ext hr2 e3, rv3, (rv.ext hr1 e2).ext hr2 e3, hA, fun φ' H' e' hr' => q3 φ' H' e' hr' σ (fr3.ext hr3 e')⟩
end
end Ev

/-! ## EvTr -/
/-! EvTr: stores to fields, raise, try. -/
namespace Ev
open PySem PySem.Spec PyProof.Rows L2
/-- where a try may stand -/
structure StOk (X : Cx) : Prop where
  stk : X.stack = X.env :: X.outer
  frm : X.env.frame = some X.env.locals
section
variable {X : Cx} {cl : Cl} {N : Nat} {W : WX}
theorem fst_of {c : SC} (ok : CtxOk X c cl W) {k f : String} (hf : (k, f) ∈ c.flds) {φ : Ph} {H : Hp} {A A' : AH} {d e : D} {v w : V} (hr : HR (Gd X) φ H A) (r : Rep (Gd X) φ H d v) (re : Rep (Gd X) φ H e w) (h : fstD A k f d e = some A') :
    ∃ a C dx vs, v = .ref a ∧ a ∈ φ ∧ H a = some (.ins C dx vs) ∧ Cls X.K C ∧ NoAttr X.K C (Str.ofString f) ∧ vs.length < 1000 ∧ HR (Gd X) φ (upd H a (.ins C dx (putF (Str.ofString f) w vs))) A' := by
  unfold fstD at h
  split at h
  · rename_i n
    obtain ⟨a, ea, rfl⟩ := r
    split at h
    · rename_i k' fs hA
      split at h
      · rename_i hk
        obtain ⟨rfl, hl⟩ := hk
        cases h
        obtain ⟨C, dx, vs, e1, g, rf⟩ := hr.ins hA ea
        obtain ⟨C', g', hc, hn⟩ := ok.tab.flds _ hf
        have hC : C' = C := by
          have := g'.symm.trans g
          cases this; rfl
        subst hC
        exact ⟨a, C', dx, vs, rfl, List.mem_of_getElem? ea, e1, hc, hn, by rw [rf.length]; exact hl, hr.set ea (.ins e1) ⟨C', dx, _, rfl, g, rf.put re⟩⟩
      · cases h
    · cases h
  · cases h
theorem st_fst {c : SC} {o e : Ex} {k f : String} {st : Stmt} (ok : CtxOk X c cl W) (h : mst (.fst o k f e) c st = true) : PS X st (tS (Gd X) cl N W (.fst o k f e)) := by
  cases st <;> first | (simp [mst] at h; done) | skip
  rename_i tgs x pos
  rcases tgs with _ | ⟨tg, _ | _⟩ <;> first | (simp [mst] at h; done) | skip
  cases tg <;> first | (simp [mst] at h; done) | skip
  rename_i ox n apos
  have h : (decide (n = Str.ofString f) && c.flds.contains (k, f) && mt o c ox && mt e c x) = true := h
  simp only [Bool.and_eq_true, decide_eq_true_eq] at h
  obtain ⟨⟨⟨rfl, hf⟩, h1⟩, h2⟩ := h
  have hf : (k, f) ∈ c.flds := by simpa using hf
  refine ps_imp (ps_fld ((se_all o).pe ok h1) ((se_all e).pe ok h2) (by
    show swapsWith x (some (.Attribute ox (Str.ofString f) apos)) pos.line X.env = pure false
    cases x <;> rfl)) fun D σ H ⟨φ, F, A, hr, fr, q⟩ => ?_
  refine ⟨φ, F, A, hr, fr, (okSP.bns (r := ev cl e F A) q hr fr).imp fun d A1 φ1 H1 e1 hr1 q1 v rv => ?_⟩
  have fr1 := fr.ext hr e1
  refine ⟨φ1, F, A1, hr1, fr1, (okSP.bns (r := ev cl o F A1) q1 hr1 fr1).imp fun d2 A2 φ2 H2 e2 hr2 q2 v2 rv2 => ?_⟩
  have fr2 := fr1.ext hr1 e2
  cases hA : fstD A2 k f d2 d with
  | none => rw [hA] at q2; exact q2.elim
  | some A3 =>
    rw [hA] at q2
    obtain ⟨a, C, dx, vs, rfl, ha, e3, hc, hn, hl, hr3⟩ := fst_of ok hf hr2 rv2 (rv.ext hr1 e2) hA
    have x3 : Ext φ2 H2 φ2 _ := Ext.set (o := .ins C dx (putF (Str.ofString f) v vs)) ha (.ins e3)
    exact ⟨a, C, dx, vs, rfl, e3, hc, hn, hl, q2 _ _ x3 hr3 σ (fr2.ext hr2 x3)⟩
theorem aug_of {op : BOp} {d e r : D} (h : augI op d e = some r) : ∃ i j, d = .int i ∧ e = .int j ∧ ((op = .add ∧ r = .int (i + j)) ∨ (op = .sub ∧ r = .int (i - j))) := by
  unfold augI at h
  split at h <;> cases h
  · exact ⟨_, _, rfl, rfl, .inl ⟨rfl, rfl⟩⟩
  · exact ⟨_, _, rfl, rfl, .inr ⟨rfl, rfl⟩⟩
theorem st_fau {c : SC} {o e : Ex} {k f : String} {op : BOp} {st : Stmt} (ok : CtxOk X c cl W) (h : mst (.fau o k f op e) c st = true) : PS X st (tS (Gd X) cl N W (.fau o k f op e)) := by
  cases st <;> first | (simp [mst] at h; done) | skip
  rename_i tg p x pos
  cases tg <;> first | (simp [mst] at h; done) | skip
  rename_i ox n apos
  have h : (decide (n = Str.ofString f) && c.flds.contains (k, f) && decide (p = bop op) && mt o c ox && mt e c x) = true := h
  simp only [Bool.and_eq_true, decide_eq_true_eq] at h
  obtain ⟨⟨⟨⟨rfl, hf⟩, rfl⟩, h1⟩, h2⟩ := h
  have hf : (k, f) ∈ c.flds := by simpa using hf
  have rd : ∀ (D : Ends) (σ : L2.St) (H : Hp), tS (Gd X) cl N W (.fau o k f op e) D σ H → sFldAug X.K (tE (Gd X) cl W o) (tE (Gd X) cl W e) (fun x y H Q => (op = .add ∧ rAdd x y H Q) ∨ (op = .sub ∧ rSub x y H Q)) (Str.ofString f) D σ H := fun D σ H ⟨φ, F, A, hr, fr, q⟩ => by
    refine ⟨φ, F, A, hr, fr, (okSP.bns (r := ev cl o F A) q hr fr).imp fun d A1 φ1 H1 e1 hr1 q1 v rv => ?_⟩
    have fr1 := fr.ext hr e1
    cases hA : fldD A1 k f d with
    | none => rw [hA] at q1; exact q1.elim
    | some u =>
      rw [hA] at q1
      obtain ⟨n, a, C, dx, fs, vs, w, rfl, rfl, ea, hAn, e3, g, hc, hn, hl, rw'⟩ := fld_of ok hf hr1 rv hA
      refine ⟨a, C, dx, vs, w, rfl, e3, hc, hn, hl, ?_⟩
      refine ⟨φ1, F, A1, hr1, fr1, (okSP.bns (r := ev cl e F A1) q1 hr1 fr1).imp fun d2 A2 φ2 H2 e2 hr2 q2 v2 rv2 => ?_⟩
      have fr2 := fr1.ext hr1 e2
      cases hu : augI op u d2 with
      | none => rw [hu] at q2; exact q2.elim
      | some z =>
        rw [hu] at q2
        obtain ⟨i, j, rfl, rfl, hop⟩ := aug_of hu
        cases rw'
        cases rv2
        cases hB : fstD A2 k f (.ref n) z with
        | none => simp only [hB] at q2; exact q2.elim
        | some A3 =>
          simp only [hB] at q2
          have fin : ∀ t : Int, z = .int t → ∃ dx' fs', H2 a = some (.ins C dx' fs') ∧ fs'.length < 1000 ∧ D.nx σ (upd H2 a (.ins C dx' (putF (Str.ofString f) (.int t) fs'))) := fun t ht => by
            obtain ⟨a', C', dx', vs', ha', hm', e4, hc', hn', hl', hr3⟩ := fst_of ok hf hr2 (Rep.ext hr1 e2 rv) (show Rep (Gd X) φ2 H2 z (.int t) from by rw [ht]; rfl) hB
            cases ha'
            have hCC : C' = C := by
              obtain ⟨k2, fs2, hk2⟩ : ∃ k2 fs2, A2[n]? = some (.ins k2 fs2) ∧ k2 = k := by
                have hB : (match A2[n]? with
                  | some (.ins k1 fs) => if k1 = k ∧ fs.length < 1000 then some (A2.set n (.ins k (fput f z fs))) else none
                  | _ => none) = some A3 := hB
                split at hB
                · rename_i k' fs' hA'
                  split at hB
                  · rename_i hk'
                    exact ⟨k', fs', hA', hk'.1⟩
                  · cases hB
                · cases hB
              obtain ⟨hk2, rfl⟩ := hk2
              obtain ⟨C2, dx2, vs2, e5, g2, _⟩ := hr2.ins hk2 (e2.get ea)
              rw [e4] at e5
              cases e5
              have := g2.symm.trans g
              cases this; rfl
            subst hCC
            have x3 : Ext φ2 H2 φ2 _ := Ext.set (o := .ins C' dx' (putF (Str.ofString f) (.int t) vs')) hm' (.ins e4)
            exact ⟨dx', vs', e4, hl', q2 _ _ x3 hr3 σ (fr2.ext hr2 x3)⟩
          rcases hop with ⟨rfl, hz⟩ | ⟨rfl, hz⟩
          · exact .inl ⟨rfl, _, _, rfl, rfl, fin _ hz⟩
          · exact .inr ⟨rfl, _, _, rfl, rfl, fin _ hz⟩
  refine ps_imp (ps_fldaug (rd := fun x y H Q => (op = .add ∧ rAdd x y H Q) ∨ (op = .sub ∧ rSub x y H Q)) ((se_all o).pe ok h1) ((se_all e).pe ok h2) ?_) rd
  rintro pins s σ H x y u v Q I rx ry (⟨rfl, q⟩ | ⟨rfl, q⟩)
  · exact in_add pins s σ H x y u v Q I rx ry q
  · exact in_sub pins s σ H x y u v Q I rx ry q

/-! ### raise -/
theorem st_rs0 {c : SC} {k : String} {st : Stmt} (ok : CtxOk X c cl W) (h : mst (.rs0 k) c st = true) : PS X st (tS (Gd X) cl N W (.rs0 k)) := by
  cases st <;> first | (simp [mst] at h; done) | skip
  rename_i x y pos
  unfold mst at h
  split at h
  · rename_i n p m j p2 p3 p4 hst
    cases hst
    simp only [Bool.and_eq_true, decide_eq_true_eq] at h
    obtain ⟨⟨rfl, hg⟩, hx⟩ := h
    obtain ⟨g1, g2, g3⟩ := glB_gl ok hg
    obtain ⟨C, hm, hq, hk, hs, ht⟩ := ok.tab.xos k (by simpa using hx)
    refine ps_imp (ps_raise ok.calm ok.tk (pmk_own PySem.F.excBase_ValueError hq hm hk (raises_own hs ht) g1 g2)) fun D σ H ⟨φ, F, A, hr, fr, q⟩ => ?_
    exact q φ H .refl hr σ _ _ fr ⟨C, hm, rfl, .inl ⟨rfl, rfl⟩⟩
  · cases h
theorem st_rs2 {c : SC} {k : String} {es : Ex} {st : Stmt} (ok : CtxOk X c cl W) (h : mst (.rs2 k es) c st = true) : PS X st (tS (Gd X) cl N W (.rs2 k es)) := by
  cases st <;> first | (simp [mst] at h; done) | skip
  rename_i x y pos
  unfold mst at h
  split at h
  · rename_i n p a b p3 p4 hst
    cases hst
    simp only [Bool.and_eq_true, decide_eq_true_eq] at h
    obtain ⟨⟨⟨⟨rfl, rfl⟩, hg⟩, hx⟩, hes⟩ := h
    obtain ⟨g1, g2, g3⟩ := glB_gl ok hg
    obtain ⟨C, fI, T⟩ := ok.tab.prob hx
    obtain ⟨kk, hrm⟩ := ok.rm
    have hp := mts_plain hes
    simp only [List.all_cons, Bool.and_eq_true] at hp
    refine ps_imp (ps_raise ok.calm ok.tk (pmk_prob T hrm ((se_all es).pa ok hes) g1 (star_plain hp.1) (back_none (by simp only [List.all_cons, Bool.and_eq_true]; exact hp.2)))) fun D σ H ⟨φ, F, A, hr, fr, q⟩ => ?_
    refine ⟨φ, F, A, hr, fr, (okSP.bns (r := evs cl es F A) q hr fr).imp fun ds A1 φ1 H1 e1 hr1 q1 vs rv => ?_⟩
    split at q1
    · rename_i d1 d2
      obtain ⟨v1, v2, rfl, r1, r2⟩ := rv.two
      refine ⟨v1, v2, rfl, fun d hd => ?_⟩
      have x2 : Ext φ1 H1 φ1 (upd H1 d (.xd (xdP v1 v2))) := Ext.beside hd
      exact q1 φ1 _ x2 (hr1.beside hd) σ _ _ ((fr.ext hr e1).ext hr1 x2) ⟨C, T.gC, rfl, .inr ⟨d1, d2, v1, v2, d, rfl, rfl, rfl, upd_same, r1.ext hr1 x2, r2.ext hr1 x2⟩⟩
    · exact q1.elim
  · cases h

/-! ### an except clause's suite -/
theorem XRep.ext {G : Md} {φ φ' : Ph} {H H' : Hp} {A : AH} {x : Xc} {cls : Value} {d : Option Addr} (hr : HR G φ H A) (e : Ext φ H φ' H') (r : XRep G φ H x cls d) : XRep G φ' H' x cls d := by
  obtain ⟨C, g, rfl, h⟩ := r
  refine ⟨C, g, rfl, ?_⟩
  rcases h with h | ⟨d1, d2, v1, v2, a, h1, h2, h3, h4, r1, r2⟩
  · exact .inl h
  · exact .inr ⟨d1, d2, v1, v2, a, h1, h2, h3, e.keep a _ h4 (hr.notMem h4 (fun z => z)), r1.ext hr e, r2.ext hr e⟩
def tH (G : Md) (i : Option Nat) (a : Addr) (cls : Value) (d : Option Addr) (e : HE) : TE := fun σ H Q => ∃ φ A x r, HR G φ H A ∧ XRep G φ H x cls d ∧ (∀ j, i = some j → σ[j]? = some (some (V.ref a))) ∧ evH x e = some r ∧ VC G φ H Q r A
def tHs (G : Md) (i : Option Nat) (a : Addr) (cls : Value) (d : Option Addr) (e : HE) : TA := fun σ H Q => ∃ φ A x rs, HR G φ H A ∧ XRep G φ H x cls d ∧ (∀ j, i = some j → σ[j]? = some (some (V.ref a))) ∧ evHs x e = some rs ∧
  ∀ φ' H' vs, Ext φ H φ' H' → HR G φ' H' A → Reps G φ' H' rs vs → Q vs H'
theorem mhe_plain {e : HE} {nm : Option Str} {x : Expr} (h : mhe e nm x = true) : plainB x = true := by
  cases x <;> first | rfl | (exfalso; revert h; cases e <;> cases nm <;> simp [mhe])
theorem mhes_plain : ∀ {e : HE} {nm : Option Str} {xs : List Expr}, mhes e nm xs = true → xs.all plainB = true
  | .nil, nm, xs, h => by
    cases xs with
    | nil => rfl
    | cons => simp [mhes] at h
  | .cons a r, nm, xs, h => by
    cases xs with
    | nil => rfl
    | cons x xs =>
      have h : mhe a nm x = true ∧ mhes r nm xs = true := by simpa [mhes] using h
      rw [List.all_cons, mhe_plain h.1, mhes_plain h.2]; rfl
  | .non, _, _, h | .bl _, _, _, h | .int _, _, _, h | .str _, _, _, h | .fld _, _, _, h | .tup _, _, _, h => by simp [mhes] at h
section
variable {c : SC} {i : Option Nat} {nm : Option Str} {a : Addr} {oe : Obj} {cls : Value} {d : Option Addr} {pn : List (Addr × Obj)}
theorem he_both (ok : CtxOk X c cl W) (hi : inB i c nm = true) (hx : nm.isSome = true → c.xpb = true) (hz : Zc cls d oe) (hf : ∃ vs, oe.data = .fields vs) : ∀ e : HE,
    (∀ {x : Expr}, mhe e nm x = true → PE (X.suite a ((a, oe) :: pn)) x (tH (Gd X) i a cls d e)) ∧ (∀ {xs : List Expr}, mhes e nm xs = true → PA (X.suite a ((a, oe) :: pn)) xs (tHs (Gd X) i a cls d e))
  | .non => ⟨fun {x} h => by
      cases x <;> first | (simp [mhe] at h; done) | skip
      rename_i k j p
      cases k <;> first | (simp [mhe] at h; done) | skip
      exact pe_imp pe_non fun σ H Q ⟨φ, A, x, r, hr, xr, hs, he, q⟩ => by cases he; exact q.here hr rfl, fun h => by simp [mhes] at h⟩
  | .bl b => ⟨fun {x} h => by
      cases x <;> first | (simp [mhe] at h; done) | skip
      rename_i k j p
      cases k <;> first | (simp [mhe] at h; done) | skip
      rename_i z
      have h : b = z := by simpa [mhe] using h
      subst h
      exact pe_imp pe_bl fun σ H Q ⟨φ, A, x, r, hr, xr, hs, he, q⟩ => by cases he; exact q.here hr rfl, fun h => by simp [mhes] at h⟩
  | .int b => ⟨fun {x} h => by
      cases x <;> first | (simp [mhe] at h; done) | skip
      rename_i k j p
      cases k <;> first | (simp [mhe] at h; done) | skip
      rename_i z
      have h : b = z := by simpa [mhe] using h
      subst h
      exact pe_imp pe_int fun σ H Q ⟨φ, A, x, r, hr, xr, hs, he, q⟩ => by cases he; exact q.here hr rfl, fun h => by simp [mhes] at h⟩
  | .str b => ⟨fun {x} h => by
      cases x <;> first | (simp [mhe] at h; done) | skip
      rename_i k j p
      cases k <;> first | (simp [mhe] at h; done) | skip
      rename_i z
      have h : z = Str.ofString b := by simpa [mhe] using h
      subst h
      exact pe_imp pe_str fun σ H Q ⟨φ, A, x, r, hr, xr, hs, he, q⟩ => by cases he; exact q.here hr rfl, fun h => by simp [mhes] at h⟩
  | .fld f => ⟨fun {x} h => by
      cases nm with
      | none => simp [mhe] at h
      | some n =>
        cases x <;> first | (simp [mhe] at h; done) | skip
        rename_i o g p
        cases o <;> first | (simp [mhe] at h; done) | skip
        rename_i m p2
        have h : (decide (m = n) && decide (g = Str.ofString f) && (decide (f = "code") || decide (f = "path"))) = true := h
        simp only [Bool.and_eq_true, Bool.or_eq_true, decide_eq_true_eq] at h
        obtain ⟨⟨rfl, rfl⟩, hff⟩ := h
        cases i with
        | none => simp [inB] at hi
        | some i =>
          have hi : (decide (c.N[i]? = some m) && decide (c.sc.names.lookup m = some .local) && decide ((m == ("__debug__" : Str)) = false) && decide ((m == ("__classdict__" : Str)) = false)) = true := hi
          simp only [Bool.and_eq_true, decide_eq_true_eq] at hi
          obtain ⟨⟨⟨i1, i2⟩, i3⟩, i4⟩ := hi
          obtain ⟨C, fI, T⟩ := ok.tab.prob (hx rfl)
          have hv : PE (X.suite a ((a, oe) :: pn)) (.Name m p2) _ := pe_var (X := X.suite a ((a, oe) :: pn)) (i := i) (by show X.N[i]? = _; rw [ok.N]; exact i1) (by
            show Vis X.env.scope m
            rw [ok.sc]
            unfold Vis
            simp [i2]) i3 i4
          have hn : PySem.W.findIn X.K (.ref C) (Str.ofString f) = some none := by
            rcases hff with rfl | rfl
            · exact T.noC
            · exact T.noP
          refine pe_imp (pe_fldP (X := X) T hn hz hf hv (attr_plain (e := .var i) (c := c) (by
            show (decide (c.N[i]? = some m) && visB c.sc m && decide ((m == ("__debug__" : Str)) = false) && decide ((m == ("__classdict__" : Str)) = false)) = true
            simp [i1, i3, i4, visB, i2]))) fun σ H Q ⟨φ, A, x, r, hr, xr, hs, he, q⟩ => ?_
          refine ⟨.ref a, hs i rfl, rfl, ?_⟩
          obtain ⟨C', g', rfl, ⟨h1, _⟩ | ⟨d1, d2, v1, v2, dd, hcl, h1, h2, h3, r1, r2⟩⟩ := xr
          · have he : fget x.fs f = some r := he
            rw [h1] at he; cases he
          · have hC : C' = C := by
              rw [hcl] at g'
              have := g'.symm.trans T.gC
              cases this; rfl
            subst hC
            have he : fget x.fs f = some r := he
            rw [h1] at he
            rcases hff with rfl | rfl
            · have : d1 = r := by simpa [fget] using he
              subst this
              exact ⟨rfl, dd, v1, v2, v1, h2, h3, xdP_code, q.here hr r1⟩
            · have : d2 = r := by simpa [fget] using he
              subst this
              exact ⟨rfl, dd, v1, v2, v2, h2, h3, xdP_path, q.here hr r2⟩, fun h => by simp [mhes] at h⟩
  | .tup es => ⟨fun {x} h => by
      cases x <;> first | (simp [mhe] at h; done) | skip
      rename_i xs k p
      have h : mhes es nm xs = true := h
      refine pe_imp (pe_tup ((he_both ok hi hx hz hf es).2 h)) fun σ H Q ⟨φ, A, x, r, hr, xr, hs, he, q⟩ => ?_
      have he : (match evHs x es with | some ds => if ds.length ≤ sizeLine then some (D.tup ds) else none | none => none) = some r := he
      cases e : evHs x es with
      | none => rw [e] at he; cases he
      | some ds =>
        rw [e] at he
        by_cases hl : ds.length ≤ sizeLine
        · simp only [if_pos hl] at he
          cases he
          exact ⟨φ, A, x, ds, hr, xr, hs, e, fun φ' H' vs e' hr' rv => ⟨by rw [rv.length]; exact hl, fun p hp => (q.ext e').tup hr' hp rv⟩⟩
        · simp only [if_neg hl] at he; (cases he), fun h => by simp [mhes] at h⟩
  | .nil => ⟨fun h => by simp [mhe] at h, fun {xs} h => by
      cases xs with
      | nil => exact pa_imp pa_nil fun σ H Q ⟨φ, A, x, rs, hr, xr, hs, he, q⟩ => by cases he; exact q φ H [] .refl hr rfl
      | cons => simp [mhes] at h⟩
  | .cons b r => ⟨fun h => by simp [mhe] at h, fun {xs} h => by
      cases xs with
      | nil => simp [mhes] at h
      | cons x xs =>
        have h : (mhe b nm x && mhes r nm xs) = true := h
        simp only [Bool.and_eq_true] at h
        refine pa_imp (pa_cons ((he_both ok hi hx hz hf b).1 h.1) ((he_both ok hi hx hz hf r).2 h.2) (star_plain (mhe_plain h.1))) fun σ H Q ⟨φ, A, x, rs, hr, xr, hs, he, q⟩ => ?_
        have he : (match evH x b, evHs x r with | some d, some ds => some (d :: ds) | _, _ => none) = some rs := he
        cases e1 : evH x b with
        | none => rw [e1] at he; cases he
        | some d1 =>
          cases e2 : evHs x r with
          | none => rw [e1, e2] at he; cases he
          | some ds =>
            rw [e1, e2] at he
            cases he
            exact ⟨φ, A, x, d1, hr, xr, hs, e1, fun φ1 H1 v e3 hr1 rv => ⟨φ1, A, x, ds, hr1, xr.ext hr e3, hs, e2, fun φ2 H2 vs e4 hr2 rvs => q φ2 H2 _ (e3.trans e4) hr2 (.cons (rv.ext hr1 e4) rvs)⟩⟩⟩
def tHd (G : Md) (i : Option Nat) (h : Hd) (a : Addr) (cls : Value) (d : Option Addr) : TS := fun D σ H => ∃ x φ F A, HR G φ H A ∧ FR G φ H F σ ∧ XRep G φ H x cls d ∧ (∀ j, i = some j → σ[j]? = some (some (V.ref a))) ∧ okSP G φ H (pEnds G (fun _ _ _ _ => False) D) (hdS x h F A)
theorem hd_ok (ok : CtxOk X c cl W) (hi : inB i c nm = true) (hx : nm.isSome = true → c.xpb = true) (hz : Zc cls d oe) (hf : ∃ vs, oe.data = .fields vs) {h : Hd} {sts : List Stmt} (hm : mhd h c nm sts = true) :
    PSs (X.suite a ((a, oe) :: pn)) sts (tHd (Gd X) i h a cls d) := by
  have bd := he_both (a := a) (pn := pn) ok hi hx hz hf
  cases h with
  | ret e =>
    rcases sts with _ | ⟨st, _ | _⟩ <;> first | (simp [mhd] at hm; done) | skip
    · cases st <;> first | (simp [mhd] at hm; done) | skip
      rename_i o pos
      cases o <;> first | (simp [mhd] at hm; done) | skip
      rename_i x
      refine pss_imp (pss_cons (ps_ret ((bd e).1 hm)) pss_nil) fun D σ H ⟨x, φ, F, A, hr, fr, xr, hs, q⟩ => ?_
      have q : okSP (Gd X) φ H (pEnds (Gd X) (fun _ _ _ _ => False) D) (match evH x e with | some d => .rt d A | none => .no) := q
      cases he : evH x e with
      | none => rw [he] at q; exact q.elim
      | some r =>
        rw [he] at q
        exact ⟨φ, A, x, r, hr, xr, hs, he, fun φ' H' v e' hr' rv => q φ' H' e' hr' v rv⟩
    all_goals (exfalso; revert hm; cases st <;> simp [mhd]; done)
  | set j e =>
    rcases sts with _ | ⟨st, _ | _⟩ <;> first | (simp [mhd] at hm; done) | skip
    · cases st <;> first | (simp [mhd] at hm; done) | skip
      rename_i tgs x pos
      rcases tgs with _ | ⟨tg, _ | _⟩ <;> first | (simp [mhd] at hm; done) | skip
      · cases tg <;> first | (simp [mhd] at hm; done) | skip
        rename_i n py
        have hm : (decide (c.N[j]? = some n) && c.sto.contains n && mhe e nm x) = true := hm
        simp only [Bool.and_eq_true, decide_eq_true_eq] at hm
        obtain ⟨⟨hn, hs⟩, he⟩ := hm
        obtain ⟨h1, h2⟩ := ok.sto n (by simpa using hs)
        have hcs : compScope x = none := by
          cases x <;> first | rfl | (exfalso; revert he; cases e <;> cases nm <;> simp [mhe])
        refine pss_imp (pss_cons (ps_set (X := X.suite a ((a, oe) :: pn)) (i := j) (by show X.N.Nodup; rw [ok.N]; exact ok.nd) (by show X.N[j]? = _; rw [ok.N]; exact hn) h1 ((bd e).1 he) (sw_none hcs) h2) pss_nil) fun D σ H ⟨x, φ, F, A, hr, fr, xr, hs, q⟩ => ?_
        have q : okSP (Gd X) φ H (pEnds (Gd X) (fun _ _ _ _ => False) D) (match evH x e with | some d => .nx (fset F j d) A | none => .no) := q
        cases he : evH x e with
        | none => rw [he] at q; exact q.elim
        | some r =>
          rw [he] at q
          exact ⟨φ, A, x, r, hr, xr, hs, he, fun φ' H' v e' hr' rv => q φ' H' e' hr' _ ((fr.ext hr e').set j rv)⟩
    all_goals (exfalso; revert hm; cases st <;> simp [mhd]; done)
  | cont =>
    rcases sts with _ | ⟨st, _ | _⟩ <;> first | (simp [mhd] at hm; done) | skip
    · cases st <;> first | (simp [mhd] at hm; done) | skip
      exact pss_imp (pss_cons ps_continue pss_nil) fun D σ H ⟨x, φ, F, A, hr, fr, xr, hs, q⟩ => q φ H .refl hr σ fr
    all_goals (exfalso; revert hm; cases st <;> simp [mhd]; done)
  | brk =>
    rcases sts with _ | ⟨st, _ | _⟩ <;> first | (simp [mhd] at hm; done) | skip
    · cases st <;> first | (simp [mhd] at hm; done) | skip
      exact pss_imp (pss_cons ps_break pss_nil) fun D σ H ⟨x, φ, F, A, hr, fr, xr, hs, q⟩ => q φ H .refl hr σ fr
    all_goals (exfalso; revert hm; cases st <;> simp [mhd]; done)
  | pas =>
    rcases sts with _ | ⟨st, _ | _⟩ <;> first | (simp [mhd] at hm; done) | skip
    · cases st <;> first | (simp [mhd] at hm; done) | skip
      exact pss_imp (pss_cons ps_pass pss_nil) fun D σ H ⟨x, φ, F, A, hr, fr, xr, hs, q⟩ => q φ H .refl hr σ fr
    all_goals (exfalso; revert hm; cases st <;> simp [mhd]; done)
end
theorem FR.set0 {G : Md} {φ : Ph} {H : Hp} {F : Fr} {σ : L2.St} (r : FR G φ H F σ) (i : Nat) (o : Option V) : FR G φ H (F.set i none) (σ.set i o) := by
  refine ⟨by simp [r.1], fun j e h => ?_⟩
  by_cases hj : i = j
  · subst hj
    by_cases hl : i < F.length
    · rw [List.getElem?_set_self hl] at h; cases h
    · rw [List.getElem?_eq_none (by simpa using hl)] at h; cases h
  · rw [List.getElem?_set_ne hj] at h
    obtain ⟨w, e1, r1⟩ := r.2 j e h
    exact ⟨w, by rw [List.getElem?_set_ne hj]; exact e1, r1⟩
theorem CtxOk.tr {c : SC} (ok : CtxOk X c cl W) {W' : WX} {pn : List (Addr × Obj)} {xe : Value → Shared → Prop} (tk : Takes (X.tr pn xe) W') (ps : PassesOwn (model X.prog X.w) X.A X.env xe) : CtxOk (X.tr pn xe) c cl W' :=
  { N := ok.N, nd := ok.nd, sc := ok.sc, calm := ok.calm, kd := ok.kd, hu := ok.hu, tk := tk, ps := ps, fb := ok.fb, bn := ok.bn, sto := ok.sto, calls := ok.calls, csts := ok.csts, mks := ok.mks, meths := ok.meths, tab := ok.tab, rm := ok.rm }
theorem tr_exc {c : SC} {k : String} {cs : List String} (ok : CtxOk X c cl W) (hk : k ∈ c.xcs) (hcs : cs.all c.xcs.contains = true) {φ : Ph} {H : Hp} {x : Xc} {cls : Value} {dd : Option Addr} {C : Value} (hC : X.mg (Str.ofString k) = some C) (xr : XRep (Gd X) φ H x cls dd)
    (hx : x.cls = k ∨ cs.contains x.cls = true) : PySem.W.exmOne X.K cls C = some (decide (x.cls = k)) := by
  have hm : x.cls ∈ c.xcs := by
    rcases hx with h | h
    · rw [h]; exact hk
    · have := List.all_eq_true.mp hcs x.cls (by simpa using h)
      simpa using this
  obtain ⟨C1, C2, g1, g2, e⟩ := ok.tab.xcs _ hm _ hk
  obtain ⟨C', g', rfl, _⟩ := xr
  have h1 := g'.symm.trans g1
  cases h1
  have h2 := hC.symm.trans g2
  cases h2
  exact e
theorem st_tr {c : SC} {b : Sm} {k : String} {cs : List String} {i : Option Nat} {h : Hd} {st : Stmt} (ok : CtxOk X c cl W) (so : StOk X)
    (hb : ∀ {X : Cx} {W : WX}, CtxOk X c cl W → StOk X → ∀ {sts : List Stmt}, mss b c sts = true → PSs X sts (tS (Gd X) cl N W b)) (hm : mst (.tr b k cs i h) c st = true) : PS X st (tS (Gd X) cl N W (.tr b k cs i h)) := by
  cases st <;> first | (simp [mst] at hm; done) | skip
  rename_i body hds el fi pos
  unfold mst at hm
  split at hm
  · rename_i body' n np nm suite hp pos' hst
    cases hst
    simp only [Bool.and_eq_true, decide_eq_true_eq, Bool.or_eq_true, Bool.not_eq_true'] at hm
    obtain ⟨⟨⟨⟨⟨⟨⟨rfl, hg⟩, hk⟩, hcs⟩, hpb⟩, hi⟩, hbd⟩, hh⟩ := hm
    obtain ⟨g1, g2, g3⟩ := glB_gl ok hg
    have hk : k ∈ c.xcs := by simpa using hk
    have hpb : nm.isSome = true → c.xpb = true := fun z => by
      rcases hpb with y | y
      · rw [y] at z; cases z
      · exact y
    obtain ⟨C, C2, hC, hC2, _⟩ := ok.tab.xcs _ hk _ hk
    have nms : Names X (Str.ofString k) (.ref C) := ⟨g1, g2, .inl hC⟩
    rcases suite with _ | ⟨b0, suite⟩
    · exfalso
      cases h <;> simp [mhd] at hh
    cases nm with
    | none =>
      cases i with
      | some i => simp [inB] at hi
      | none =>
        refine ps_imp (ps_try_only (tb := fun W => tS (Gd X) cl N W b) (ts := fun a cls d => tHd (Gd X) none h a cls d) so.stk so.frm nms ok.tk
          (fun W' pn xe tk ps => hb (X := X.tr pn xe) (ok.tr tk ps) ⟨so.stk, so.frm⟩ hbd) (fun a oe cls d pn hz hf => hd_ok ok hi hpb hz hf hh)) fun D σ H ⟨φ, F, A, hr, fr, q⟩ => ?_
        refine ⟨φ, F, A, hr, fr, ?_⟩
        have q : okSP (Gd X) φ H (pEnds (Gd X) W D) (trR k cs none h (sx cl N b F A)) := q
        cases e : sx cl N b F A with
        | nx F' A' => rw [e] at q; exact q
        | bk F' A' => rw [e] at q; exact q
        | ct F' A' => rw [e] at q; exact q
        | rt d A' => rw [e] at q; exact q
        | no => rw [e] at q; exact q
        | exc x F' A' =>
          rw [e] at q
          intro φ' H' e' hr' σ' cls dd fr' xr
          have q : okSP (Gd X) φ H (pEnds (Gd X) W D) (if x.cls = k then (if inO F' none then wipS none (hdS x h (wipeO F' none) A') else .no) else if cs.contains x.cls then .exc x F' A' else .no) := q
          by_cases hx : x.cls = k
          · refine ⟨true, by rw [tr_exc ok hk hcs hC xr (.inl hx), decide_eq_true hx], fun _ a ha => ?_, fun z => by cases z⟩
            rw [if_pos hx, if_pos (show inO F' none = true from rfl)] at q
            have q := q.ext e'
            refine ⟨x, φ', F', A', hr', fr', xr, fun j z => (by cases z), ?_⟩
            show okSP _ _ _ _ (hdS x h (wipeO F' none) A')
            cases e2 : hdS x h (wipeO F' none) A' with
            | nx F2 A2 => rw [e2] at q; exact q
            | bk F2 A2 => rw [e2] at q; exact q
            | ct F2 A2 => rw [e2] at q; exact q
            | rt d A2 => rw [e2] at q; exact q
            | exc y F2 A2 => rw [e2] at q; exact q.elim
            | no => rw [e2] at q; exact q.elim
          · rw [if_neg hx] at q
            by_cases hc : cs.contains x.cls = true
            · rw [if_pos hc] at q
              refine ⟨false, by rw [tr_exc ok hk hcs hC xr (.inr hc), decide_eq_false hx], fun z => (by cases z), fun _ => ?_⟩
              exact q φ' H' e' hr' σ' cls dd fr' xr
            · rw [if_neg hc] at q; exact q.elim
    | some n =>
      cases i with
      | none => simp [inB] at hi
      | some i =>
        have hi' : (decide (c.N[i]? = some n) && decide (c.sc.names.lookup n = some .local) && decide ((n == ("__debug__" : Str)) = false) && decide ((n == ("__classdict__" : Str)) = false)) = true := hi
        simp only [Bool.and_eq_true, decide_eq_true_eq] at hi'
        obtain ⟨⟨⟨i1, i2⟩, i3⟩, i4⟩ := hi'
        refine ps_imp (ps_try_as (i := i) (tb := fun W => tS (Gd X) cl N W b) (ts := fun a cls d => tHd (Gd X) (some i) h a cls d) so.stk so.frm (by rw [ok.N]; exact ok.nd) (by rw [ok.N]; exact i1) (by show X.env.scope.names.lookup n = _; rw [ok.sc]; exact i2) nms ok.tk
          (fun W' pn xe tk ps => hb (X := X.tr pn xe) (ok.tr tk ps) ⟨so.stk, so.frm⟩ hbd) (fun a oe cls d pn hz hf => hd_ok ok hi hpb hz hf hh)) fun D σ H ⟨φ, F, A, hr, fr, q⟩ => ?_
        refine ⟨φ, F, A, hr, fr, ?_⟩
        have q : okSP (Gd X) φ H (pEnds (Gd X) W D) (trR k cs (some i) h (sx cl N b F A)) := q
        cases e : sx cl N b F A with
        | nx F' A' => rw [e] at q; exact q
        | bk F' A' => rw [e] at q; exact q
        | ct F' A' => rw [e] at q; exact q
        | rt d A' => rw [e] at q; exact q
        | no => rw [e] at q; exact q
        | exc x F' A' =>
          rw [e] at q
          intro φ' H' e' hr' σ' cls dd fr' xr
          have q : okSP (Gd X) φ H (pEnds (Gd X) W D) (if x.cls = k then (if inO F' (some i) then wipS (some i) (hdS x h (wipeO F' (some i)) A') else .no) else if cs.contains x.cls then .exc x F' A' else .no) := q
          by_cases hx : x.cls = k
          · refine ⟨true, by rw [tr_exc ok hk hcs hC xr (.inl hx), decide_eq_true hx], fun _ a ha => ?_, fun z => by cases z⟩
            rw [if_pos hx] at q
            by_cases hio : inO F' (some i) = true
            · rw [if_pos hio] at q
              have q := q.ext e'
              have hil : i < σ'.length := by
                rw [← fr'.1]
                simpa [inO] using hio
              refine ⟨x, φ', F'.set i none, A', hr', fr'.set0 i _, xr, fun j z => (by cases z; rw [List.getElem?_set_self hil]), ?_⟩
              show okSP _ _ _ _ (hdS x h (wipeO F' (some i)) A')
              cases e2 : hdS x h (wipeO F' (some i)) A' with
              | nx F2 A2 => rw [e2] at q; exact fun φ2 H2 e3 hr3 σ2 fr2 => q φ2 H2 e3 hr3 _ (fr2.set0 i none)
              | bk F2 A2 => rw [e2] at q; exact fun φ2 H2 e3 hr3 σ2 fr2 => q φ2 H2 e3 hr3 _ (fr2.set0 i none)
              | ct F2 A2 => rw [e2] at q; exact fun φ2 H2 e3 hr3 σ2 fr2 => q φ2 H2 e3 hr3 _ (fr2.set0 i none)
              | rt d A2 => rw [e2] at q; exact q
              | exc y F2 A2 => rw [e2] at q; exact q.elim
              | no => rw [e2] at q; exact q.elim
            · rw [if_neg hio] at q; exact q.elim
          · rw [if_neg hx] at q
            by_cases hc : cs.contains x.cls = true
            · rw [if_pos hc] at q
              refine ⟨false, by rw [tr_exc ok hk hcs hC xr (.inr hc), decide_eq_false hx], fun z => (by cases z), fun _ => ?_⟩
              exact q φ' H' e' hr' σ' cls dd fr' xr
            · rw [if_neg hc] at q; exact q.elim
  · cases hm
end
end Ev

/-! ## EvSt3 -/
/-! EvSt3: pairs of names; all statements. -/
namespace Ev
open PySem PySem.Spec PyProof.Rows L2
section
variable {X : Cx} {cl : Cl} {N : Nat} {W : WX}
theorem nostar : ∀ {vs : List Expr}, vs.all plainB = true → (vs.any fun | .Starred .. => true | _ => false) = false
  | [], _ => rfl
  | x :: xs, h => by
    simp only [List.all_cons, Bool.and_eq_true] at h
    rw [List.any_cons, nostar h.2, Bool.or_false]
    cases x <;> first | rfl | (cases h.1; done)
theorem sw_par2 {env : Env} {n m : Str} {p q pt pt2 : Pos} {k k2 : Nat} {a b : Expr} (hk : env.scope.kind = .function) (hp : [a, b].all plainB = true) (h1 : env.scope.names.lookup n = some .local) (h2 : env.scope.names.lookup m = some .local) (hl : (q.line == p.line) = true) (hne : n ≠ m)
    (hf : [a, b].all (foldedForSure 8) = false) (hc : [a, b].all (constantsAlone 8) = false) : swappedStores [.Tuple [.Name n p, .Name m q] k pt] (.Tuple [a, b] k2 pt2) env = pure (some [n, m]) := by
  have hb : env.blockKind = .function := by unfold Env.blockKind; rw [hk]; rfl
  have k1 : env.kindOf n = some .local := h1
  have k2' : env.kindOf m = some .local := h2
  have hs := nostar hp
  have hl' : q.line = p.line := by simpa using hl
  unfold swappedStores
  simp only [hb, hs, hf, hc, k1, k2', List.filterMap_cons, List.filterMap_nil, Expr.pos, List.head?_cons, Option.map_some, Option.getD_some, hl', List.length_cons, List.length_nil]
  simp [List.eraseDups_cons, hne, Ne.symm hne]
  intro h
  exfalso
  simp only [List.all_cons, Bool.and_eq_true] at hp
  rcases h with h | h
  · cases a <;> first | (cases h; done) | (cases hp.1; done)
  · cases b <;> first | (cases h; done) | (cases hp.2.1; done)
theorem sw_par3 {env : Env} {n m l : Str} {p q r pt pt2 : Pos} {k k2 : Nat} {a b c : Expr} (hk : env.scope.kind = .function) (hp : [a, b, c].all plainB = true) (h1 : env.scope.names.lookup n = some .local) (h2 : env.scope.names.lookup m = some .local) (h3 : env.scope.names.lookup l = some .local)
    (hl : (q.line == p.line) = true) (hl2 : (r.line == p.line) = true) (hne : n ≠ m) (hne2 : n ≠ l) (hne3 : m ≠ l)
    (hf : [a, b, c].all (foldedForSure 8) = false) (hc : [a, b, c].all (constantsAlone 8) = false) : swappedStores [.Tuple [.Name n p, .Name m q, .Name l r] k pt] (.Tuple [a, b, c] k2 pt2) env = pure (some [n, m, l]) := by
  have hb : env.blockKind = .function := by unfold Env.blockKind; rw [hk]; rfl
  have k1 : env.kindOf n = some .local := h1
  have k2' : env.kindOf m = some .local := h2
  have k3' : env.kindOf l = some .local := h3
  have hs := nostar hp
  have hl' : q.line = p.line := by simpa using hl
  have hl2' : r.line = p.line := by simpa using hl2
  unfold swappedStores
  simp only [hb, hs, hf, hc, k1, k2', k3', List.filterMap_cons, List.filterMap_nil, Expr.pos, List.head?_cons, Option.map_some, Option.getD_some, hl', hl2', List.length_cons, List.length_nil]
  simp [List.eraseDups_cons, hne, Ne.symm hne, hne2, Ne.symm hne2, hne3, Ne.symm hne3]
  intro h
  exfalso
  simp only [List.all_cons, Bool.and_eq_true] at hp
  rcases h with h | h | h
  · cases a <;> first | (cases h; done) | (cases hp.1; done)
  · cases b <;> first | (cases h; done) | (cases hp.2.1; done)
  · cases c <;> first | (cases h; done) | (cases hp.2.2.1; done)
theorem sw_fold {ts : List Expr} {tk : Nat} {tp : Pos} {x : Expr} {env : Env} (h : (!isTup x || foldB x) = true) : swappedStores [.Tuple ts tk tp] x env = pure none := by
  cases x with
  | Tuple vs k p =>
    have h : vs.all (foldedForSure 8) = true := h
    unfold swappedStores
    simp only [h, if_true]
    repeat' split
    all_goals rfl
  | _ => rfl
theorem ev_tup {es : Ex} {F : Fr} {A : AH} : ev cl (.tup es) F A = bnd (evs cl es F A) fun ds A' => if ds.length ≤ sizeLine then .ok (.tup ds) A' else .no := rfl
/-- the values first, then the stores -/
theorem par_go {t : Tg} {es : Ex} {D : Ends} {σ : L2.St} {H : Hp} {K : List V → Hp → Prop} (h : tS (Gd X) cl N W (.asg t (.tup es)) D σ H)
    (k : ∀ φ H1 F ds F' vs, FR (Gd X) φ H1 F σ → Reps (Gd X) φ H1 ds vs → asgT t (.tup ds) F = some F' → (∀ σ', FR (Gd X) φ H1 F' σ' → D.nx σ' H1) → K vs H1) : tA (Gd X) cl W es σ H K := by
  obtain ⟨φ, F, A, hr, fr, q⟩ := h
  refine ⟨φ, F, A, hr, fr, (okG.bnd (r := evs cl es F A) (okSP.bns (r := ev cl (.tup es) F A) q hr fr)).imp fun ds A1 φ1 H1 e1 hr1 q1 vs rv => ?_⟩
  split at q1
  · have q2 : okSP (Gd X) φ1 H1 (pEnds (Gd X) W D) (match asgT t (.tup ds) F with
      | some F' => .nx F' A1
      | none => .no) := q1 φ1 H1 .refl hr1
    cases ha : asgT t (.tup ds) F with
    | none => rw [ha] at q2; exact q2.elim
    | some F' =>
      rw [ha] at q2
      exact k φ1 H1 F ds F' vs (fr.ext hr e1) rv ha fun σ' frσ => q2 φ1 H1 .refl hr1 σ' frσ
  · exact q1.elim
theorem slot_ne {c : SC} {i j : Nat} {n m : Str} (hi : c.N[i]? = some n) (hj : c.N[j]? = some m) (hne : n ≠ m) : i ≠ j := fun e => by
  subst e
  rw [hi] at hj
  cases hj
  exact hne rfl
theorem st_par {c : SC} {t : Tg} {e : Ex} {tg x : Expr} {pos : Pos} (ok : CtxOk X c cl W) (ht : mtt t c tg = true) (he : mt e c x = true) (h : parB c.sc tg x = true) : PS X (.Assign [tg] x pos) (tS (Gd X) cl N W (.asg t e)) := by
  have nm : ∀ {a : Tg} {n : Str} {p : Pos}, mtt a c (.Name n p) = true → ∃ i, a = .nm i ∧ c.N[i]? = some n := fun {a n p} h => by
    cases a with
    | nm i =>
      have h : (decide (c.N[i]? = some n) && c.sto.contains n) = true := h
      simp only [Bool.and_eq_true, decide_eq_true_eq] at h
      exact ⟨i, rfl, h.1⟩
    | _ => simp [mtt] at h
  have tup : ∀ {e : Ex} {vs : List Expr} {k : Nat} {p : Pos}, mt e c (.Tuple vs k p) = true → ∃ es, e = .tup es ∧ mts es c vs = true := fun {e vs k p} h => by
    cases e with
    | tup es => exact ⟨es, rfl, h⟩
    | _ => simp [mt] at h
  unfold parB at h
  split at h
  · rename_i n p m q k pt vs k2 pt2
    simp only [Bool.and_eq_true, decide_eq_true_eq, Bool.not_eq_true'] at h
    obtain ⟨⟨⟨⟨⟨⟨hl, h1⟩, h2⟩, h3⟩, hne⟩, hf⟩, hc⟩ := h
    obtain ⟨es, rfl, hes⟩ := tup he
    have hp := mts_plain hes
    rcases vs with _ | ⟨a, _ | ⟨b, _ | _⟩⟩ <;> first | (simp at hl; done) | skip
    cases t <;> first | (simp [mtt] at ht; done) | skip
    rename_i ts
    rcases ts with _ | _ | _ | ⟨t1, t2⟩ <;> first | (simp [mtt, mtts] at ht; done) | skip
    rcases t2 with _ | _ | _ | ⟨t2, t3⟩ <;> first | (simp [mtt, mtts] at ht; done) | skip
    rcases t3 with _ | _ | _ | ⟨t3, t4⟩ <;> first | (simp [mtt, mtts] at ht; done) | skip
    have ht : (mtt t1 c (.Name n p) && (mtt t2 c (.Name m q) && true)) = true := ht
    simp only [Bool.and_eq_true] at ht
    obtain ⟨i, rfl, hi⟩ := nm ht.1
    obtain ⟨j, rfl, hj⟩ := nm ht.2.1
    have hij := slot_ne hi hj hne
    refine ps_imp (ps_par (i := i) (j := j) ok.calm (by rw [ok.N]; exact ok.nd) (by rw [ok.N]; exact hi) (by rw [ok.N]; exact hj) hij (by rw [ok.sc]; exact h1) (by rw [ok.sc]; exact h2) ((se_all es).pa ok hes)
      (sw_par2 ok.kd hp (by rw [ok.sc]; exact h1) (by rw [ok.sc]; exact h2) h3 hne hf hc)) fun D σ H q => ?_
    refine par_go q fun φ H1 F ds F' vs fr rv ha k => ?_
    rcases ds with _ | ⟨d, _ | ⟨d2, _ | _⟩⟩ <;> first | (simp [asgT, asgTs] at ha; done) | skip
    obtain ⟨v, w, rfl, r1, r2⟩ := rv.two
    simp [asgT, asgTs] at ha
    subst ha
    exact ⟨v, w, rfl, k _ ((fr.set i r1).set j r2)⟩
  · rename_i n p m q l r k pt vs k2 pt2
    simp only [Bool.and_eq_true, decide_eq_true_eq, Bool.not_eq_true'] at h
    obtain ⟨⟨⟨⟨⟨⟨⟨⟨⟨⟨hl, h1⟩, h2⟩, h2'⟩, h3⟩, h3'⟩, hne⟩, hne2⟩, hne3⟩, hf⟩, hc⟩ := h
    obtain ⟨es, rfl, hes⟩ := tup he
    have hp := mts_plain hes
    rcases vs with _ | ⟨a, _ | ⟨b, _ | ⟨b2, _ | _⟩⟩⟩ <;> first | (simp at hl; done) | skip
    cases t <;> first | (simp [mtt] at ht; done) | skip
    rename_i ts
    rcases ts with _ | _ | _ | ⟨t1, t2⟩ <;> first | (simp [mtt, mtts] at ht; done) | skip
    rcases t2 with _ | _ | _ | ⟨t2, t3⟩ <;> first | (simp [mtt, mtts] at ht; done) | skip
    rcases t3 with _ | _ | _ | ⟨t3, t4⟩ <;> first | (simp [mtt, mtts] at ht; done) | skip
    rcases t4 with _ | _ | _ | ⟨t4, t5⟩ <;> first | (simp [mtt, mtts] at ht; done) | skip
    have ht : (mtt t1 c (.Name n p) && (mtt t2 c (.Name m q) && (mtt t3 c (.Name l r) && true))) = true := ht
    simp only [Bool.and_eq_true] at ht
    obtain ⟨i, rfl, hi⟩ := nm ht.1
    obtain ⟨j, rfl, hj⟩ := nm ht.2.1
    obtain ⟨u, rfl, hu⟩ := nm ht.2.2.1
    refine ps_imp (ps_par3 (i := i) (j := j) (l := u) ok.calm (by rw [ok.N]; exact ok.nd) (by rw [ok.N]; exact hi) (by rw [ok.N]; exact hj) (by rw [ok.N]; exact hu) (slot_ne hi hj hne) (slot_ne hi hu hne2) (slot_ne hj hu hne3) (by rw [ok.sc]; exact h1) (by rw [ok.sc]; exact h2) (by rw [ok.sc]; exact h2') ((se_all es).pa ok hes)
      (sw_par3 ok.kd hp (by rw [ok.sc]; exact h1) (by rw [ok.sc]; exact h2) (by rw [ok.sc]; exact h2') h3 h3' hne hne2 hne3 hf hc)) fun D σ H q => ?_
    refine par_go q fun φ H1 F ds F' vs fr rv ha k => ?_
    rcases ds with _ | ⟨d, _ | ⟨d2, _ | ⟨d3, _ | _⟩⟩⟩ <;> first | (simp [asgT, asgTs] at ha; done) | skip
    obtain ⟨v, vs, rfl, r1, rv⟩ := rv
    obtain ⟨w, z, rfl, r2, r3⟩ := rv.two
    simp [asgT, asgTs] at ha
    subst ha
    exact ⟨v, w, z, rfl, k _ (((fr.set i r1).set j r2).set u r3)⟩
  · cases h
theorem st_asg {c : SC} {t : Tg} {e : Ex} {st : Stmt} (ok : CtxOk X c cl W) (h : mst (.asg t e) c st = true) : PS X st (tS (Gd X) cl N W (.asg t e)) := by
  cases st <;> first | (simp [mst] at h; done) | skip
  rename_i tgs x pos
  rcases tgs with _ | ⟨tg, _ | _⟩ <;> first | (simp [mst] at h; done) | skip
  have h : (isTupSm t && mtt t c tg && mt e c x && (!isTup x || (parB c.sc tg x || foldB x))) = true := h
  simp only [Bool.and_eq_true] at h
  obtain ⟨⟨⟨h0, h1⟩, h2⟩, h3⟩ := h
  cases hb : parB c.sc tg x with
  | true => exact st_par ok h1 h2 hb
  | false =>
    rw [hb, Bool.false_or] at h3
    cases t <;> first | (cases h0; done) | skip
    rename_i ts
    cases tg <;> first | (simp [mtt] at h1; done) | skip
    refine ps_imp (ps_asg ((se_all e).pe ok h2) (pg_of ok h1) (by cases x <;> rfl) (sw_fold h3)) fun D σ H ⟨φ, F, A, hr, fr, q⟩ => ?_
    refine ⟨φ, F, A, hr, fr, (okSP.bns (r := ev cl e F A) q hr fr).imp fun d A1 φ1 H1 e1 hr1 q1 v rv => ?_⟩
    cases ha : asgT (.tu ts) d F with
    | none => rw [ha] at q1; exact q1.elim
    | some F' =>
      rw [ha] at q1
      exact ⟨φ1, F, A1, d, F', hr1, fr.ext hr e1, rv, ha, fun σ' frσ _ => q1 φ1 H1 .refl hr1 σ' frσ⟩

/-! ### all -/
theorem st_ite {c : SC} {k : Ex} {a b : Sm} {st : Stmt} (ok : CtxOk X c cl W) (ha : ∀ {sts : List Stmt}, mss a c sts = true → PSs X sts (tS (Gd X) cl N W a)) (hb : ∀ {sts : List Stmt}, mss b c sts = true → PSs X sts (tS (Gd X) cl N W b))
    (h : mst (.ite k a b) c st = true) : PS X st (tS (Gd X) cl N W (.ite k a b)) := by
  cases st <;> first | (simp [mst] at h; done) | skip
  rename_i t xs ys pos
  have h : (mt k c t && mss a c xs && mss b c ys) = true := h
  simp only [Bool.and_eq_true] at h
  refine ps_imp (ps_if ((se_all k).pt ok h.1.1) (ha h.1.2) (hb h.2)) fun D σ H ⟨φ, F, A, hr, fr, q⟩ => ?_
  refine ⟨φ, F, A, hr, fr, (okSP.bns (r := tru (ev cl k F A)) q hr fr).imp fun r A1 φ1 H1 e1 hr1 q1 => ?_⟩
  cases r with
  | true => exact ⟨φ1, F, A1, hr1, fr.ext hr e1, q1⟩
  | false => exact ⟨φ1, F, A1, hr1, fr.ext hr e1, q1⟩
theorem st_for {c : SC} {t : Tg} {it : Ex} {b : Sm} {st : Stmt} (ok : CtxOk X c cl W) (hb : ∀ {sts : List Stmt}, mss b c sts = true → PSs X sts (tS (Gd X) cl N W b)) (h : mst (.for t it b) c st = true) : PS X st (tS (Gd X) cl N W (.for t it b)) := by
  cases st <;> first | (simp [mst] at h; done) | skip
  rename_i tg iter body orelse pos
  cases orelse <;> first | (simp [mst] at h; done) | skip
  have h : (mtw it c iter tg && mtt t c tg && mss b c body) = true := h
  simp only [Bool.and_eq_true] at h
  exact ps_imp (ps_unl (ps_for ok.ps ok.calm ((se_all it).pi ok h.1.1) (pg_of ok h.1.2) (hb h.2) (fun x => folded_plain (mtw_plain h.1.1)))) fun D σ H q => for_read q
theorem st_whl {c : SC} {k : Ex} {b : Sm} {st : Stmt} (ok : CtxOk X c cl W) (hb : ∀ {sts : List Stmt}, mss b c sts = true → PSs X sts (tS (Gd X) cl N W b)) (h : mst (.whl k b) c st = true) : PS X st (tS (Gd X) cl N W (.whl k b)) := by
  cases st <;> first | (simp [mst] at h; done) | skip
  rename_i t body orelse pos
  cases orelse <;> first | (simp [mst] at h; done) | skip
  have h : (mt k c t && mss b c body) = true := h
  simp only [Bool.and_eq_true] at h
  exact ps_imp (ps_while ok.ps ((se_all k).pt ok h.1) (hb h.2)) fun D σ H q => while_read q
theorem ss_seq {c : SC} {a b : Sm} {sts : List Stmt} (ha : ∀ {st : Stmt}, mst a c st = true → PS X st (tS (Gd X) cl N W a)) (hb : ∀ {sts : List Stmt}, mss b c sts = true → PSs X sts (tS (Gd X) cl N W b)) (h : mss (.seq a b) c sts = true) : PSs X sts (tS (Gd X) cl N W (.seq a b)) := by
  cases sts with
  | nil => simp [mss] at h
  | cons x xs =>
    have h : (mst a c x && mss b c xs) = true := by simpa [mss] using h
    simp only [Bool.and_eq_true] at h
    refine pss_imp (pss_cons (ha h.1) (hb h.2)) fun D σ H ⟨φ, F, A, hr, fr, q⟩ => ⟨φ, F, A, hr, fr, ?_⟩
    have q : okSP (Gd X) φ H (pEnds (Gd X) W D) (match sx cl N a F A with
      | .nx F' A' => sx cl N b F' A'
      | x => x) := q
    cases e : sx cl N a F A with
    | nx F' A' => rw [e] at q; exact fun φ' H' e' hr' σ' fr' => ⟨φ', F', A', hr', fr', okSP.ext (r := sx cl N b F' A') q e'⟩
    | bk F' A' => rw [e] at q; exact q
    | ct F' A' => rw [e] at q; exact q
    | rt d A' => rw [e] at q; exact q
    | exc y F' A' => rw [e] at q; exact q
    | no => rw [e] at q; exact q.elim
theorem ss_skip {c : SC} {sts : List Stmt} (h : mss .skip c sts = true) : PSs X sts (tS (Gd X) cl N W .skip) := by
  cases sts with
  | cons => simp [mss] at h
  | nil => exact pss_imp pss_nil fun D σ H ⟨φ, F, A, hr, fr, q⟩ => q φ H .refl hr σ fr
theorem st_skip {c : SC} {st : Stmt} (h : mst .skip c st = true) : PS X st (tS (Gd X) cl N W .skip) := by
  cases st <;> first | (simp [mst] at h; done) | skip
  exact ps_imp ps_pass fun D σ H ⟨φ, F, A, hr, fr, q⟩ => q φ H .refl hr σ fr
theorem st_brk {c : SC} {st : Stmt} (h : mst .brk c st = true) : PS X st (tS (Gd X) cl N W .brk) := by
  cases st <;> first | (simp [mst] at h; done) | skip
  exact ps_imp ps_break fun D σ H ⟨φ, F, A, hr, fr, q⟩ => q φ H .refl hr σ fr
theorem st_cont {c : SC} {st : Stmt} (h : mst .cont c st = true) : PS X st (tS (Gd X) cl N W .cont) := by
  cases st <;> first | (simp [mst] at h; done) | skip
  exact ps_imp ps_continue fun D σ H ⟨φ, F, A, hr, fr, q⟩ => q φ H .refl hr σ fr
theorem ss_all {cl : Cl} {N : Nat} {c : SC} : ∀ {X : Cx} {W : WX} (ok : CtxOk X c cl W) (so : StOk X) (b : Sm), (∀ {st : Stmt}, mst b c st = true → PS X st (tS (Gd X) cl N W b)) ∧ ∀ {sts : List Stmt}, mss b c sts = true → PSs X sts (tS (Gd X) cl N W b)
  | X, W, ok, so, .skip => ⟨st_skip, ss_skip⟩
  | X, W, ok, so, .seq a b => ⟨fun h => by simp [mst] at h, ss_seq (ss_all ok so a).1 (ss_all ok so b).2⟩
  | X, W, ok, so, .ex e => ⟨st_ex ok, fun h => by simp [mss] at h⟩
  | X, W, ok, so, .set i e => ⟨st_set ok, fun h => by simp [mss] at h⟩
  | X, W, ok, so, .asg t e => ⟨st_asg ok, fun h => by simp [mss] at h⟩
  | X, W, ok, so, .sub o i e => ⟨st_sub ok, fun h => by simp [mss] at h⟩
  | X, W, ok, so, .ret e => ⟨st_ret ok, fun h => by simp [mss] at h⟩
  | X, W, ok, so, .ite k a b => ⟨st_ite ok (ss_all ok so a).2 (ss_all ok so b).2, fun h => by simp [mss] at h⟩
  | X, W, ok, so, .for t it b => ⟨st_for ok (ss_all ok so b).2, fun h => by simp [mss] at h⟩
  | X, W, ok, so, .whl k b => ⟨st_whl ok (ss_all ok so b).2, fun h => by simp [mss] at h⟩
  | X, W, ok, so, .brk => ⟨st_brk, fun h => by simp [mss] at h⟩
  | X, W, ok, so, .cont => ⟨st_cont, fun h => by simp [mss] at h⟩
  | X, W, ok, so, .fst o k f e => ⟨st_fst ok, fun h => by simp [mss] at h⟩
  | X, W, ok, so, .fau o k f op e => ⟨st_fau ok, fun h => by simp [mss] at h⟩
  | X, W, ok, so, .rs0 k => ⟨st_rs0 ok, fun h => by simp [mss] at h⟩
  | X, W, ok, so, .rs2 k es => ⟨st_rs2 ok, fun h => by simp [mss] at h⟩
  | X, W, ok, so, .tr b k cs i h => ⟨st_tr ok so (fun {_} {_} ok' so' {_} h' => (ss_all ok' so' b).2 h'), fun h => by simp [mss] at h⟩
end
end Ev

/-! ## EvFn -/
/-! EvFn: defs, calls, the law. -/
namespace Ev
open PySem PySem.Spec PyProof.Rows L2
/-- a def of the text: its name, its slots, how many of them are parameters -/
structure FT where
  f : String
  np : Nat
  N : List Str
  d : He.DefD
  at_ : Option (String × String) := none
/-- the tables of a text: its defs, constants, fields, classes that are made, methods, own exceptions -/
structure Tb where
  fns : List String := []
  csts : List (String × D) := []
  flds : List (String × String) := []
  mks : List (String × String) := []
  meths : List (String × String × String) := []
  xos : List String := []
  xcs : List String := []
  xpb : Bool := false
def FT.ps (t : FT) : List Str := t.N.take t.np
def FT.sc (t : FT) (tb : Tb) : SC := ⟨t.N, t.d.scope, stoOf t.d.scope, tb.fns, tb.csts, tb.flds, tb.mks, tb.meths, tb.xos, tb.xcs, tb.xpb⟩
/-- the def's text is the evaluator's -/
def Tb.leaf (tb : Tb) : Tb := { tb with fns := [], mks := [], meths := [] }
def isInit (t : FT) : Bool := match t.at_ with
  | some (_, m) => decide (m = "__init__")
  | none => false
def rowB (pg : Pg) (tb : Tb) (t : FT) : Bool := match pg t.f with
  | some fd => (fd.np == t.np) && (fd.ns == t.N.length) && decide (t.np ≤ t.N.length) && mss fd.body (t.sc tb) t.d.body && (t.d.scope.names.all fun y => decide (t.d.scope.names.lookup y.1 = some y.2))
  | none => false
/-- where a def's address stands: a name of the module, a method -/
def AtOk (K : PySem.W.Frag) (mg : Str → Option Value) (f : String) (fa : Addr) : Option (String × String) → Prop
  | none => mg (Str.ofString f) = some (.ref fa)
  | some (c, m) => ∃ C, mg (Str.ofString c) = some (.ref C) ∧ Cls K C ∧ Meth K C (Str.ofString m) fa ∧ (m = "__init__" → Mk K C fa)
structure RowOk (K : PySem.W.Frag) (mg : Str → Option Value) (pg : Pg) (tb : Tb) (t : FT) : Prop where
  ex : ∃ (fa : Addr) (fd : FuncData) (x qual : Str), AtOk K mg t.f fa t.at_ ∧ FunD K x qual t.d.params t.d.body t.d.scope [] [] fa fd ∧ Binds K fd t.ps []
  S : FnScope t.N t.ps t.d.scope
  b : rowB pg (if isInit t then tb.leaf else tb) t = true
section
variable {P : Program} {w : World} {K : PySem.W.Frag} {mg : Str → Option Value} {base : Heap} {pg : Pg} {NN : Nat} {tb : Tb}
theorem fr_start {G : Md} {φ : Ph} {H : Hp} {fd : Fd} {N : List Str} {ds : List D} {vs : List V} (r : Reps G φ H ds vs) (h1 : fd.ns = N.length) (h2 : ds.length = fd.np) : FR G φ H (startF fd ds) (L2.start N vs) := by
  have hl := r.length
  unfold startF L2.start
  refine ⟨by simp; omega, fun i d e => ?_⟩
  by_cases hi : i < ds.length
  · rw [List.getElem?_append_left (by simpa using hi), List.getElem?_map] at e
    obtain ⟨d', e1, e2⟩ := Option.map_eq_some_iff.mp e
    cases e2
    obtain ⟨v, e3, rv⟩ := r.get e1
    refine ⟨v, ?_, rv⟩
    rw [List.getElem?_append_left (by simp; omega), List.getElem?_map, e3]
    rfl
  · rw [List.getElem?_append_right (by simp; omega), List.getElem?_replicate] at e
    split at e <;> cases e
/-- the text's own defs, as calls -/
structure Alls (P : Program) (w : World) (K : PySem.W.Frag) (mg : Str → Option Value) (base : Heap) (A : Around) (cl : Cl) (tb : Tb) : Prop where
  calls : ∀ f ∈ tb.fns, FnIs P w K mg base A cl f
  mks : ∀ p ∈ tb.mks, MkIs P w K mg base A cl p.1 p.2
  meths : ∀ p ∈ tb.meths, MeIs P w K mg base A cl p.1 p.2.1 p.2.2
theorem fn_law {t : FT} {n k : Nat} {fa : Addr} {fd : FuncData} {x qual : Str} (fb : FreeB mg) (bn : ∀ x ∈ biNames ++ tyBi ++ ["enumerate", "zip", "range"], mg (Str.ofString x) = none)
    (hc : ∀ p ∈ tb.csts, ∃ v u, mg (Str.ofString p.1) = some u ∧ RelV v u ∧ ∀ φ H, Rep ⟨K, mg⟩ φ H p.2 v) (ht : TabOk P K mg tb.flds tb.xos tb.xcs tb.xpb)
    (ih : ∀ A, Room k A → Alls P w K mg base A (callF pg NN n) tb) (F : FunD K x qual t.d.params t.d.body t.d.scope [] [] fa fd) (S : FnScope t.N t.ps t.d.scope) (hB : rowB pg tb t = true) : FnOk P w K mg base (CX P w) (k + 1) fa fd t.ps (spEv ⟨K, mg⟩ (callF pg NN (n + 1)) t.f) := by
  unfold rowB at hB
  cases hp : pg t.f with
  | none => rw [hp] at hB; cases hB
  | some fd' =>
    rw [hp] at hB
    simp only [Bool.and_eq_true, beq_iff_eq, decide_eq_true_eq] at hB
    obtain ⟨⟨⟨⟨b1, b2⟩, b2'⟩, b3⟩, b4⟩ := hB
    have hcall : ∀ ds A, callF pg NN (n + 1) t.f ds A = if ds.length = fd'.np then (match sx (callF pg NN n) NN fd'.body (startF fd' ds) A with
      | .nx _ A' => .ok D.non A'
      | .rt d A' => .ok d A'
      | .exc x _ A' => .exc x A'
      | _ => .no) else .no := fun ds A => by
      show (match pg t.f with
        | none => Res.no
        | some fd => if ds.length = fd.np then (match sx (callF pg NN n) NN fd.body (startF fd ds) A with
          | .nx _ A' => .ok D.non A'
          | .rt d A' => .ok d A'
          | .exc x _ A' => .exc x A'
          | _ => .no) else .no) = _
      rw [hp]
    have hps : t.ps.length = t.np := by
      unfold FT.ps
      rw [List.length_take]
      omega
    refine F.ok S (fun vs H Q E h => ?_) (fun cdv A outer s H vs Q E hr h => ⟨tS ⟨K, mg⟩ (callF pg NN n) NN (fun cls d _ H => E cls d H) fd'.body, ?_, ?_⟩)
    · obtain ⟨φ, A, ds, hr, rs, o⟩ := h
      rw [hcall] at o
      split at o
      · rename_i hl
        rw [rs.length, hl, hps, b1]
      · exact o.elim
    · let X := cxOf (CX P w) P w K mg base t.N qual t.d.scope fa cdv A outer s H E
      have ok : CtxOk X (t.sc tb) (callF pg NN n) (fun cls d _ H => E cls d H) := {
        N := rfl
        nd := S.nd
        sc := rfl
        calm := rfl
        kd := S.kind
        hu := Nat.lt_of_le_of_lt (Nat.add_le_add_left (by decide : 65 ≤ 200) _) (Nat.lt_of_le_of_lt (Nat.add_le_add_right (Nat.le_add_right _ _) _) hr.un)
        tk := takes_of (X := X) (E₁ := fun e' s'' => CX P w outer H s E e' s'') rfl rfl rfl rfl
        ps := passes_of (X := X) (E₁ := fun e' s'' => CX P w outer H s E e' s'') (K := fun e s'' => CX P w outer H s E e s'') rfl
        fb := fb
        bn := bn
        sto := fun x hx => by
          obtain ⟨y, hy, rfl⟩ := List.mem_map.mp (show x ∈ (t.d.scope.names.filter fun y => y.2 == .local || y.2 == .cell).map (·.1) from hx)
          obtain ⟨h1, h2⟩ := List.mem_filter.mp hy
          have h3 : t.d.scope.names.lookup y.1 = some y.2 := by simpa using List.all_eq_true.mp b4 y h1
          simp only [Bool.or_eq_true, beq_iff_eq] at h2
          refine ⟨?_, .inl rfl⟩
          rcases h2 with h2 | h2
          · rw [h2] at h3; exact .inl h3
          · rw [h2] at h3; exact .inr h3
        calls := (ih _ hr).calls
        csts := hc
        mks := (ih _ hr).mks
        meths := (ih _ hr).meths
        tab := ht
        rm := ⟨_, hr⟩ }
      exact (ss_all ok ⟨rfl, rfl⟩ fd'.body).2 b3
    · obtain ⟨φ, A, ds, hr, rs, o⟩ := h
      rw [hcall] at o
      split at o
      · rename_i hl
        refine ⟨φ, startF fd' ds, A, hr, fr_start rs b2 hl, ?_⟩
        cases e : sx (callF pg NN n) NN fd'.body (startF fd' ds) A with
        | nx F' A' => rw [e] at o; exact fun φ' H' e' hr' σ' fr' => o φ' H' e' hr' .non rfl
        | bk F' A' => rw [e] at o; exact o.elim
        | ct F' A' => rw [e] at o; exact o.elim
        | rt d A' => rw [e] at o; exact fun φ' H' e' hr' v rv => o φ' H' e' hr' v rv
        | exc y F' A' => rw [e] at o; exact fun φ' H' e' hr' σ' cls dd fr' xr => o φ' H' cls dd e' hr' xr
        | no => rw [e] at o; exact o.elim
      · exact o.elim
/-- every def of the tables has its row -/
structure TbOk (rows : List FT) (tb : Tb) : Prop where
  fns : ∀ f ∈ tb.fns, ∃ t ∈ rows, t.f = f ∧ t.at_ = none
  mks : ∀ p ∈ tb.mks, ∃ t ∈ rows, t.f = p.2 ∧ t.at_ = some (p.1, "__init__")
  meths : ∀ p ∈ tb.meths, ∃ t ∈ rows, t.f = p.2.2 ∧ t.at_ = some (p.1, p.2.1) ∧ p.2.1 ≠ "__init__"
def tbB (rows : List FT) (tb : Tb) : Bool := (tb.fns.all fun f => rows.any fun t => decide (t.f = f) && decide (t.at_ = none)) && (tb.mks.all fun p => rows.any fun t => decide (t.f = p.2) && decide (t.at_ = some (p.1, "__init__"))) &&
  tb.meths.all fun p => rows.any fun t => decide (t.f = p.2.2) && (decide (t.at_ = some (p.1, p.2.1)) && decide (p.2.1 ≠ "__init__"))
theorem tbOk_by {rows : List FT} {tb : Tb} (h : tbB rows tb = true) : TbOk rows tb := by
  unfold tbB at h
  simp only [Bool.and_eq_true] at h
  obtain ⟨⟨h1, h2⟩, h3⟩ := h
  refine ⟨fun f hf => ?_, fun p hp => ?_, fun p hp => ?_⟩
  · obtain ⟨t, ht, e⟩ := List.any_eq_true.mp (List.all_eq_true.mp h1 f hf)
    simp only [Bool.and_eq_true, decide_eq_true_eq] at e
    exact ⟨t, ht, e⟩
  · obtain ⟨t, ht, e⟩ := List.any_eq_true.mp (List.all_eq_true.mp h2 p hp)
    simp only [Bool.and_eq_true, decide_eq_true_eq] at e
    exact ⟨t, ht, e⟩
  · obtain ⟨t, ht, e⟩ := List.any_eq_true.mp (List.all_eq_true.mp h3 p hp)
    simp only [Bool.and_eq_true, decide_eq_true_eq] at e
    exact ⟨t, ht, e⟩
theorem fns_ok {rows : List FT} (fb : FreeB mg) (bn : ∀ x ∈ biNames ++ tyBi ++ ["enumerate", "zip", "range"], mg (Str.ofString x) = none)
    (hc : ∀ p ∈ tb.csts, ∃ v u, mg (Str.ofString p.1) = some u ∧ RelV v u ∧ ∀ φ H, Rep ⟨K, mg⟩ φ H p.2 v) (ht : TabOk P K mg tb.flds tb.xos tb.xcs tb.xpb) (ho : TbOk rows tb) (ro : ∀ t ∈ rows, RowOk K mg pg tb t) :
    ∀ (n : Nat) (A : Around), Room (n + 2) A → Alls P w K mg base A (callF pg NN n) tb := by
  have zero : ∀ {k : Nat} {fa : Addr} {fd : FuncData} {ps : List Str} {f : String}, FnOk P w K mg base (CX P w) k fa fd ps (spEv ⟨K, mg⟩ (callF pg NN 0) f) := fun {k fa fd ps f} => ⟨fun vs H Q E ⟨_, _, _, _, _, o⟩ => o.elim, fun _ _ _ _ _ _ _ _ _ _ _ _ _ ⟨_, _, _, _, _, o⟩ => o.elim⟩
  have step : ∀ n, (∀ A, Room (n + 2) A → ∀ m, n = m + 1 → ∀ A, Room (m + 2) A → Alls P w K mg base A (callF pg NN m) tb) → ∀ A, Room (n + 2) A → Alls P w K mg base A (callF pg NN n) tb := fun n ih A hr => by
    have plain : ∀ t ∈ rows, isInit t = false → ∃ (fa : Addr) (fd : FuncData), AtOk K mg t.f fa t.at_ ∧ PySem.W.keepIn K (.ref fa) = true ∧ Binds K fd t.ps [] ∧ FnOk P w K mg base (CX P w) (n + 2) fa fd t.ps (spEv ⟨K, mg⟩ (callF pg NN n) t.f) := fun t htt hi => by
      obtain ⟨fa, fd, x, qual, hm, F, hb⟩ := (ro t htt).ex
      refine ⟨fa, fd, hm, F.kp, hb, ?_⟩
      have hbb := (ro t htt).b
      rw [hi] at hbb
      cases n with
      | zero => exact zero
      | succ m => exact fn_law (k := m + 2) fb bn hc ht (ih A hr m rfl) F (ro t htt).S hbb
    have init : ∀ t ∈ rows, isInit t = true → ∃ (fa : Addr) (fd : FuncData), AtOk K mg t.f fa t.at_ ∧ PySem.W.keepIn K (.ref fa) = true ∧ Binds K fd t.ps [] ∧ FnOk P w K mg base (CX P w) 1 fa fd t.ps (spEv ⟨K, mg⟩ (callF pg NN n) t.f) := fun t htt hi => by
      obtain ⟨fa, fd, x, qual, hm, F, hb⟩ := (ro t htt).ex
      refine ⟨fa, fd, hm, F.kp, hb, ?_⟩
      have hbb := (ro t htt).b
      rw [hi] at hbb
      cases n with
      | zero => exact zero
      | succ m => exact fn_law (k := 0) (tb := tb.leaf) fb bn hc ht (fun A _ => ⟨fun f hf => (by cases hf), fun f hf => (by cases hf), fun f hf => (by cases hf)⟩) F (ro t htt).S hbb
    refine ⟨fun f hf => ?_, fun p hp => ?_, fun p hp => ?_⟩
    · obtain ⟨t, htt, rfl, ha⟩ := ho.fns f hf
      obtain ⟨fa, fd, hm, kp, hb, F⟩ := plain t htt (by unfold isInit; rw [ha])
      rw [ha] at hm
      exact ⟨fa, fd, t.ps, n + 2, hm, kp, hb, F, hr⟩
    · obtain ⟨t, htt, h2, ha⟩ := ho.mks p hp
      obtain ⟨fa, fd, hm, kp, hb, F⟩ := init t htt (by unfold isInit; rw [ha]; rfl)
      rw [ha] at hm
      rw [h2] at F
      obtain ⟨C, g, _, _, M⟩ := hm
      exact ⟨C, fa, fd, t.ps, 1, g, M rfl, hb, F, hr.mono (by omega)⟩
    · obtain ⟨t, htt, h2, ha, hne⟩ := ho.meths p hp
      obtain ⟨fa, fd, hm, kp, hb, F⟩ := plain t htt (by unfold isInit; rw [ha]; exact decide_eq_false hne)
      rw [ha] at hm
      rw [h2] at F
      obtain ⟨C, g, hC, hM, _⟩ := hm
      exact ⟨C, fa, fd, t.ps, n + 2, g, hC, hM, hb, F, hr⟩
  intro n
  induction n with
  | zero => exact step 0 fun A hr m hm => by omega
  | succ n ih =>
    refine step (n + 1) fun A hr m hm => ?_
    have : m = n := by omega
    subst this
    exact ih
/-- THE LAW: what the evaluator says of the script is kept -/
theorem law_of {t : FT} {n : Nat} {a : Addr} {H : Hp} {ns : List Int} (hO : Only H) (hS : SqL K H a (ns.map V.int)) (h : ∃ A', callF pg NN n t.f [.frl (ns.map .int)] [] = .ok (.bl true) A') :
    spEv ⟨K, mg⟩ (callF pg NN n) t.f [.ref a] H (fun v _ => v = .bl true) fun _ _ _ => False := by
  obtain ⟨A', h⟩ := h
  have fz : FzL K H a (ns.map V.int) := by
    rcases hS with (e | e) | e
    · rcases hO a with z | ⟨o, xs, z⟩
      · rw [z] at e; cases e
      · rw [z] at e; cases e
    · exact .inl e
    · exact .inr e
  have hr : HR ⟨K, mg⟩ [] H [] := ⟨rfl, fun i j a e => by simp at e, fun i a o e => by simp at e⟩
  have rints : ∀ ns : List Int, Reps ⟨K, mg⟩ [] H (ns.map D.int) (ns.map V.int) := fun ns => by
    induction ns with
    | nil => exact rfl
    | cons i r ih => exact ⟨_, _, rfl, rfl, ih⟩
  have r0 : Rep ⟨K, mg⟩ [] H (.frl (ns.map .int)) (.ref a) := ⟨a, _, rfl, fz, rints ns⟩
  refine ⟨[], [], _, hr, Reps.cons r0 Reps.nil, ?_⟩
  rw [h]
  exact fun φ' H' e hr' v rv => rv
end
/-- an exception that leaves a call, in any world -/
def CXw (P : Program) : CXT := fun o H s E u s' => ∃ w, CX P w o H s E u s'
theorem cxw_of {P : Program} {w : World} {K : PySem.W.Frag} {mg : Str → Option Value} {base : Heap} {k : Nat} {f : Addr} {fd : FuncData} {ps : List Str} {sp : Sp} (F : FnOk P w K mg base (CX P w) k f fd ps sp) : FnOk P w K mg base (CXw P) k f fd ps sp :=
  ⟨F.len, fun A outer s H args us vs Q E hr he hb hv hs => codeAny_mono (F.run A outer s H args us vs Q E hr he hb hv hs) fun r s' q => by
    cases r with
    | error e => exact ⟨w, q⟩
    | ok fl => cases fl <;> exact q⟩
theorem noex {P : Program} {H : Hp} {s : Shared} {e : Value} {s' : Shared} (h : CXw P [] H s (fun _ _ _ => False) e s') : False := by
  obtain ⟨_, _, _, _, _, _, _, _, _, _, _, _, _, h⟩ := h
  exact h
end Ev

/-! ## EvHead -/
/-! EvHead: the head's facts with an own exception class. -/
namespace Ev
open PySem PySem.Spec PyProof.Rows L2
abbrev PrV : Type := Option (Str × Str × Arguments × FuncBody × Scope × Value × Value × Addr × Addr)
abbrev prC (K : PySem.W.Frag) : Addr := He.ga K "TypeProblem"
abbrev prI (K : PySem.W.Frag) : Addr := He.ma K (prC K) "__init__"
def prObs (K : PySem.W.Frag) : PrV := match K.lookup (prI K) with
  | some ⟨_, _, .func fd, _⟩ => some (fd.name, fd.qualname, fd.params, fd.body, fd.scope, fd.defaults, fd.kwdefaults, fd.globals, fd.builtins)
  | _ => none
def prCls (K : PySem.W.Frag) (C : Addr) : Bool := match K.lookup C with
  | some ⟨.type "type", _, .cls cd, sl⟩ => (match cd.mro, sl.toList with
    | .ref C' :: bm, [_, _, _, _, some (.builtin n), _] => C' == C && n == "ValueError.__new__" && !cd.hasDel && cd.hasDict && PySem.HandSPX.refsVE bm
    | _, _ => false)
  | _ => false
theorem prCls_of {K : PySem.W.Frag} {C : Addr} (q : prCls K C = true) : ∃ nm q N bs bm sn sub ab col dd k0 k1 k2 k3 k5, K.lookup C = some (excClassObj nm q C N bs bm true sn sub ab col dd k0 k1 k2 k3 k5 "ValueError.__new__") ∧ PySem.HandSPX.refsVE bm = true := by
  unfold prCls at q
  split at q
  · rename_i dd cd sl ho
    split at q
    · rename_i C' bm k0 k1 k2 k3 n k5 hm hs
      simp only [Bool.and_eq_true, beq_iff_eq, Bool.not_eq_true'] at q
      obtain ⟨⟨⟨⟨rfl, rfl⟩, hdel⟩, hdi⟩, ht⟩ := q
      obtain ⟨nm, bs, mro, ns, qn, hd, sn, sub, ab, col, del⟩ := cd
      dsimp only at hm hdel hdi
      subst hm hdel hdi
      have hsl : sl = #[k0, k1, k2, k3, some (.builtin "ValueError.__new__"), k5] := by
        obtain ⟨l⟩ := sl
        simp only at hs
        rw [hs]
      subst hsl
      exact ⟨nm, qn, ns, bs, bm, sn, sub, ab, col, dd, k0, k1, k2, k3, k5, ho, ht⟩
    · cases q
  · cases q
def prFn (file : Str) (K : PySem.W.Frag) (C fI : Addr) : Bool := match K.lookup fI with
  | some ⟨_, _, .func fd, _⟩ => (match fd.closure, fd.code with
    | [(x, cc)], .ref cda => decide (x = ("__class__" : Str)) && (PySem.W.codeIn K (.ref cda) "TypeProblem.__init__" && ((match K.lookup cda with
        | some ⟨_, _, .fields vs, _⟩ => (match (vs[2]? : Option Value) with
          | some (Value.str f _) => decide (f = file)
          | _ => false)
        | _ => false) && (match K.lookup cc with
        | some ⟨_, _, .cell (some (.ref C')), _⟩ => decide (C' = C)
        | _ => false)))
    | _, _ => false)
  | _ => false
def prB (file : Str) (K : PySem.W.Frag) : Bool :=
  prCls K (prC K) && (PySem.W.excInitIn K (prC K) PySem.ProbX.veTail "ValueError.__new__" && (He.eqO (PySem.W.ks_superIn K (prC K) (prC K) "__init__") (some (some (.builtin "ValueError.__init__"))) && (He.eqO (PySem.W.nsIn K cStatics "thirdparty.any") (some none) &&
  (decide (PySem.W.mroIn K (prC K) (.ref (prC K)) = some true) && (decide (PySem.W.subIn K (.ref (prC K)) (.type "ValueError") = some true) && (He.eqO (PySem.W.findIn K (.ref (prC K)) "__setattr__") (some (some (.builtin "object.__setattr__"))) &&
  (He.eqO (PySem.W.findIn K (.ref (prC K)) "__getattribute__") (some (some (.builtin "BaseException.__getattribute__"))) && (He.eqO (PySem.W.findIn K (.ref (prC K)) "__getattr__") (some none) && (He.eqO (PySem.W.findIn K (.ref (prC K)) "code") (some none) &&
  (He.eqO (PySem.W.findIn K (.ref (prC K)) "path") (some none) && (He.eqO (PySem.W.findIn K (.ref (prC K)) "__init__") (some (some (.ref (prI K)))) && (decide (PySem.W.typeIn K (.ref (prI K)) = some (.type "function")) && (PySem.W.keepIn K (.ref (prC K)) &&
  (decide (PySem.W.subIn K (.ref (prC K)) (.type "BaseException") = some true) && (decide (PySem.W.typeIn K (.ref (prC K)) = some (.type "type")) && (PySem.W.hasDictIn K (prC K) && (decide (PySem.W.exmOne K (.ref (prC K)) (.ref (prC K)) = some true) && prFn file K (prC K) (prI K))))))))))))))))))
def prVal (q : Nat → Pos) (msg : Str) : PrV := some (("__init__" : Str), ("TypeProblem.__init__" : Str), PySem.ProbX.pA q, FuncBody.stmts (PySem.ProbX.pB q msg), PySem.ProbX.pS, Value.none, Value.none, mainGlobals, builtinsNs)
theorem prob_of {P : Program} {K : PySem.W.Frag} {h : Heap} {mg : Str → Option Value} {q : Nat → Pos} {msg : Str} (X : K.In h) (G : h.Ns mainGlobals mg) (c1 : (He.Fa.glo "TypeProblem").ok K = true) (c2 : (He.Fa.free "super").ok K = true) (hb : prB P.main.file K = true)
    (hv : prObs K = prVal q msg) (hq : ((q 5).endLine == (q 7).line) = true) (top : (P.main.scope.names.lookup ("super" : Str)).isSome = false) :
    PySem.ProbX.ProbTxt P K mg (prC K) (prI K) := by
  obtain ⟨b1, hb⟩ := He.ba hb
  obtain ⟨b2, hb⟩ := He.ba hb
  obtain ⟨b3, hb⟩ := He.ba hb
  obtain ⟨b4, hb⟩ := He.ba hb
  obtain ⟨b5, hb⟩ := He.ba hb
  obtain ⟨b6, hb⟩ := He.ba hb
  obtain ⟨b7, hb⟩ := He.ba hb
  obtain ⟨b8, hb⟩ := He.ba hb
  obtain ⟨b9, hb⟩ := He.ba hb
  obtain ⟨b10, hb⟩ := He.ba hb
  obtain ⟨b11, hb⟩ := He.ba hb
  obtain ⟨b12, hb⟩ := He.ba hb
  obtain ⟨b13, hb⟩ := He.ba hb
  obtain ⟨b14, hb⟩ := He.ba hb
  obtain ⟨b15, hb⟩ := He.ba hb
  obtain ⟨b16, hb⟩ := He.ba hb
  obtain ⟨b17, hb⟩ := He.ba hb
  obtain ⟨b18, b19⟩ := He.ba hb
  refine ⟨He.glo_ok X G c1, He.free_ok X G c2, prCls_of b1, b2, He.eqO_ok b3, He.eqO_ok b4, of_decide_eq_true b5, of_decide_eq_true b6, He.eqO_ok b7, He.eqO_ok b8, He.eqO_ok b9,
    He.eqO_ok b10, He.eqO_ok b11, He.eqO_ok b12, of_decide_eq_true b13, b14, of_decide_eq_true b15, of_decide_eq_true b16, b17, of_decide_eq_true b18, top, ?_⟩
  unfold prFn at b19
  unfold prObs at hv
  split at b19
  · rename_i oc od fd osl ho
    rw [ho] at hv
    obtain ⟨n1, n2, n3, n4, n5, n6, n7, n8, n9, n10, n11, n12, n13, n14, n15⟩ := fd
    simp only [prVal, Option.some.injEq, Prod.mk.injEq] at hv
    obtain ⟨rfl, rfl, rfl, rfl, rfl, rfl, rfl, rfl, rfl⟩ := hv
    dsimp only at b19
    split at b19
    · rename_i x cc cda
      obtain ⟨k1, b19⟩ := He.ba b19
      obtain ⟨k2, b19⟩ := He.ba b19
      obtain ⟨k3, k4⟩ := He.ba b19
      have k1 := of_decide_eq_true k1
      subst k1
      split at k3
      · rename_i ccl cdd vs ccs hcd
        split at k3
        · rename_i f tf hvs
          have k3 := of_decide_eq_true k3
          split at k4
          · rename_i cl cld C' csl hcell
            have k4 := of_decide_eq_true k4
            subst k4
            exact ⟨oc, od, _, _, _, cda, cc, _, osl, q, msg, ccl, cl, cdd, cld, ccs, csl, vs, f, tf, ho, k2, hcd, hvs, by rw [k3]; exact beq_self_eq_true _, hcell, hq⟩
          · cases k4
        · cases k3
      · cases k3
    · cases b19
  · cases b19
/-! ### constants that are tuples of simple things -/
def relD : D → Value → Bool
  | .non, .none => true
  | .bl b, .bool c => b == c
  | .int i, .int j _ => decide (i = j)
  | .str x, .str y _ => decide (y = Str.ofString x)
  | _, _ => false
def relDs : List D → List Value → Bool
  | [], [] => true
  | d :: r, u :: us => relD d u && relDs r us
  | _, _ => false
def vD : D → V
  | .non => .non
  | .bl b => .bl b
  | .int i => .int i
  | .str s => .str (Str.ofString s)
  | _ => .non
theorem relD_ok {G : Md} {φ : Ph} {H : Hp} {d : D} {u : Value} (h : relD d u = true) : RelV (vD d) u ∧ Rep G φ H d (vD d) := by
  cases d <;> cases u <;> first | (cases h; done) | skip
  · exact ⟨rfl, rfl⟩
  · rename_i b c
    have : b = c := eq_of_beq h
    subst this
    exact ⟨rfl, rfl⟩
  · rename_i i j t
    have : i = j := of_decide_eq_true h
    subst this
    exact ⟨⟨t, rfl⟩, rfl⟩
  · rename_i x y t
    have : y = Str.ofString x := of_decide_eq_true h
    subst this
    exact ⟨⟨t, rfl⟩, rfl⟩
theorem relDs_ok {G : Md} {φ : Ph} {H : Hp} : ∀ {ds : List D} {us : List Value}, relDs ds us = true → Vals (ds.map vD) us ∧ Reps G φ H ds (ds.map vD)
  | [], [], _ => ⟨.nil, rfl⟩
  | [], _ :: _, h => by cases h
  | _ :: _, [], h => by cases h
  | d :: r, u :: us, h => by
    obtain ⟨h1, h2⟩ := He.ba (show (relD d u && relDs r us) = true from h)
    obtain ⟨a1, a2⟩ := relD_ok (G := G) (φ := φ) (H := H) h1
    obtain ⟨b1, b2⟩ := relDs_ok h2
    exact ⟨.cons a1 b1, _, _, rfl, a2, b2⟩
/-- the module's name x stands for a tuple of these -/
def ctB (K : PySem.W.Frag) (p : String × List D) : Bool := (He.Fa.glo (Str.ofString p.1)).ok K && (match K.lookup (He.ga K (Str.ofString p.1)) with
  | some ⟨.type "tuple", _, .seq its _, _⟩ => decide (its.size ≤ 1000) && relDs p.2 its.toList
  | _ => false)
theorem ct_ok {K : PySem.W.Frag} {h : Heap} {mg : Str → Option Value} (X : K.In h) (G : h.Ns mainGlobals mg) {x : String} {ds : List D} (c : ctB K (x, ds) = true) :
    ∃ v u, mg (Str.ofString x) = some u ∧ RelV v u ∧ ∀ φ H, Rep ⟨K, mg⟩ φ H (.tup ds) v := by
  obtain ⟨c1, c2⟩ := He.ba c
  refine ⟨.ref (He.ga K (Str.ofString x)), _, He.glo_ok X G c1, rfl, fun φ H => ?_⟩
  dsimp only at c2
  split at c2
  · rename_i dd its n sl ho
    obtain ⟨c3, c4⟩ := He.ba c2
    have c3 := of_decide_eq_true c3
    obtain ⟨b1, b2⟩ := relDs_ok (G := ⟨K, mg⟩) (φ := φ) (H := H) c4
    exact ⟨_, _, rfl, .inr ⟨_, its, n, ho, rfl, rfl, by rw [sizeLine_eq]; omega, b1⟩, b2⟩
  · cases c2
abbrev AlE : Type := He.AlD × Bool × PrV
def frE (n : Nat) (g : Addr → Option Obj) : PySem.W.Frag := He.frG g (cStatics :: He.asD g n)
def exB (file : Str) (cts : List (String × List D)) (K : PySem.W.Frag) : Bool := prB file K && cts.all (ctB K)
def obsE (n : Nat) (fa : List He.Fa) (fn : List He.DefD) (file : Str) (cts : List (String × List D)) (g : Addr → Option Obj) : AlE := (He.obsD fa fn (frE n g), exB file cts (frE n g), prObs (frE n g))
def hookE (n : Nat) (fa : List He.Fa) (fn : List He.DefD) (file : Str) (cts : List (String × List D)) (pv : PrV) : PySem.W.Hook where
  α := AlE
  obs := fun s => obsE n fa fn file cts s.heap.get?
  val := fun _ => (He.valD fn, true, pv)
  says := fun _ h => ∃ K : PySem.W.Frag, K.In h ∧ He.SaysD fa fn K ∧ exB file cts K = true ∧ prObs K = pv
  of := fun _ s e => ⟨frE n s.heap.get?, He.frG_in, congrArg (fun z : AlE => z.1) e, congrArg (fun z : AlE => z.2.1) e, congrArg (fun z : AlE => z.2.2) e⟩
  keeps := fun _ _ _ ⟨K, hK, c⟩ k => ⟨K, PySem.W.Frag.In.keeps hK k, c⟩
theorem obsE_eq {n : Nat} {fa : List He.Fa} {fn : List He.DefD} {file : Str} {cts : List (String × List D)} {pv : PrV} {g : Addr → Option Obj} {s : Shared} (h : ∀ a, g a = s.heap.get? a) : obsE n fa fn file cts g = (hookE n fa fn file cts pv).obs s := by
  have e : g = s.heap.get? := funext h
  rw [e] <;> rfl
theorem ex_pr {file : Str} {cts : List (String × List D)} {K : PySem.W.Frag} (h : exB file cts K = true) : prB file K = true := (He.ba h).1
theorem ex_ct {file : Str} {cts : List (String × List D)} {K : PySem.W.Frag} (h : exB file cts K = true) {p : String × List D} (hp : p ∈ cts) : ctB K p = true := List.all_eq_true.mp (He.ba h).2 p hp
end Ev

/-! ## EvWp -/
/-! EvWp: what the evaluator reaches. -/
namespace Ev
open PySem
def uR {α : Type} (r : Res α) (P : α → AH → Prop) : Prop := match r with
  | .ok a A => P a A
  | _ => False
def uS (r : SR) (Pn : Fr → AH → Prop) (Pb Pc : Fr → AH → Prop) (Pr : D → AH → Prop) : Prop := match r with
  | .nx F A => Pn F A
  | .bk F A => Pb F A
  | .ct F A => Pc F A
  | .rt d A => Pr d A
  | _ => False
theorem uR.mono {α : Type} {r : Res α} {P Q : α → AH → Prop} (h : uR r P) (k : ∀ a A, P a A → Q a A) : uR r Q := by
  cases r with
  | ok a A => exact k a A h
  | exc => exact h
  | no => exact h
theorem uR_bnd {α β : Type} {r : Res α} {f : α → AH → Res β} {P : β → AH → Prop} : uR (bnd r f) P ↔ uR r (fun a A => uR (f a A) P) := by
  cases r <;> rfl
theorem uR_ok {α : Type} {a : α} {A : AH} {P : α → AH → Prop} : uR (.ok a A) P ↔ P a A := Iff.rfl
theorem uR_some {α : Type} {a : α} {A : AH} {P : α → AH → Prop} : uR (ofO (some a) A) P ↔ P a A := Iff.rfl
theorem uS_bns {α : Type} {r : Res α} {F : Fr} {f : α → AH → SR} {Pn Pb Pc : Fr → AH → Prop} {Pr : D → AH → Prop} : uS (bns F r f) Pn Pb Pc Pr ↔ uR r (fun a A => uS (f a A) Pn Pb Pc Pr) := by
  cases r <;> rfl
theorem uS_nx {F A Pn Pb Pc Pr} : uS (.nx F A) Pn Pb Pc Pr ↔ Pn F A := Iff.rfl
theorem uS_bk {F A Pn Pb Pc Pr} : uS (.bk F A) Pn Pb Pc Pr ↔ Pb F A := Iff.rfl
theorem uS_ct {F A Pn Pb Pc Pr} : uS (.ct F A) Pn Pb Pc Pr ↔ Pc F A := Iff.rfl
theorem uS_rt {d A Pn Pb Pc Pr} : uS (.rt d A) Pn Pb Pc Pr ↔ Pr d A := Iff.rfl
section
variable {cl : String → List D → AH → Res D} {N : Nat} {F : Fr} {A : AH} {Pn Pb Pc : Fr → AH → Prop} {Pr : D → AH → Prop}
theorem uS_seq {a b : Sm} : uS (sx cl N (.seq a b) F A) Pn Pb Pc Pr ↔ uS (sx cl N a F A) (fun F A => uS (sx cl N b F A) Pn Pb Pc Pr) Pb Pc Pr := by
  show uS (match sx cl N a F A with | .nx F' A' => sx cl N b F' A' | x => x) Pn Pb Pc Pr ↔ _
  cases sx cl N a F A <;> rfl
theorem uS_skip : uS (sx cl N .skip F A) Pn Pb Pc Pr ↔ Pn F A := Iff.rfl
theorem uS_ex {e : Ex} : uS (sx cl N (.ex e) F A) Pn Pb Pc Pr ↔ uR (ev cl e F A) (fun _ A => Pn F A) := uS_bns
theorem uS_set {i : Nat} {e : Ex} : uS (sx cl N (.set i e) F A) Pn Pb Pc Pr ↔ uR (ev cl e F A) (fun d A => Pn (fset F i d) A) := uS_bns
theorem uS_ret {e : Ex} : uS (sx cl N (.ret e) F A) Pn Pb Pc Pr ↔ uR (ev cl e F A) (fun d A => Pr d A) := uS_bns
theorem uS_ite {c : Ex} {a b : Sm} : uS (sx cl N (.ite c a b) F A) Pn Pb Pc Pr ↔ uR (tru (ev cl c F A)) (fun r A => if r = true then uS (sx cl N a F A) Pn Pb Pc Pr else uS (sx cl N b F A) Pn Pb Pc Pr) := by
  refine uS_bns.trans ?_
  cases tru (ev cl c F A) with
  | ok r A => cases r <;> rfl
  | exc => rfl
  | no => rfl
theorem uS_brk : uS (sx cl N .brk F A) Pn Pb Pc Pr ↔ Pb F A := Iff.rfl
theorem uS_cont : uS (sx cl N .cont F A) Pn Pb Pc Pr ↔ Pc F A := Iff.rfl
end
/-- a call -/
theorem uR_call {P : Pg} {N n : Nat} {f : String} {fd : Fd} {ds : List D} {A : AH} {Q : D → AH → Prop} (h : P f = some fd) (hl : ds.length = fd.np) :
    uR (callF P N (n + 1) f ds A) Q ↔ uS (sx (callF P N n) N fd.body (startF fd ds) A) (fun _ A => Q .non A) (fun _ _ => False) (fun _ _ => False) Q := by
  show uR (match P f with
    | none => Res.no
    | some fd => if ds.length = fd.np then (match sx (callF P N n) N fd.body (startF fd ds) A with
      | .nx _ A' => .ok D.non A'
      | .rt d A' => .ok d A'
      | .exc x _ A' => .exc x A'
      | _ => .no) else .no) Q ↔ _
  rw [h]
  simp only [hl, if_true]
  cases sx (callF P N n) N fd.body (startF fd ds) A <;> rfl
/-- what stood still stands -/
def Kp (A B : AH) : Prop := ∀ (i : Nat) (o : AO), A[i]? = some o → B[i]? = some o
theorem Kp.refl {A : AH} : Kp A A := fun _ _ h => h
theorem Kp.trans {A B C : AH} (a : Kp A B) (b : Kp B C) : Kp A C := fun i o h => b i o (a i o h)
theorem Kp.app {A B J : AH} (a : Kp A B) : Kp A (B ++ J) := fun i o h => by
  have := a i o h
  rw [List.getElem?_append_left (List.getElem?_eq_some_iff.mp this).1]; exact this
theorem Kp.set {A B : AH} {n : Nat} {o : AO} (a : Kp A B) (h : A[n]? = none) : Kp A (B.set n o) := fun i o' h' => by
  rw [List.getElem?_set_ne (fun e => by rw [← e, h] at h'; cases h')]; exact a i o' h'
theorem Kp.len {A B : AH} (a : Kp A B) : A.length ≤ B.length := by
  by_cases h : A.length = 0
  · omega
  · have h1 : A[A.length - 1]? = some A[A.length - 1] := List.getElem?_eq_getElem (by omega)
    have := (List.getElem?_eq_some_iff.mp (a _ _ h1)).1
    omega
theorem Kp.fresh {A B : AH} (a : Kp A B) {n : Nat} (h : B[n]? = none) : A[n]? = none := by
  have := a.len
  rw [List.getElem?_eq_none_iff] at h ⊢
  omega
end Ev
namespace Ev
/-! ### loops -/
theorem u_lcL_ind {asg : D → Fr → Option Fr} {g : Guard} {body : Fr → AH → Res (Option D)} {F : Fr} {P : List D → AH → Prop} (I : Nat → List D → AH → Prop) :
    ∀ (items : List D) (i : Nat) (acc : List D) (A : AH), I i acc A →
      (∀ j d acc A, items[j]? = some d → I (i + j) acc A → gOk A g = true ∧ ∃ F', asg d F = some F' ∧ uR (body F' A) (fun o A' => match o with
        | some y => acc.length < PySem.sizeLine ∧ I (i + j + 1) (acc ++ [y]) A'
        | none => I (i + j + 1) acc A')) →
      (∀ acc A, I (i + items.length) acc A → gOk A g = true ∧ P acc A) → uR (lcL asg g body F items acc A) P
  | [], i, acc, A, h0, hs, hd => by
    obtain ⟨h1, h2⟩ := hd acc A h0
    unfold lcL
    rw [if_pos h1]
    exact h2
  | d :: r, i, acc, A, h0, hs, hd => by
    obtain ⟨h1, F', h2, h3⟩ := hs 0 d acc A rfl h0
    unfold lcL
    rw [if_pos h1]
    simp only [h2]
    rw [uR_bnd]
    refine h3.mono fun o A' h4 => ?_
    have go : ∀ acc A, I (i + 1) acc A → uR (lcL asg g body F r acc A) P := fun acc A h => by
      refine u_lcL_ind I r (i + 1) acc A h (fun j d acc A e h => ?_) (fun acc A h => hd acc A (by rw [List.length_cons]; rw [show i + (r.length + 1) = i + 1 + r.length by omega]; exact h))
      have := hs (j + 1) d acc A (by simpa using e) (by rw [show i + (j + 1) = i + 1 + j by omega]; exact h)
      rw [show i + (j + 1) + 1 = i + 1 + j + 1 by omega] at this
      exact this
    cases o with
    | some y =>
      simp only [if_pos h4.1]
      exact go _ _ h4.2
    | none => exact go _ _ h4
/-- nothing of the heap changes: a map -/
theorem lcL_map {asg : D → Fr → Option Fr} {body : Fr → AH → Res (Option D)} {F : Fr} {A : AH} (f : D → D) : ∀ (items acc : List D), (∀ d ∈ items, ∃ F', asg d F = some F' ∧ body F' A = .ok (some (f d)) A) → acc.length + items.length ≤ PySem.sizeLine →
    lcL asg [] body F items acc A = .ok (acc ++ items.map f) A
  | [], acc, _, _ => by unfold lcL; simp [gOk]
  | d :: r, acc, h, hl => by
    obtain ⟨F', h1, h2⟩ := h d List.mem_cons_self
    rw [List.length_cons] at hl
    unfold lcL
    simp only [h1, h2, bnd, gOk, List.all_nil, if_true, if_pos (show acc.length < PySem.sizeLine by omega)]
    rw [lcL_map f r (acc ++ [f d]) (fun d' hd => h d' (List.mem_cons_of_mem _ hd)) (by rw [List.length_append]; simp; omega)]
    simp
theorem u_dcL_ind {asg : D → Fr → Option Fr} {g : Guard} {body : Fr → AH → Res (Option (D × D))} {F : Fr} {P : List (D × D) → AH → Prop} (I : Nat → List (D × D) → AH → Prop) :
    ∀ (items : List D) (i : Nat) (acc : List (D × D)) (A : AH), I i acc A →
      (∀ j d acc A, items[j]? = some d → I (i + j) acc A → gOk A g = true ∧ ∃ F', asg d F = some F' ∧ uR (body F' A) (fun o A' => match o with
        | some (k, v) => acc.length < PySem.sizeLine ∧ keyOk k = true ∧ I (i + j + 1) (dput acc k v) A'
        | none => I (i + j + 1) acc A')) →
      (∀ acc A, I (i + items.length) acc A → gOk A g = true ∧ P acc A) → uR (dcL asg g body F items acc A) P
  | [], i, acc, A, h0, hs, hd => by
    obtain ⟨h1, h2⟩ := hd acc A h0
    unfold dcL
    rw [if_pos h1]
    exact h2
  | d :: r, i, acc, A, h0, hs, hd => by
    obtain ⟨h1, F', h2, h3⟩ := hs 0 d acc A rfl h0
    unfold dcL
    rw [if_pos h1]
    simp only [h2]
    rw [uR_bnd]
    refine h3.mono fun o A' h4 => ?_
    have go : ∀ acc A, I (i + 1) acc A → uR (dcL asg g body F r acc A) P := fun acc A h => by
      refine u_dcL_ind I r (i + 1) acc A h (fun j d acc A e h => ?_) (fun acc A h => hd acc A (by rw [List.length_cons]; rw [show i + (r.length + 1) = i + 1 + r.length by omega]; exact h))
      have := hs (j + 1) d acc A (by simpa using e) (by rw [show i + (j + 1) = i + 1 + j by omega]; exact h)
      rw [show i + (j + 1) + 1 = i + 1 + j + 1 by omega] at this
      exact this
    cases o with
    | some y =>
      obtain ⟨k, v⟩ := y
      obtain ⟨h5, h6, h7⟩ := h4
      simp only [h5, h6, decide_true, Bool.and_self, if_true]
      exact go _ _ h7
    | none => exact go _ _ h4
theorem u_forL_ind {asg : D → Fr → Option Fr} {g : Guard} {body : Fr → AH → SR} {Pn Pb Pc : Fr → AH → Prop} {Pr : D → AH → Prop} (I : Nat → Fr → AH → Prop) :
    ∀ (items : List D) (i : Nat) (F : Fr) (A : AH), I i F A →
      (∀ j d F A, items[j]? = some d → I (i + j) F A → gOk A g = true ∧ ∃ F', asg d F = some F' ∧ uS (body F' A) (I (i + j + 1)) Pn (I (i + j + 1)) Pr) →
      (∀ F A, I (i + items.length) F A → gOk A g = true ∧ Pn F A) → uS (forL asg g body items F A) Pn Pb Pc Pr
  | [], i, F, A, h0, hs, hd => by
    obtain ⟨h1, h2⟩ := hd F A h0
    unfold forL
    rw [if_pos h1]
    exact h2
  | d :: r, i, F, A, h0, hs, hd => by
    obtain ⟨h1, F', h2, h3⟩ := hs 0 d F A rfl h0
    unfold forL
    rw [if_pos h1]
    simp only [h2]
    have go : ∀ F A, I (i + 1) F A → uS (forL asg g body r F A) Pn Pb Pc Pr := fun F A h => by
      refine u_forL_ind I r (i + 1) F A h (fun j d F A e h => ?_) (fun F A h => hd F A (by rw [List.length_cons]; rw [show i + (r.length + 1) = i + 1 + r.length by omega]; exact h))
      have := hs (j + 1) d F A (by simpa using e) (by rw [show i + (j + 1) = i + 1 + j by omega]; exact h)
      rw [show i + (j + 1) + 1 = i + 1 + j + 1 by omega] at this
      exact this
    cases e : body F' A with
    | nx F2 A2 => rw [e] at h3; exact go _ _ h3
    | ct F2 A2 => rw [e] at h3; exact go _ _ h3
    | bk F2 A2 => rw [e] at h3; exact h3
    | rt d A2 => rw [e] at h3; exact h3
    | exc y F2 A2 => rw [e] at h3; exact h3
    | no => rw [e] at h3; exact h3
end Ev
namespace Ev
/-- a block behind its first k statements -/
def drp : Nat → Sm → Sm
  | 0, s => s
  | k + 1, .seq _ b => drp k b
  | _ + 1, s => s
def iteC : Sm → Ex
  | .seq (.ite c _ _) _ => c
  | _ => .non
/-- what is returned where the test at the block's head holds -/
def iteR : Sm → Ex
  | .seq (.ite _ (.seq (.ret e) .skip) .skip) _ => e
  | .seq (.ret e) .skip => e
  | _ => .non
def isIteR : Sm → Bool
  | .seq (.ite _ (.seq (.ret _) .skip) .skip) _ => true
  | _ => false
section
variable {cl : String → List D → AH → Res D} {N : Nat} {F F' : Fr} {A : AH} {Pn Pb Pc : Fr → AH → Prop} {Pr : D → AH → Prop}
theorem u_ret_at (k : Nat) {b : Sm} (h1 : sx cl N b F A = sx cl N (drp k b) F' A) (h2 : isIteR (drp k b) = true) (h3 : tru (ev cl (iteC (drp k b)) F' A) = .ok true A) (h : uR (ev cl (iteR (drp k b)) F' A) Pr) : uS (sx cl N b F A) Pn Pb Pc Pr := by
  rw [h1]
  generalize drp k b = s at h2 h3 h
  unfold isIteR at h2
  split at h2
  · rename_i c e rest
    rw [uS_seq, uS_ite]
    have h3 : tru (ev cl c F' A) = .ok true A := h3
    rw [h3]
    show uS (sx cl N (.seq (.ret e) .skip) F' A) _ _ _ _
    rw [uS_seq, uS_ret]
    exact h
  · cases h2
theorem u_ret_end (k : Nat) {b : Sm} {e : Ex} (h1 : sx cl N b F A = sx cl N (drp k b) F' A) (h2 : drp k b = .seq (.ret e) .skip) (h : uR (ev cl e F' A) Pr) : uS (sx cl N b F A) Pn Pb Pc Pr := by
  rw [h1, h2, uS_seq, uS_ret]
  exact h
end
theorem opB_cat {A : AH} {xs ys : List D} (h : xs.length + ys.length ≤ PySem.sizeLine) : opB ((A ++ [AO.lst xs]) ++ [AO.lst ys]) .add (.ref A.length) (.ref (A ++ [AO.lst xs]).length) = .ok (.ref ((A ++ [AO.lst xs]) ++ [AO.lst ys]).length) (((A ++ [AO.lst xs]) ++ [AO.lst ys]) ++ [AO.lst (xs ++ ys)]) := by
  have h1 : ((A ++ [AO.lst xs]) ++ [.lst ys])[A.length]? = some (.lst xs) := by simp
  have h2 : ((A ++ [AO.lst xs]) ++ [.lst ys])[(A ++ [AO.lst xs]).length]? = some (.lst ys) := by simp
  simp only [opB, h1, h2, if_pos h]
theorem uR_eq {α : Type} {r : Res α} {P : α → AH → Prop} {a : α} {A : AH} (h : r = .ok a A) (p : P a A) : uR r P := by rw [h]; exact p
theorem u_eq_of_wR {α : Type} {r : Res α} {P : α → AH → Prop} (h : uR r P) : ∃ a A, r = .ok a A ∧ P a A := by
  cases r with
  | ok a A => exact ⟨a, A, rfl, h⟩
  | exc => exact h.elim
  | no => exact h.elim
end Ev
namespace Ev
def iteA : Sm → Sm
  | .seq (.ite _ a _) _ => a
  | _ => .skip
def isIte : Sm → Bool
  | .seq (.ite _ _ _) _ => true
  | _ => false
section
variable {cl : String → List D → AH → Res D} {N : Nat} {F F' : Fr} {A : AH} {Pn Pb Pc : Fr → AH → Prop} {Pr : D → AH → Prop}
/-- behind k statements a test holds, and its block does not fall through -/
theorem u_ite_at (k : Nat) {b : Sm} (h1 : sx cl N b F A = sx cl N (drp k b) F' A) (h2 : isIte (drp k b) = true) (h3 : tru (ev cl (iteC (drp k b)) F' A) = .ok true A) (h : uS (sx cl N (iteA (drp k b)) F' A) (fun _ _ => False) Pb Pc Pr) : uS (sx cl N b F A) Pn Pb Pc Pr := by
  rw [h1]
  generalize drp k b = s at h2 h3 h
  unfold isIte at h2
  split at h2
  · rename_i c a b' rest
    rw [uS_seq, uS_ite]
    have h3 : tru (ev cl c F' A) = .ok true A := h3
    rw [h3]
    have h : uS (sx cl N a F' A) (fun _ _ => False) Pb Pc Pr := h
    show uS (sx cl N a F' A) _ Pb Pc Pr
    cases e : sx cl N a F' A with
    | nx F2 A2 => rw [e] at h; exact h.elim
    | bk F2 A2 => rw [e] at h; exact h
    | ct F2 A2 => rw [e] at h; exact h
    | rt d A2 => rw [e] at h; exact h
    | exc y F2 A2 => rw [e] at h; exact h
    | no => rw [e] at h; exact h
  · cases h2
end
end Ev
namespace Ev
def lcB (cl : String → List D → AH → Res D) (c e : Ex) : Fr → AH → Res (Option D) := fun F' A' => nox (bnd (evc cl c F' A') fun b A2 => if b then bnd (ev cl e F' A2) fun y A3 => .ok (some y) A3 else .ok none A2)
def dcB (cl : String → List D → AH → Res D) (c k v : Ex) : Fr → AH → Res (Option (D × D)) := fun F' A' => nox (bnd (evc cl c F' A') fun b A2 => if b then bnd (ev cl k F' A2) fun x A3 => bnd (ev cl v F' A3) fun y A4 => .ok (some (x, y)) A4 else .ok none A2)
theorem uR_nox {α : Type} {r : Res α} {P : α → AH → Prop} : uR (nox r) P ↔ uR r P := by cases r <;> rfl
section
variable {cl : String → List D → AH → Res D} {F : Fr} {A : AH}
theorem uR_lc {t : Tg} {it c e : Ex} {own : List Nat} {P : D → AH → Prop} : uR (ev cl (.lc t it c e own) F A) P ↔ uR (evw cl it F A) (fun w A1 => uR (unlR w.lock (bnd (lcL (asgT t) w.g (lcB cl c e) (wipeF F own) w.items [] (lockA A1 w.lock)) fun ds A2 => .ok (.ref A2.length) (A2 ++ [.lst ds]))) P) := uR_bnd
theorem uR_dc {t : Tg} {it c k v : Ex} {own : List Nat} {P : D → AH → Prop} : uR (ev cl (.dc t it c k v own) F A) P ↔ uR (evw cl it F A) (fun w A1 => uR (unlR w.lock (bnd (dcL (asgT t) w.g (dcB cl c k v) (wipeF F own) w.items [] (lockA A1 w.lock)) fun ds A2 => .ok (.ref A2.length) (A2 ++ [.dct ds]))) P) := uR_bnd
theorem uR_lcB {c e : Ex} {P : Option D → AH → Prop} : uR (lcB cl c e F A) P ↔ uR (evc cl c F A) (fun b A2 => if b = true then uR (ev cl e F A2) (fun y A3 => P (some y) A3) else P none A2) := by
  refine uR_nox.trans (uR_bnd.trans ?_)
  cases evc cl c F A with
  | ok b A2 =>
    cases b with
    | true => exact uR_bnd
    | false => rfl
  | exc => rfl
  | no => rfl
theorem uR_dcB {c k v : Ex} {P : Option (D × D) → AH → Prop} : uR (dcB cl c k v F A) P ↔ uR (evc cl c F A) (fun b A2 => if b = true then uR (ev cl k F A2) (fun x A3 => uR (ev cl v F A3) fun y A4 => P (some (x, y)) A4) else P none A2) := by
  refine uR_nox.trans (uR_bnd.trans ?_)
  cases evc cl c F A with
  | ok b A2 =>
    cases b with
    | true =>
      refine uR_bnd.trans ?_
      show _ ↔ uR (ev cl k F A2) fun x A3 => uR (ev cl v F A3) fun y A4 => P (some (x, y)) A4
      cases ev cl k F A2 with
      | ok x A3 => exact uR_bnd
      | exc => rfl
      | no => rfl
    | false => rfl
  | exc => rfl
  | no => rfl
theorem uR_evc0 {P : Bool → AH → Prop} : uR (evc cl .nil F A) P ↔ P true A := Iff.rfl
theorem uR_wk {e : Ex} {P : Wk → AH → Prop} : uR (evw cl (.wk e) F A) P ↔ uR (ev cl e F A) (fun x A1 => uR (ofO (wkOf A1 x) A1) P) := uR_bnd
theorem uR_enm {e : Ex} {P : Wk → AH → Prop} : uR (evw cl (.enm e) F A) P ↔ uR (ev cl e F A) (fun x A1 => uR (ofO (wkEnum A1 x) A1) P) := uR_bnd
theorem uR_rng {e : Ex} {P : Wk → AH → Prop} : uR (evw cl (.rng e) F A) P ↔ uR (evs cl e F A) (fun x A1 => uR (ofO (wkRng x) A1) P) := uR_bnd
theorem uR_var {i : Nat} {d : D} {P : D → AH → Prop} (h : F[i]? = some (some d)) : uR (ev cl (.var i) F A) P ↔ P d A := by
  show uR (match F[i]? with | some (some d) => Res.ok d A | _ => .no) P ↔ _
  rw [h]
  exact Iff.rfl
theorem uR_cl {f : String} {es : Ex} {P : D → AH → Prop} : uR (ev cl (.call f es) F A) P ↔ uR (evs cl es F A) (fun ds A1 => uR (cl f ds A1) P) := uR_bnd
theorem uR_bi {f : String} {es : Ex} {P : D → AH → Prop} : uR (ev cl (.bi f es) F A) P ↔ uR (evs cl es F A) (fun ds A1 => uR (biF A1 f ds) P) := uR_bnd
theorem uR_op {o : BOp} {a b : Ex} {P : D → AH → Prop} : uR (ev cl (.op o a b) F A) P ↔ uR (ev cl a F A) (fun x A1 => uR (ev cl b F A1) fun y A2 => uR (opB A2 o x y) P) := by
  refine uR_bnd.trans ?_
  cases ev cl a F A with
  | ok x A1 => exact uR_bnd
  | exc => rfl
  | no => rfl
theorem uR_nil {P : List D → AH → Prop} : uR (evs cl .nil F A) P ↔ P [] A := Iff.rfl
theorem uR_cons {a r : Ex} {P : List D → AH → Prop} : uR (evs cl (.cons a r) F A) P ↔ uR (ev cl a F A) (fun x A1 => uR (evs cl r F A1) fun xs A2 => P (x :: xs) A2) := by
  refine uR_bnd.trans ?_
  cases ev cl a F A with
  | ok x A1 => exact uR_bnd
  | exc => rfl
  | no => rfl
theorem uR_cmp {o : COp} {a b : Ex} {P : D → AH → Prop} : uR (ev cl (.cmp o a b) F A) P ↔ uR (ev cl a F A) (fun x A1 => uR (ev cl b F A1) fun y A2 => uR (ofO ((opC A2 o x y).map .bl) A2) P) := by
  refine uR_bnd.trans ?_
  cases ev cl a F A with
  | ok x A1 => exact uR_bnd
  | exc => rfl
  | no => rfl
theorem uR_ix {a b : Ex} {P : D → AH → Prop} : uR (ev cl (.ix a b) F A) P ↔ uR (ev cl a F A) (fun x A1 => uR (ev cl b F A1) fun y A2 => uR (ofO (opI A2 x y) A2) P) := by
  refine uR_bnd.trans ?_
  cases ev cl a F A with
  | ok x A1 => exact uR_bnd
  | exc => rfl
  | no => rfl
theorem uR_mth {m : String} {o es : Ex} {P : D → AH → Prop} : uR (ev cl (.mth m o es) F A) P ↔ uR (ev cl o F A) (fun x A1 => uR (ofO (mkM A1 m x) A1) fun k A2 => uR (evs cl es F A2) fun ds A3 => uR (mtF A3 k m x ds) P) := by
  refine uR_bnd.trans ?_
  cases ev cl o F A with
  | ok x A1 =>
    refine uR_bnd.trans ?_
    show uR (ofO (mkM A1 m x) A1) _ ↔ uR (ofO (mkM A1 m x) A1) _
    cases ofO (mkM A1 m x) A1 with
    | ok k A2 => exact uR_bnd
    | exc => rfl
    | no => rfl
  | exc => rfl
  | no => rfl
end
theorem gOk_kp {A B : AH} {g : Guard} (k : Kp A B) (h : gOk A g = true) : gOk B g = true := by
  unfold gOk at h ⊢
  rw [List.all_eq_true] at h ⊢
  intro p hp
  have := h p hp
  simp only [decide_eq_true_eq] at this ⊢
  exact k _ _ this
/-- a row whose elements only add to the heap -/
theorem u_lcL_kp {asg : D → Fr → Option Fr} {g : Guard} {body : Fr → AH → Res (Option D)} {F : Fr} {P : List D → AH → Prop} {items : List D} {A0 : AH} (ys : List (Option D)) (hl : ys.length = items.length) (hz : items.length ≤ PySem.sizeLine) (hg : gOk A0 g = true)
    (hs : ∀ (j : Nat) (d : D) (o : Option D) (A : AH), items[j]? = some d → ys[j]? = some o → Kp A0 A → ∃ F', asg d F = some F' ∧ uR (body F' A) (fun o' A' => o' = o ∧ Kp A A')) (hd : ∀ A, Kp A0 A → P (ys.filterMap id) A) : uR (lcL asg g body F items [] A0) P := by
  refine u_lcL_ind (fun i acc A => Kp A0 A ∧ acc = (ys.take i).filterMap id ∧ acc.length ≤ i) items 0 [] A0 ⟨.refl, rfl, Nat.le_refl _⟩ (fun j d acc A e ⟨k, ea, el⟩ => ?_) fun acc A ⟨k, ea, el⟩ => ?_
  · have hj : j < items.length := (List.getElem?_eq_some_iff.mp e).1
    have hy : ys[j]? = some ys[j] := List.getElem?_eq_getElem (by omega)
    obtain ⟨F', h1, h2⟩ := hs j d _ A e hy k
    refine ⟨gOk_kp k hg, F', h1, h2.mono fun o A' ⟨ho, k'⟩ => ?_⟩
    subst ho
    have ht : ys.take (0 + j + 1) = ys.take (0 + j) ++ [ys[j]] := by rw [Nat.zero_add, List.take_succ, hy]; rfl
    cases h : ys[j] with
    | some y =>
      simp only
      refine ⟨by omega, k.trans k', ?_, by simp; omega⟩
      rw [ht, List.filterMap_append, ← ea, h]
      rfl
    | none =>
      simp only
      refine ⟨k.trans k', ?_, by omega⟩
      rw [ht, List.filterMap_append, ← ea, h]
      simp
  · refine ⟨gOk_kp k hg, ?_⟩
    rw [Nat.zero_add, List.take_of_length_le (by omega)] at ea
    rw [ea]
    exact hd A k
end Ev
namespace Ev
section
variable {cl : String → List D → AH → Res D} {N : Nat} {F : Fr} {A : AH} {Pn Pb Pc : Fr → AH → Prop} {Pr : D → AH → Prop}
theorem uS_for {t : Tg} {it : Ex} {b : Sm} : uS (sx cl N (.for t it b) F A) Pn Pb Pc Pr ↔ uR (evw cl it F A) (fun w A1 => uS (unlS w.lock (forL (asgT t) w.g (fun F' A' => sx cl N b F' A') w.items F (lockA A1 w.lock))) Pn Pb Pc Pr) := uS_bns
theorem uS_sub {o i e : Ex} : uS (sx cl N (.sub o i e) F A) Pn Pb Pc Pr ↔ uR (ev cl e F A) (fun v A1 => uR (ev cl o F A1) fun x A2 => uR (ev cl i F A2) fun y A3 => ∃ A4, opSet A3 x y v = some A4 ∧ Pn F A4) := by
  refine uS_bns.trans ?_
  cases ev cl e F A with
  | ok v A1 =>
    refine uS_bns.trans ?_
    show uR (ev cl o F A1) _ ↔ uR (ev cl o F A1) _
    cases ev cl o F A1 with
    | ok x A2 =>
      refine uS_bns.trans ?_
      show uR (ev cl i F A2) _ ↔ uR (ev cl i F A2) _
      cases ev cl i F A2 with
      | ok y A3 =>
        show uS (match opSet A3 x y v with | some A4 => SR.nx F A4 | none => .no) Pn Pb Pc Pr ↔ ∃ A4, opSet A3 x y v = some A4 ∧ Pn F A4
        cases opSet A3 x y v with
        | some A4 => exact ⟨fun h => ⟨A4, rfl, h⟩, fun ⟨_, e, h⟩ => by cases e; exact h⟩
        | none => exact ⟨fun h => h.elim, fun ⟨_, e, _⟩ => by cases e⟩
      | exc => rfl
      | no => rfl
    | exc => rfl
    | no => rfl
  | exc => rfl
  | no => rfl
theorem uS_asg {t : Tg} {e : Ex} : uS (sx cl N (.asg t e) F A) Pn Pb Pc Pr ↔ uR (ev cl e F A) (fun d A1 => ∃ F', asgT t d F = some F' ∧ Pn F' A1) := by
  refine uS_bns.trans ?_
  cases ev cl e F A with
  | ok d A1 =>
    show uS (match asgT t d F with | some F' => SR.nx F' A1 | none => .no) Pn Pb Pc Pr ↔ ∃ F', asgT t d F = some F' ∧ Pn F' A1
    cases asgT t d F with
    | some F' => exact ⟨fun h => ⟨F', rfl, h⟩, fun ⟨_, e, h⟩ => by cases e; exact h⟩
    | none => exact ⟨fun h => h.elim, fun ⟨_, e, _⟩ => by cases e⟩
  | exc => rfl
  | no => rfl
end
theorem uS.mono {r : SR} {Pn Pb Pc Pn' Pb' Pc' : Fr → AH → Prop} {Pr Pr' : D → AH → Prop} (h : uS r Pn Pb Pc Pr) (k1 : ∀ F A, Pn F A → Pn' F A) (k2 : ∀ F A, Pb F A → Pb' F A) (k3 : ∀ F A, Pc F A → Pc' F A) (k4 : ∀ d A, Pr d A → Pr' d A) : uS r Pn' Pb' Pc' Pr' := by
  cases r with
  | nx F A => exact k1 _ _ h
  | bk F A => exact k2 _ _ h
  | ct F A => exact k3 _ _ h
  | rt d A => exact k4 _ _ h
  | exc => exact h
  | no => exact h
/-- a list that was not there -/
def u_FL (A : AH) (r : Res D) (xs : List D) : Prop := uR r fun d A' => ∃ a, d = .ref a ∧ Kp A A' ∧ A[a]? = none ∧ A'[a]? = some (.lst xs)
theorem u_FL.walk {A : AH} {r : Res D} {xs : List D} {P : Wk → AH → Prop} (h : u_FL A r xs) (k : ∀ a A', Kp A A' → A[a]? = none → A'[a]? = some (.lst xs) → P ⟨xs, [(a, .lst xs)], none⟩ A') : uR r (fun x A1 => uR (ofO (wkOf A1 x) A1) P) := by
  refine h.mono fun d A' ⟨a, e, k1, k2, k3⟩ => ?_
  subst e
  have : wkOf A' (.ref a) = some ⟨xs, [(a, .lst xs)], none⟩ := by simp [wkOf, k3]
  rw [this]
  exact k a A' k1 k2 k3
theorem u_FL.enum {A : AH} {r : Res D} {xs : List D} {P : Wk → AH → Prop} (h : u_FL A r xs) (k : ∀ a A', Kp A A' → A[a]? = none → A'[a]? = some (.lst xs) → P ⟨enumD 0 xs, [(a, .lst xs)], none⟩ A') : uR r (fun x A1 => uR (ofO (wkEnum A1 x) A1) P) := by
  refine h.mono fun d A' ⟨a, e, k1, k2, k3⟩ => ?_
  subst e
  have : wkEnum A' (.ref a) = some ⟨enumD 0 xs, [(a, .lst xs)], none⟩ := by simp [wkEnum, wkOf, k3]
  rw [this]
  exact k a A' k1 k2 k3
theorem gOk_one {A : AH} {a : Nat} {o : AO} (h : A[a]? = some o) : gOk A [(a, o)] = true := by simp [gOk, h]
theorem seqL_of {A : AH} {a : Nat} {xs : List D} (h : A[a]? = some (.lst xs)) : seqL A a = some xs := by simp [seqL, h]
theorem new_none {A : AH} : A[A.length]? = none := by simp
theorem new_at {A : AH} {o : AO} : (A ++ [o])[A.length]? = some o := by simp
theorem app_at {A J : AH} {a : Nat} {o : AO} (h : A[a]? = some o) : (A ++ J)[a]? = some o := by
  rw [List.getElem?_append_left (List.getElem?_eq_some_iff.mp h).1]; exact h
theorem set_at {A : AH} {a : Nat} {o p : AO} (h : A[a]? = some o) : (A.set a p)[a]? = some p := by
  rw [List.getElem?_set_self (List.getElem?_eq_some_iff.mp h).1]
theorem set_ne {A : AH} {a b : Nat} {o p : AO} (h : A[b]? = some o) (n : a ≠ b) : (A.set a p)[b]? = some o := by
  rw [List.getElem?_set_ne n]; exact h
theorem extend_eq {A : AH} {a b : Nat} {xs ys : List D} (h1 : A[a]? = some (.lst xs)) (h2 : A[b]? = some (.lst ys)) (hz : xs.length + ys.length ≤ PySem.sizeLine) : mtF A false "extend" (.ref a) [.ref b] = .ok .non (A.set a (.lst (xs ++ ys))) := by
  show mtExtend A a [.ref b] = _
  simp only [mtExtend, h1, h2, if_pos hz]
theorem append_eq {A : AH} {a : Nat} {xs : List D} {y : D} (h1 : A[a]? = some (.lst xs)) (hz : xs.length < PySem.sizeLine) : mtF A false "append" (.ref a) [y] = .ok .non (A.set a (.lst (xs ++ [y]))) := by
  show mtAppend A a [y] = _
  simp only [mtAppend, h1, if_pos hz]
theorem mkM_lst {A : AH} {a : Nat} {xs : List D} {m : String} (h : A[a]? = some (.lst xs)) (hm : (mtG false m).isSome = true) : mkM A m (.ref a) = some false := by
  have : mkD A (.ref a) = some false := by simp [mkD, h]
  simp only [mkM, this, if_pos hm]
theorem opI_lst {A : AH} {a : Nat} {xs : List D} {k : Int} (h : A[a]? = some (.lst xs)) : opI A (.ref a) (.int k) = L2.atI xs k := by
  simp [opI, dctL, seqL, h]
theorem atI_nat {xs : List D} {i : Nat} : L2.atI xs (i : Int) = xs[i]? := by
  unfold L2.atI L2.ixN
  by_cases h : i < xs.length
  · simp [h]
  · simp [h]
end Ev
namespace Ev
section
variable {cl : String → List D → AH → Res D} {F : Fr} {A : AH}
theorem uR_int {i : Int} {P : D → AH → Prop} : uR (ev cl (.int i) F A) P ↔ P (.int i) A := Iff.rfl
theorem uR_str {i : String} {P : D → AH → Prop} : uR (ev cl (.str i) F A) P ↔ P (.str i) A := Iff.rfl
theorem uR_lst {es : Ex} {P : D → AH → Prop} : uR (ev cl (.lst es) F A) P ↔ uR (evs cl es F A) (fun ds A1 => uR (if ds.length ≤ PySem.sizeLine then Res.ok (.ref A1.length) (A1 ++ [.lst ds]) else .no) P) := uR_bnd
theorem uR_tup {es : Ex} {P : D → AH → Prop} : uR (ev cl (.tup es) F A) P ↔ uR (evs cl es F A) (fun ds A1 => uR (if ds.length ≤ PySem.sizeLine then Res.ok (.tup ds) A1 else .no) P) := uR_bnd
end
theorem len_lst {A : AH} {a : Nat} {xs : List D} (h : A[a]? = some (.lst xs)) : biF A "len" [.ref a] = .ok (.int xs.length) A := by
  show biLen A [.ref a] = _
  simp [biLen, dctL, seqL, h]
theorem len_tup {A : AH} {xs : List D} : biF A "len" [.tup xs] = .ok (.int xs.length) A := rfl
theorem add_lst {A : AH} {a b : Nat} {xs ys : List D} (h1 : A[a]? = some (.lst xs)) (h2 : A[b]? = some (.lst ys)) (hz : xs.length + ys.length ≤ PySem.sizeLine) : opB A .add (.ref a) (.ref b) = .ok (.ref A.length) (A ++ [.lst (xs ++ ys)]) := by
  simp only [opB, h1, h2, if_pos hz]
theorem wkRng_nat {n : Nat} (h : n < 1000000000) : wkRng [.int (n : Int)] = some ⟨(List.range n).map fun (i : Nat) => D.int (i : Int), [], none⟩ := by
  have hs : small (n : Int) = true := by
    have h1 : (-4611686018427387904 : Int) ≤ (n : Int) := by omega
    have h2 : (n : Int) < 4611686018427387904 := by omega
    unfold small
    rw [decide_eq_true h1, decide_eq_true h2]
    rfl
  have hr : rngD 0 (n : Int) = (List.range n).map fun (i : Nat) => D.int (i : Int) := by
    unfold rngD
    simp
  unfold wkRng
  simp only [hs, if_true, hr]
end Ev
namespace Ev
section
variable {cl : String → List D → AH → Res D} {F : Fr} {A : AH}
theorem uR_tru {r : Res D} {P : Bool → AH → Prop} : uR (tru r) P ↔ uR r (fun d A => uR (ofO (truth A d) A) P) := uR_bnd
theorem uR_not {a : Ex} {P : D → AH → Prop} : uR (ev cl (.not a) F A) P ↔ uR (ev cl a F A) (fun x A1 => uR (ofO ((truth A1 x).map fun b => .bl (!b)) A1) P) := uR_bnd
theorem uR_chn {o p : COp} {a b c : Ex} {P : D → AH → Prop} : uR (ev cl (.chn o p a b c) F A) P ↔ uR (ev cl a F A) (fun x A1 => uR (ev cl b F A1) fun y A2 => uR (ofO (opC A2 o x y) A2) fun r A3 => if r = true then uR (ev cl c F A3) (fun z A4 => uR (ofO ((opC A4 p y z).map .bl) A4) P) else P (.bl false) A3) := by
  refine uR_bnd.trans ?_
  cases ev cl a F A with
  | ok x A1 =>
    refine uR_bnd.trans ?_
    show uR (ev cl b F A1) _ ↔ uR (ev cl b F A1) _
    cases ev cl b F A1 with
    | ok y A2 =>
      refine uR_bnd.trans ?_
      show uR (ofO (opC A2 o x y) A2) _ ↔ uR (ofO (opC A2 o x y) A2) _
      cases opC A2 o x y with
      | some r =>
        cases r with
        | true => exact uR_bnd
        | false => exact Iff.rfl
      | none => exact Iff.rfl
    | exc => rfl
    | no => rfl
  | exc => rfl
  | no => rfl
theorem uR_and {a b : Ex} {P : D → AH → Prop} : uR (ev cl (.and a b) F A) P ↔ uR (ev cl a F A) (fun x A1 => uR (ofO (truth A1 x) A1) fun r A2 => if r = true then uR (ev cl b F A2) P else P x A2) := by
  refine uR_bnd.trans ?_
  cases ev cl a F A with
  | ok x A1 =>
    refine uR_bnd.trans ?_
    show uR (ofO (truth A1 x) A1) _ ↔ uR (ofO (truth A1 x) A1) _
    cases truth A1 x with
    | some r => cases r <;> exact Iff.rfl
    | none => exact Iff.rfl
  | exc => rfl
  | no => rfl
theorem uR_or {a b : Ex} {P : D → AH → Prop} : uR (ev cl (.or a b) F A) P ↔ uR (ev cl a F A) (fun x A1 => uR (ofO (truth A1 x) A1) fun r A2 => if r = true then P x A2 else uR (ev cl b F A2) P) := by
  refine uR_bnd.trans ?_
  cases ev cl a F A with
  | ok x A1 =>
    refine uR_bnd.trans ?_
    show uR (ofO (truth A1 x) A1) _ ↔ uR (ofO (truth A1 x) A1) _
    cases truth A1 x with
    | some r => cases r <;> exact Iff.rfl
    | none => exact Iff.rfl
  | exc => rfl
  | no => rfl
theorem uR_ite {c a b : Ex} {P : D → AH → Prop} : uR (ev cl (.ite c a b) F A) P ↔ uR (ev cl c F A) (fun x A1 => uR (ofO (truth A1 x) A1) fun r A2 => if r = true then uR (ev cl a F A2) P else uR (ev cl b F A2) P) := by
  refine uR_bnd.trans ?_
  cases ev cl c F A with
  | ok x A1 =>
    refine uR_bnd.trans ?_
    show uR (ofO (truth A1 x) A1) _ ↔ uR (ofO (truth A1 x) A1) _
    cases truth A1 x with
    | some r => cases r <;> exact Iff.rfl
    | none => exact Iff.rfl
  | exc => rfl
  | no => rfl
theorem uR_sl {a lo hi : Ex} {P : D → AH → Prop} : uR (ev cl (.sl a lo hi) F A) P ↔ uR (ev cl a F A) (fun x A1 => uR (evo cl lo F A1) fun l A2 => uR (evo cl hi F A2) fun h A3 => uR (opS A3 x l h) P) := by
  refine uR_bnd.trans ?_
  cases ev cl a F A with
  | ok x A1 =>
    refine uR_bnd.trans ?_
    show uR (evo cl lo F A1) _ ↔ uR (evo cl lo F A1) _
    cases evo cl lo F A1 with
    | ok l A2 => exact uR_bnd
    | exc => rfl
    | no => rfl
  | exc => rfl
  | no => rfl
end
open PySem
theorem cut_1 {x : D} {xs : List D} : cutD (x :: xs) (some 1) none = xs := by
  simp [cutD, HT.sIx]
theorem toPds_ints (p : List Nat) : toPds (p.map fun (i : Nat) => D.int i) = some (p.map fun (i : Nat) => PyData.int i) := by
  induction p with
  | nil => rfl
  | cons i r ih => simp [toPds, toPd, ih]
theorem shaped_ints (p : List Nat) : SeqAt.shaped (.tuple (p.map fun (i : Nat) => PyData.int i)) = true := by
  have h1 : PyData.canLayAll0 (p.map fun (i : Nat) => PyData.int i) = true := by
    induction p with
    | nil => rfl
    | cons i r ih => simp [PyData.canLayAll0, PyData.canLay0, ih]
  have h2 : PyData.depthAll (p.map fun (i : Nat) => PyData.int i) = 0 := by
    induction p with
    | nil => rfl
    | cons i r ih => simp only [List.map_cons, PyData.canLayAll0, Bool.and_eq_true] at h1; simp [PyData.depthAll, PyData.depth, ih h1.2]
  simp [SeqAt.shaped, PyData.canLay0, PyData.depth, h1, h2]
theorem eq_nil_ints {A : AH} {p : List Nat} : opC A .eq (.tup (p.map fun (i : Nat) => D.int i)) (.tup []) = some p.isEmpty := by
  show eqD A _ _ = _
  have h1 : toP A (.tup (p.map fun (i : Nat) => D.int i)) = some (.tuple (p.map fun (i : Nat) => PyData.int i)) := by
    show (toPds _).map PyData.tuple = _
    rw [toPds_ints]; rfl
  have h2 : toP A (.tup []) = some (.tuple []) := rfl
  have h3 : SeqAt.shaped (.tuple []) = true := shaped_ints []
  simp only [eqD, h1, h2, shaped_ints, h3]
  cases p <;> rfl
theorem set_lst {A : AH} {a i : Nat} {xs : List D} {v : D} (h : A[a]? = some (.lst xs)) (hi : i < xs.length) : opSet A (.ref a) (.int (i : Nat)) v = some (A.set a (.lst (xs.set i v))) := by
  have : L2.ixN xs.length (i : Int) = some i := by
    unfold L2.ixN
    simp [hi]
  simp only [opSet, h, this, Option.map_some]
end Ev

/-! ## EvTape -/
/-! EvTape: what all laws share: the tape, comparing. -/
namespace Ev
open PySem
def fdTape : Fd := ⟨1, 4,
 (.seq (.set 1 (.lc (.nm 3) (.wk (.var 0)) .nil (.bi "abs" (.cons (.bi "int" (.cons (.var 3) .nil)) .nil)) [3]))
 (.seq (.set 2 (.int 7))
 (.seq (.for (.nm 3) (.wk (.var 1)) (.seq (.set 2 (.op .mod (.bi "int" (.cons (.op .add (.op .mul (.var 2) (.int 31)) (.var 3)) .nil)) (.int 2147483647)))
 .skip))
 (.seq (.ret (.dct (.cons (.str "cells") (.cons (.var 1) (.cons (.str "at") (.cons (.int 0) (.cons (.str "left") (.cons (.int 0) (.cons (.str "seed") (.cons (.var 2) (.cons (.str "salt") (.cons (.int 0) .nil))))))))))))
 .skip))))⟩
def fdTake : Fd := ⟨2, 4,
 (.seq (.ite (.and (.cmp .eq (.ix (.var 0) (.str "left")) (.int 0)) (.cmp .lt (.ix (.var 0) (.str "at")) (.bi "len" (.cons (.ix (.var 0) (.str "cells")) .nil)))) (.seq (.sub (.var 0) (.str "left") (.ix (.ix (.var 0) (.str "cells")) (.ix (.var 0) (.str "at"))))
 (.seq (.sub (.var 0) (.str "at") (.op .add (.ix (.var 0) (.str "at")) (.int 1)))
 .skip)) .skip)
 (.seq (.ite (.cmp .gt (.ix (.var 0) (.str "left")) (.int 0)) (.seq (.set 2 (.op .mod (.bi "int" (.cons (.ix (.var 0) (.str "left")) .nil)) (.var 1)))
 (.seq (.sub (.var 0) (.str "left") (.op .fdiv (.ix (.var 0) (.str "left")) (.var 1)))
 (.seq (.ret (.var 2))
 .skip))) .skip)
 (.seq (.sub (.var 0) (.str "salt") (.op .add (.ix (.var 0) (.str "salt")) (.int 1)))
 (.seq (.set 3 (.op .mod (.bi "int" (.cons (.op .add (.op .mul (.ix (.var 0) (.str "seed")) (.int 48271)) (.op .mul (.ix (.var 0) (.str "salt")) (.int 69621))) .nil)) (.int 2147483647)))
 (.seq (.set 3 (.op .mod (.bi "int" (.cons (.op .add (.op .add (.op .mul (.var 3) (.var 3)) (.op .mul (.ix (.var 0) (.str "salt")) (.int 40692))) (.int 12345)) .nil)) (.int 2147483399)))
 (.seq (.ret (.op .mod (.bi "int" (.cons (.var 3) .nil)) (.var 1)))
 .skip))))))⟩
def fdIsInt : Fd := ⟨1, 1,
 (.seq (.ret (.and (.bi "isinstance" (.cons (.var 0) (.cons (.gl "int") .nil))) (.not (.bi "isinstance" (.cons (.var 0) (.cons (.gl "bool") .nil))))))
 .skip)⟩
def fdItems : Fd := ⟨2, 3,
 (.seq (.ite (.cmp .ne (.bi "len" (.cons (.var 0) .nil)) (.bi "len" (.cons (.var 1) .nil))) (.seq (.ret (.bl false))
 .skip) .skip)
 (.seq (.for (.nm 2) (.rng (.cons (.bi "len" (.cons (.var 1) .nil)) .nil)) (.seq (.ite (.not (.call "_law_same" (.cons (.ix (.var 0) (.var 2)) (.cons (.ix (.var 1) (.var 2)) .nil)))) (.seq (.ret (.bl false))
 .skip) .skip)
 .skip))
 (.seq (.ret (.bl true))
 .skip)))⟩
def fdSame : Fd := ⟨2, 3,
 (.seq (.ite (.cmp .is (.var 1) .non) (.seq (.ret (.cmp .is (.var 0) .non))
 .skip) .skip)
 (.seq (.ite (.bi "isinstance" (.cons (.var 1) (.cons (.gl "bool") .nil))) (.seq (.ret (.and (.bi "isinstance" (.cons (.var 0) (.cons (.gl "bool") .nil))) (.cmp .eq (.var 0) (.var 1))))
 .skip) .skip)
 (.seq (.ite (.bi "isinstance" (.cons (.var 1) (.cons (.gl "int") .nil))) (.seq (.ret (.and (.call "_law_is_integer" (.cons (.var 0) .nil)) (.cmp .eq (.var 0) (.var 1))))
 .skip) .skip)
 (.seq (.ite (.bi "isinstance" (.cons (.var 1) (.cons (.gl "str") .nil))) (.seq (.ret (.and (.bi "isinstance" (.cons (.var 0) (.cons (.gl "str") .nil))) (.cmp .eq (.var 0) (.var 1))))
 .skip) .skip)
 (.seq (.ite (.bi "isinstance" (.cons (.var 1) (.cons (.gl "tuple") .nil))) (.seq (.ret (.and (.bi "isinstance" (.cons (.var 0) (.cons (.gl "tuple") .nil))) (.call "_law_same_items" (.cons (.var 0) (.cons (.var 1) .nil)))))
 .skip) .skip)
 (.seq (.ite (.bi "isinstance" (.cons (.var 1) (.cons (.gl "list") .nil))) (.seq (.ret (.and (.bi "isinstance" (.cons (.var 0) (.cons (.gl "list") .nil))) (.call "_law_same_items" (.cons (.var 0) (.cons (.var 1) .nil)))))
 .skip) .skip)
 (.seq (.ite (.or (.not (.bi "isinstance" (.cons (.var 0) (.cons (.gl "dict") .nil)))) (.cmp .ne (.bi "len" (.cons (.var 0) .nil)) (.bi "len" (.cons (.var 1) .nil)))) (.seq (.ret (.bl false))
 .skip) .skip)
 (.seq (.for (.nm 2) (.wk (.var 1)) (.seq (.ite (.or (.cmp .nmem (.var 2) (.var 0)) (.not (.call "_law_same" (.cons (.ix (.var 0) (.var 2)) (.cons (.ix (.var 1) (.var 2)) .nil))))) (.seq (.ret (.bl false))
 .skip) .skip)
 .skip))
 (.seq (.for (.nm 2) (.wk (.var 0)) (.seq (.ite (.bi "isinstance" (.cons (.var 2) (.cons (.gl "bool") .nil))) (.seq (.ret (.bl false))
 .skip) .skip)
 .skip))
 (.seq (.ret (.bl true))
 .skip))))))))))⟩
theorem ev_sz : PySem.sizeLine = 16777216 := PySem.sizeLine_eq
/-! ### == of simple things -/
theorem strOk_of (s : String) : PyData.strOk (Str.ofString s) = true := by
  unfold PyData.strOk
  have : ∀ x ∈ (Str.ofString s).cps.toList, x < 0x110000 := fun x hx => by
    rw [ofString_cps] at hx
    obtain ⟨c, _, rfl⟩ := List.mem_map.mp hx
    have := c.valid
    rcases this with h | ⟨_, h⟩
    · exact Nat.lt_trans h (by decide)
    · exact h
  rw [Array.all_eq_true]
  intro i hi
  exact decide_eq_true (this _ (by simp))
theorem eq_str {A : AH} {x y : String} : opC A .eq (.str x) (.str y) = some (decide (x = y)) := by
  rw [show opC A .eq (.str x) (.str y) = Ev.eqD A (.str x) (.str y) from rfl]
  have h : ∀ z : String, SeqAt.shaped (.str (Str.ofString z)) = true := fun z => by
    simp [SeqAt.shaped, PyData.canLay0, PyData.depth, strOk_of]
  have h1 : ∀ z : String, toP A (.str z) = some (.str (Str.ofString z)) := fun z => rfl
  simp only [Ev.eqD, h1, h, Bool.and_self, if_true]
  congr 1
  show (Str.ofString x == Str.ofString y) = _
  by_cases e : x = y
  · subst e; simp
  · have : Str.ofString x ≠ Str.ofString y := fun z => e (ofString_inj z)
    simp [e, this]
theorem eq_int {A : AH} {i j : Int} : opC A .eq (.int i) (.int j) = some (decide (i = j)) := by
  rw [show opC A .eq (.int i) (.int j) = Ev.eqD A (.int i) (.int j) from rfl]
  have h : ∀ z : Int, SeqAt.shaped (.int z) = true := fun z => by simp [SeqAt.shaped, PyData.canLay0, PyData.depth]
  have h1 : ∀ z : Int, toP A (.int z) = some (.int z) := fun z => rfl
  simp only [Ev.eqD, h1, h, Bool.and_self, if_true]
  congr 1
theorem eq_bl {A : AH} {i j : Bool} : opC A .eq (.bl i) (.bl j) = some (i == j) := by
  rw [show opC A .eq (.bl i) (.bl j) = Ev.eqD A (.bl i) (.bl j) from rfl]
  have h : ∀ z : Bool, SeqAt.shaped (.bool z) = true := fun z => by simp [SeqAt.shaped, PyData.canLay0, PyData.depth]
  have h1 : ∀ z : Bool, toP A (.bl z) = some (.bool z) := fun z => rfl
  simp only [Ev.eqD, h1, h, Bool.and_self, if_true]
  rfl

/-! ### plain data -/
mutual
def pl : D → Bool
  | .non | .bl _ | .int _ | .str _ => true
  | .tup xs => pls xs && decide (xs.length ≤ 1000)
  | _ => false
def pls : List D → Bool
  | [] => true
  | d :: r => pl d && pls r
end
mutual
/-- how deep the tuples lie -/
def dp : D → Nat
  | .tup xs => dps xs + 1
  | _ => 0
def dps : List D → Nat
  | [] => 0
  | d :: r => max (dp d) (dps r)
end
theorem pls_mem : ∀ {xs : List D}, pls xs = true → ∀ d ∈ xs, pl d = true
  | [], _, d, h => by cases h
  | x :: r, h, d, hd => by
    rw [pls, Bool.and_eq_true] at h
    rcases List.mem_cons.mp hd with rfl | hd
    · exact h.1
    · exact pls_mem h.2 d hd
theorem dps_mem : ∀ {xs : List D} {d : D}, d ∈ xs → dp d ≤ dps xs
  | x :: r, d, hd => by
    rw [dps]
    rcases List.mem_cons.mp hd with rfl | hd
    · omega
    · have := dps_mem hd; omega
theorem pls_app {xs ys : List D} : pls (xs ++ ys) = (pls xs && pls ys) := by
  induction xs with
  | nil => simp [pls]
  | cons x r ih => simp [pls, ih, Bool.and_assoc]
section
variable {P : Pg} {N n : Nat} {A : AH}
theorem isint_int (hI : P "_law_is_integer" = some fdIsInt) {i : Int} : callF P N (n + 1) "_law_is_integer" [.int i] A = .ok (.bl true) A := by
  obtain ⟨a, A', e, h⟩ := u_eq_of_wR (P := fun r A' => r = .bl true ∧ A' = A) ((uR_call (n := n) (N := N) (A := A) (ds := [.int i]) hI rfl).mpr (show uS (sx (callF P N n) N fdIsInt.body [some (.int i)] A) _ _ _ _ from by
    refine u_ret_end 0 (F' := [some (.int i)]) rfl rfl ?_
    exact uR_eq (a := .bl true) (A := A) (by kernel_rfl) ⟨rfl, rfl⟩))
  rw [e, h.1, h.2]
theorem u_same_items_of (hS : P "_law_same_items" = some fdItems) {x y : D} {xs : List D} (h1 : (∃ a, x = .ref a ∧ A[a]? = some (.lst xs)) ∨ x = .tup xs) (h2 : (∃ a, y = .ref a ∧ A[a]? = some (.lst xs)) ∨ y = .tup xs) (hz : xs.length ≤ PySem.sizeLine)
    (h : ∀ d ∈ xs, ∀ A', Kp A A' → uR (callF P N n "_law_same" [d, d] A') (fun r A2 => r = .bl true ∧ Kp A' A2)) : uR (callF P N (n + 1) "_law_same_items" [x, y] A) (fun r A' => r = .bl true ∧ Kp A A') := by
  have ln : ∀ {z : D}, ((∃ a, z = .ref a ∧ A[a]? = some (.lst xs)) ∨ z = .tup xs) → ∀ A', Kp A A' → biF A' "len" [z] = .ok (.int xs.length) A' := fun hz A' k => by
    rcases hz with ⟨a, rfl, ha⟩ | rfl
    · exact len_lst (k _ _ ha)
    · exact len_tup
  have ix : ∀ {z : D}, ((∃ a, z = .ref a ∧ A[a]? = some (.lst xs)) ∨ z = .tup xs) → ∀ A' (i : Nat), Kp A A' → opI A' z (.int i) = xs[i]? := fun hz A' i k => by
    rcases hz with ⟨a, rfl, ha⟩ | rfl
    · rw [opI_lst (k _ _ ha), atI_nat]
    · exact atI_nat
  rw [uR_call hS rfl]
  show uS (sx _ N fdItems.body [some x, some y, none] A) _ _ _ _
  have hne : ∀ i : Int, opC A .ne (.int i) (.int i) = some false := fun i => by
    show (Ev.eqD A (.int i) (.int i)).map (!·) = _
    have : Ev.eqD A (.int i) (.int i) = some (decide (i = i)) := eq_int (A := A)
    rw [this]; simp
  rw [fdItems, uS_seq, uS_ite, uR_tru, uR_cmp, uR_bi, uR_cons, uR_var (d := x) rfl, uR_nil, ln h1 A .refl, uR_ok, uR_bi, uR_cons, uR_var (d := y) rfl, uR_nil, ln h2 A .refl, uR_ok, hne]
  show uR (ofO (some (D.bl false)) A) _
  rw [uR_some]
  show uR (ofO (some false) A) _
  rw [uR_some, if_neg (by decide), uS_skip, uS_seq, uS_for, uR_rng, uR_cons, uR_bi, uR_cons, uR_var (d := y) rfl, uR_nil, ln h2 A .refl, uR_ok, uR_nil, wkRng_nat (by rw [ev_sz] at hz; omega), uR_some]
  refine u_forL_ind (fun i F A' => ∃ z, F = [some x, some y, z] ∧ Kp A A') _ 0 _ A ⟨none, rfl, .refl⟩ (fun j d F A' e ⟨z, eF, k⟩ => ?_) fun F A' ⟨z, eF, k⟩ => ?_
  · subst eF
    refine ⟨rfl, ?_⟩
    have e : ((List.range xs.length).map fun (i : Nat) => D.int (i : Int))[j]? = some d := e
    rw [List.getElem?_map] at e
    obtain ⟨j', e1, rfl⟩ := Option.map_eq_some_iff.mp e
    obtain ⟨hj, e2⟩ := List.getElem?_eq_some_iff.mp e1
    have hj' : j < xs.length := by simpa using hj
    have : j' = j := by rw [← e2]; simp
    subst this
    have hp : xs[j']? = some xs[j'] := List.getElem?_eq_getElem hj'
    generalize xs[j'] = d at hp
    refine ⟨[some x, some y, some (.int (j' : Nat))], rfl, ?_⟩
    rw [uS_seq, uS_ite, uR_tru, uR_not, uR_cl, uR_cons, uR_ix, uR_var (d := x) rfl, uR_var (d := .int (j' : Nat)) rfl, ix h1 A' j' k, hp, uR_some, uR_cons, uR_ix, uR_var (d := y) rfl, uR_var (d := .int (j' : Nat)) rfl, ix h2 A' j' k, hp, uR_some, uR_nil]
    refine (h d (List.mem_of_getElem? hp) A' k).mono fun r A2 ⟨er, k2⟩ => ?_
    subst er
    show uR (ofO (some (D.bl false)) A2) _
    rw [uR_some]
    show uR (ofO (some false) A2) _
    rw [uR_some, if_neg (by decide), uS_skip, uS_skip]
    exact ⟨_, rfl, k.trans k2⟩
  · subst eF
    refine ⟨rfl, ?_⟩
    rw [uS_seq, uS_ret]
    exact ⟨rfl, k⟩
/-- plain data is the same as itself -/
theorem u_same_pl (hI : P "_law_is_integer" = some fdIsInt) (hS : P "_law_same_items" = some fdItems) (hL : P "_law_same" = some fdSame) : ∀ (n : Nat) (d : D) (A : AH), pl d = true → 2 * dp d + 1 < n → uR (callF P N n "_law_same" [d, d] A) (fun r A' => r = .bl true ∧ Kp A A')
  | 0, d, A, hp, hn => by omega
  | 1, d, A, hp, hn => by omega
  | n + 2, .non, A, hp, hn => by
    rw [uR_call hL rfl]
    exact u_ret_at 0 (F' := [some .non, some .non, none]) (by kernel_rfl) (by kernel_rfl) (by kernel_rfl) (uR_eq (a := .bl true) (A := A) (by kernel_rfl) ⟨rfl, .refl⟩)
  | n + 2, .bl b, A, hp, hn => by
    rw [uR_call hL rfl]
    refine u_ret_at 1 (F' := [some (.bl b), some (.bl b), none]) (by kernel_rfl) (by kernel_rfl) (by kernel_rfl) ?_
    show uR (ev _ (.and (.bi "isinstance" (.cons (.var 0) (.cons (.gl "bool") .nil))) (.cmp .eq (.var 0) (.var 1))) [some (.bl b), some (.bl b), none] A) _
    rw [uR_and]
    refine uR_eq (a := .bl true) (A := A) (by kernel_rfl) ?_
    show uR (ofO (some true) A) _
    rw [uR_some, if_pos rfl, uR_cmp, uR_var (d := .bl b) rfl, uR_var (d := .bl b) rfl, eq_bl]
    simp [uR_some]
    exact Kp.refl
  | n + 2, .int i, A, hp, hn => by
    rw [uR_call hL rfl]
    refine u_ret_at 2 (F' := [some (.int i), some (.int i), none]) (by kernel_rfl) (by kernel_rfl) (by kernel_rfl) ?_
    show uR (ev _ (.and (.call "_law_is_integer" (.cons (.var 0) .nil)) (.cmp .eq (.var 0) (.var 1))) [some (.int i), some (.int i), none] A) _
    rw [uR_and, uR_cl, uR_cons, uR_var (d := .int i) rfl, uR_nil, isint_int hI, uR_ok]
    show uR (ofO (some true) A) _
    rw [uR_some, if_pos rfl, uR_cmp, uR_var (d := .int i) rfl, uR_var (d := .int i) rfl, eq_int]
    simp [uR_some]
    exact Kp.refl
  | n + 2, .str s, A, hp, hn => by
    rw [uR_call hL rfl]
    refine u_ret_at 3 (F' := [some (.str s), some (.str s), none]) (by kernel_rfl) (by kernel_rfl) (by kernel_rfl) ?_
    show uR (ev _ (.and (.bi "isinstance" (.cons (.var 0) (.cons (.gl "str") .nil))) (.cmp .eq (.var 0) (.var 1))) [some (.str s), some (.str s), none] A) _
    rw [uR_and]
    refine uR_eq (a := .bl true) (A := A) (by kernel_rfl) ?_
    show uR (ofO (some true) A) _
    rw [uR_some, if_pos rfl, uR_cmp, uR_var (d := .str s) rfl, uR_var (d := .str s) rfl, eq_str]
    simp [uR_some]
    exact Kp.refl
  | n + 2, .tup xs, A, hp, hn => by
    rw [dp] at hn
    rw [uR_call hL rfl]
    refine u_ret_at 4 (F' := [some (.tup xs), some (.tup xs), none]) (by kernel_rfl) (by kernel_rfl) (by kernel_rfl) ?_
    show uR (ev _ (.and (.bi "isinstance" (.cons (.var 0) (.cons (.gl "tuple") .nil))) (.call "_law_same_items" (.cons (.var 0) (.cons (.var 1) .nil)))) [some (.tup xs), some (.tup xs), none] A) _
    rw [uR_and]
    refine uR_eq (a := .bl true) (A := A) (by kernel_rfl) ?_
    show uR (ofO (some true) A) _
    rw [uR_some, if_pos rfl, uR_cl, uR_cons, uR_var (d := .tup xs) rfl, uR_cons, uR_var (d := .tup xs) rfl, uR_nil]
    rw [pl, Bool.and_eq_true, decide_eq_true_eq] at hp
    exact u_same_items_of hS (.inr rfl) (.inr rfl) (by rw [ev_sz]; omega) fun d hd A' k => u_same_pl hI hS hL n d A' (pls_mem hp.1 d hd) (by have := dps_mem hd; omega)
  | n + 2, .frl _, A, hp, hn => by cases hp
  | n + 2, .ref _, A, hp, hn => by cases hp
  | n + 2, .gl _, A, hp, hn => by cases hp
/-- two lists of the same plain data -/
theorem u_same_lst (hI : P "_law_is_integer" = some fdIsInt) (hS : P "_law_same_items" = some fdItems) (hL : P "_law_same" = some fdSame) {a b : Nat} {xs : List D} (ha : A[a]? = some (.lst xs)) (hb : A[b]? = some (.lst xs)) (hz : xs.length ≤ PySem.sizeLine) (hp : pls xs = true) (hn : 2 * dps xs + 1 < n) :
    uR (callF P N (n + 2) "_law_same" [.ref a, .ref b] A) (fun r A' => r = .bl true ∧ Kp A A') := by
  have isa : ∀ {c : Nat} (t : String) (r : Bool), A[c]? = some (.lst xs) → tyNames.contains t = true → ("list" == t) = r → biF A "isinstance" [.ref c, .gl t] = .ok (.bl (r || ("list" == "bool" && t == "int"))) A := fun {c} t r h h1 h2 => by
    show biIsi A [.ref c, .gl t] = _
    have : tyName A (.ref c) = some "list" := by simp [tyName, h]
    simp only [biIsi, isA, this, h1, if_true, h2, Option.map_some]
    rfl
  rw [uR_call hL rfl]
  have tst : ∀ {Q : Bool → AH → Prop} (t : String) (F : Fr), F[1]? = some (some (.ref b)) → tyNames.contains t = true → ("list" == t) = false → Q false A → uR (tru (ev (callF P N (n + 1)) (.bi "isinstance" (.cons (.var 1) (.cons (.gl t) .nil))) F A)) Q := fun {Q} t F hF h1 h2 h3 => by
    rw [uR_tru, uR_bi, uR_cons, uR_var hF, uR_cons]
    show uR (biF A "isinstance" [.ref b, .gl t]) _
    rw [isa t false hb h1 h2, uR_ok]
    have : (false || ("list" == "bool" && t == "int")) = false := rfl
    rw [this]
    exact h3
  show uS (sx _ N fdSame.body [some (.ref a), some (.ref b), none] A) _ _ _ _
  rw [fdSame, uS_seq, uS_ite, uR_tru]
  refine uR_eq (a := .bl false) (A := A) (by kernel_rfl) ?_
  show uR (ofO (some false) A) _
  rw [uR_some, if_neg (by decide), uS_skip, uS_seq, uS_ite]
  refine tst "bool" _ rfl (by decide) (by decide) ?_
  rw [if_neg (by decide), uS_skip, uS_seq, uS_ite]
  refine tst "int" _ rfl (by decide) (by decide) ?_
  rw [if_neg (by decide), uS_skip, uS_seq, uS_ite]
  refine tst "str" _ rfl (by decide) (by decide) ?_
  rw [if_neg (by decide), uS_skip, uS_seq, uS_ite]
  refine tst "tuple" _ rfl (by decide) (by decide) ?_
  rw [if_neg (by decide), uS_skip, uS_seq, uS_ite, uR_tru, uR_bi, uR_cons, uR_var (d := .ref b) rfl, uR_cons]
  show uR (biF A "isinstance" [.ref b, .gl "list"]) _
  rw [isa "list" true hb (by decide) (by decide), uR_ok]
  show uR (ofO (some true) A) _
  rw [uR_some, if_pos rfl, uS_seq, uS_ret, uR_and, uR_bi, uR_cons, uR_var (d := .ref a) rfl, uR_cons]
  show uR (biF A "isinstance" [.ref a, .gl "list"]) _
  rw [isa "list" true ha (by decide) (by decide), uR_ok]
  show uR (ofO (some true) A) _
  rw [uR_some, if_pos rfl, uR_cl, uR_cons, uR_var (d := .ref a) rfl, uR_cons, uR_var (d := .ref b) rfl, uR_nil]
  exact u_same_items_of hS (.inl ⟨a, rfl, ha⟩) (.inl ⟨b, rfl, hb⟩) hz fun d hd A' k => u_same_pl hI hS hL n d A' (pls_mem hp d hd) (by have := dps_mem hd; omega)
end
end Ev

/-! ## EvTape2 -/
/-! EvTape2: the tape. -/
namespace Ev
open PySem
def tpD (c : Nat) (i l s z : Int) : List (D × D) := [(.str "cells", .ref c), (.str "at", .int i), (.str "left", .int l), (.str "seed", .int s), (.str "salt", .int z)]
theorem tpD_len {c : Nat} {i l s z : Int} : (tpD c i l s z).length < PySem.sizeLine := by
  rw [ev_sz]
  show 5 < 16777216
  omega
/-- the tape stands -/
def TapeOk (A : AH) (tp : Nat) : Prop := ∃ (c : Nat) (i l s z : Int) (cells : List Int), A[tp]? = some (.dct (tpD c i l s z)) ∧ A[c]? = some (.lst (cells.map .int)) ∧ 0 ≤ i ∧ 0 ≤ l ∧ (∀ x ∈ cells, 0 ≤ x) ∧ c = tp - 1
/-- all but the tape stands -/
structure Dr (tp : Nat) (A B : AH) : Prop where
  kp : ∀ (i : Nat) (o : AO), i ≠ tp → A[i]? = some o → B[i]? = some o
  tape : TapeOk B tp
theorem Dr.trans {tp : Nat} {A B C : AH} (a : Dr tp A B) (b : Dr tp B C) : Dr tp A C := ⟨fun i o n h => b.kp i o n (a.kp i o n h), b.tape⟩
theorem TapeOk.kp {tp : Nat} {A B : AH} (t : TapeOk A tp) (k : Kp A B) : TapeOk B tp := by
  obtain ⟨c, i, l, s, z, cells, h1, h2, h3⟩ := t
  exact ⟨c, i, l, s, z, cells, k _ _ h1, k _ _ h2, h3⟩
theorem Dr.of {tp : Nat} {A B : AH} (t : TapeOk A tp) (k : Kp A B) : Dr tp A B := ⟨fun i o _ h => k i o h, t.kp k⟩
theorem Dr.refl {tp : Nat} {A : AH} (t : TapeOk A tp) : Dr tp A A := .of t .refl
theorem Dr.app {tp : Nat} {A B J : AH} (d : Dr tp A B) : Dr tp A (B ++ J) := d.trans (.of d.tape Kp.refl.app)
theorem dct_get {A : AH} {a : Nat} {kvs : List (D × D)} {k : D} (h : A[a]? = some (.dct kvs)) (hk : keyOk k = true) : opI A (.ref a) k = dget kvs k := by
  have : dctL A a = some kvs := by simp [dctL, h]
  simp [opI, this, hk]
theorem dct_set {A : AH} {a : Nat} {kvs : List (D × D)} {k v : D} (h : A[a]? = some (.dct kvs)) (hk : keyOk k = true) (hz : kvs.length < PySem.sizeLine) : opSet A (.ref a) k v = some (A.set a (.dct (dput kvs k v))) := by
  simp [opSet, h, hk, hz]
theorem tape_set {A : AH} {tp c : Nat} {i l s z i' l' s' z' : Int} {cells : List Int} (h1 : A[tp]? = some (.dct (tpD c i l s z))) (h2 : A[c]? = some (.lst (cells.map .int))) (hi : 0 ≤ i') (hl : 0 ≤ l') (hc : ∀ x ∈ cells, 0 ≤ x) (hce : c = tp - 1) : Dr tp A (A.set tp (.dct (tpD c i' l' s' z'))) ∧ (A.set tp (.dct (tpD c i' l' s' z')))[c]? = some (.lst (cells.map .int)) := by
  have hne : tp ≠ c := fun e => by rw [e, h2] at h1; cases h1
  have h3 := set_ne (p := .dct (tpD c i' l' s' z')) h2 hne
  exact ⟨⟨fun j o n h => set_ne h (Ne.symm n), c, i', l', s', z', cells, set_at h1, h3, hi, hl, hc, hce⟩, h3⟩
section
variable {cl : String → List D → AH → Res D} {F : Fr} {A : AH} {tp c : Nat} {i l s z : Int}
theorem u_rd_key {key : String} {v : D} {P : D → AH → Prop} (hF : F[0]? = some (some (.ref tp))) (h : A[tp]? = some (.dct (tpD c i l s z))) (hk : dget (tpD c i l s z) (.str key) = some v) (p : P v A) : uR (ev cl (.ix (.var 0) (.str key)) F A) P := by
  rw [uR_ix, uR_var hF, uR_str, dct_get h rfl, hk]
  exact p
end
theorem int_id {A : AH} {i : Int} : biF A "int" [.int i] = .ok (.int i) A := rfl
theorem opB_mul {A : AH} {i j : Int} (h : j.natAbs < 18446744073709551616) : opB A .mul (.int i) (.int j) = .ok (.int (i * j)) A := by
  have : (decide (i.natAbs < 18446744073709551616) || decide (j.natAbs < 18446744073709551616)) = true := by rw [decide_eq_true h, Bool.or_true]
  show (if (decide (i.natAbs < 18446744073709551616) || decide (j.natAbs < 18446744073709551616)) = true then Res.ok (D.int (i * j)) A else .no) = _
  rw [if_pos this]
theorem opB_mod {A : AH} {i j : Int} (h : 0 < j) : opB A .mod (.int i) (.int j) = .ok (.int (i % j)) A := by
  show (if 0 < j then Res.ok (D.int (i % j)) A else .no) = _
  rw [if_pos h]
theorem opB_fdiv {A : AH} {i j : Int} (h : 0 < j) (h2 : j < 1073741824) : opB A .fdiv (.int i) (.int j) = .ok (.int (i / j)) A := by
  have : (decide (0 < j) && decide (j < 1073741824)) = true := by rw [decide_eq_true h, decide_eq_true h2]; rfl
  show (if (decide (0 < j) && decide (j < 1073741824)) = true then Res.ok (D.int (i / j)) A else .no) = _
  rw [if_pos this]
theorem opB_add {A : AH} {i j : Int} : opB A .add (.int i) (.int j) = .ok (.int (i + j)) A := rfl
theorem lt_int {A : AH} {i j : Int} : opC A .lt (.int i) (.int j) = some (decide (i < j)) := rfl
theorem gt_int {A : AH} {i j : Int} : opC A .gt (.int i) (.int j) = some (decide (j < i)) := rfl
theorem truth_bl {A : AH} {b : Bool} : truth A (.bl b) = some b := rfl
section
variable {P : Pg} {N n : Nat} {A : AH}
theorem u_take_spec (hT : P "_law_take" = some fdTake) {tp : Nat} {many : Int} (t : TapeOk A tp) (h0 : 0 < many) (h1 : many < 1073741824) :
    uR (callF P N (n + 1) "_law_take" [.ref tp, .int many] A) (fun r A' => ∃ m : Int, r = .int m ∧ 0 ≤ m ∧ m < many ∧ Dr tp A A') := by
  obtain ⟨c, i, l, s, z, cells, ht, hc, hi, hl, hcs, hce⟩ := t
  rw [uR_call hT rfl]
  show uS (sx _ N fdTake.body [some (.ref tp), some (.int many), none, none] A) _ _ _ _
  -- the second part, from a tape
  have part2 : ∀ (A2 : AH) (i l : Int), Dr tp A A2 → A2[tp]? = some (.dct (tpD c i l s z)) → A2[c]? = some (.lst (cells.map .int)) → 0 ≤ i → 0 ≤ l →
      uS (sx (callF P N n) N (drp 1 fdTake.body) [some (.ref tp), some (.int many), none, none] A2) (fun _ A' => ∃ m : Int, D.non = .int m ∧ 0 ≤ m ∧ m < many ∧ Dr tp A A') (fun _ _ => False) (fun _ _ => False) (fun r A' => ∃ m : Int, r = .int m ∧ 0 ≤ m ∧ m < many ∧ Dr tp A A') := by
    intro A2 i l d2 ht hc hi hl
    show uS (sx (callF P N n) N (.seq (.ite (.cmp .gt (.ix (.var 0) (.str "left")) (.int 0)) _ .skip) _) _ A2) _ _ _ _
    rw [uS_seq, uS_ite, uR_tru, uR_cmp]
    refine u_rd_key rfl ht rfl ?_
    rw [uR_int, gt_int]
    show uR (ofO (some (D.bl (decide (0 < l)))) A2) _
    rw [uR_some, truth_bl, uR_some]
    by_cases hl0 : 0 < l
    · rw [if_pos (decide_eq_true hl0), uS_seq, uS_set, uR_op, uR_bi, uR_cons]
      refine u_rd_key rfl ht rfl ?_
      rw [uR_nil, int_id, uR_ok, uR_var (d := .int many) rfl, opB_mod h0, uR_ok]
      show uS (sx _ N _ [some (.ref tp), some (.int many), some (.int (l % many)), none] A2) _ _ _ _
      rw [uS_seq, uS_sub, uR_op]
      refine u_rd_key rfl ht rfl ?_
      rw [uR_var (d := .int many) rfl, opB_fdiv h0 h1, uR_ok, uR_var (d := .ref tp) rfl, uR_str]
      refine ⟨_, dct_set ht rfl tpD_len, ?_⟩
      rw [uS_seq, uS_ret, uR_var (d := .int (l % many)) rfl]
      exact ⟨l % many, rfl, Int.emod_nonneg _ (by omega), Int.emod_lt_of_pos _ h0, d2.trans (tape_set (l' := l / many) ht hc hi (Int.ediv_nonneg hl (by omega)) hcs hce).1⟩
    · rw [if_neg (by simp [hl0]), uS_skip]
      rw [uS_seq, uS_sub, uR_op]
      refine u_rd_key rfl ht rfl ?_
      rw [uR_int, opB_add, uR_ok, uR_var (d := .ref tp) rfl, uR_str]
      refine ⟨_, dct_set ht rfl tpD_len, ?_⟩
      obtain ⟨d3, hc3⟩ := tape_set (z' := z + 1) (s' := s) (l' := l) (i' := i) ht hc hi hl hcs hce
      have ht3 : (A2.set tp (.dct (dput (tpD c i l s z) (.str "salt") (.int (z + 1)))))[tp]? = some (.dct (tpD c i l s (z + 1))) := set_at ht
      have d3 : Dr tp A2 (A2.set tp (.dct (dput (tpD c i l s z) (.str "salt") (.int (z + 1))))) := d3
      generalize A2.set tp (.dct (dput (tpD c i l s z) (.str "salt") (.int (z + 1)))) = A3 at ht3 d3
      rw [uS_seq, uS_set, uR_op, uR_bi, uR_cons, uR_op, uR_op]
      refine u_rd_key rfl ht3 rfl ?_
      rw [uR_int, opB_mul (by decide), uR_ok, uR_op]
      refine u_rd_key rfl ht3 rfl ?_
      rw [uR_int, opB_mul (by decide), uR_ok, opB_add, uR_ok, uR_nil, int_id, uR_ok, uR_int, opB_mod (by decide), uR_ok]
      generalize hm : (s * 48271 + (z + 1) * 69621) % 2147483647 = m1
      have hm1 : 0 ≤ m1 := by rw [← hm]; exact Int.emod_nonneg _ (by decide)
      have hm2 : m1 < 2147483647 := by rw [← hm]; exact Int.emod_lt_of_pos _ (by decide)
      show uS (sx _ N _ [some (.ref tp), some (.int many), none, some (.int m1)] A3) _ _ _ _
      rw [uS_seq, uS_set, uR_op, uR_bi, uR_cons, uR_op, uR_op, uR_op, uR_var (d := .int m1) rfl, uR_var (d := .int m1) rfl, opB_mul (by omega), uR_ok, uR_op]
      refine u_rd_key rfl ht3 rfl ?_
      rw [uR_int, opB_mul (by decide), uR_ok, opB_add, uR_ok, uR_int, opB_add, uR_ok, uR_nil, int_id, uR_ok, uR_int, opB_mod (by decide), uR_ok]
      generalize (m1 * m1 + (z + 1) * 40692 + 12345) % 2147483399 = m2
      show uS (sx _ N _ [some (.ref tp), some (.int many), none, some (.int m2)] A3) _ _ _ _
      rw [uS_seq, uS_ret, uR_op, uR_bi, uR_cons, uR_var (d := .int m2) rfl, uR_nil, int_id, uR_ok, uR_var (d := .int many) rfl, opB_mod h0]
      exact ⟨m2 % many, rfl, Int.emod_nonneg _ (by omega), Int.emod_lt_of_pos _ h0, d2.trans d3⟩
  show uS (sx (callF P N n) N (.seq (.ite (.and (.cmp .eq (.ix (.var 0) (.str "left")) (.int 0)) (.cmp .lt (.ix (.var 0) (.str "at")) (.bi "len" (.cons (.ix (.var 0) (.str "cells")) .nil)))) _ .skip) (drp 1 fdTake.body)) _ A) _ _ _ _
  rw [uS_seq, uS_ite, uR_tru, uR_and, uR_cmp]
  refine u_rd_key rfl ht rfl ?_
  rw [uR_int, eq_int]
  show uR (ofO (some (D.bl (decide (l = 0)))) A) _
  rw [uR_some, truth_bl, uR_some]
  by_cases hl0 : l = 0
  · rw [if_pos (decide_eq_true hl0), uR_cmp]
    refine u_rd_key rfl ht rfl ?_
    rw [uR_bi, uR_cons]
    refine u_rd_key rfl ht rfl ?_
    rw [uR_nil, len_lst hc, uR_ok, lt_int]
    show uR (ofO (some (D.bl (decide (i < ((cells.map D.int).length : Int))))) A) _
    rw [uR_some, truth_bl, uR_some]
    by_cases hlt : i < ((cells.map D.int).length : Int)
    · rw [if_pos (decide_eq_true hlt), uS_seq, uS_sub, uR_ix]
      refine u_rd_key rfl ht rfl ?_
      refine u_rd_key rfl ht rfl ?_
      have hx : ∃ x, cells[i.toNat]? = some x := ⟨_, List.getElem?_eq_getElem (by rw [List.length_map] at hlt; omega)⟩
      obtain ⟨x, hx⟩ := hx
      have hgx : opI A (.ref c) (.int i) = some (.int x) := by
        rw [opI_lst hc, show i = ((i.toNat : Nat) : Int) by omega, atI_nat, List.getElem?_map, hx]; rfl
      rw [hgx, uR_some, uR_var (d := .ref tp) rfl, uR_str]
      refine ⟨_, dct_set ht rfl tpD_len, ?_⟩
      have hx0 := hcs x (List.mem_of_getElem? hx)
      obtain ⟨d3, hc3⟩ := tape_set (z' := z) (s' := s) (l' := x) (i' := i) ht hc hi hx0 hcs hce
      have ht3 : (A.set tp (.dct (dput (tpD c i l s z) (.str "left") (.int x))))[tp]? = some (.dct (tpD c i x s z)) := set_at ht
      have d3 : Dr tp A (A.set tp (.dct (dput (tpD c i l s z) (.str "left") (.int x)))) := d3
      have hc3 : (A.set tp (.dct (dput (tpD c i l s z) (.str "left") (.int x))))[c]? = some (.lst (cells.map .int)) := hc3
      generalize A.set tp (.dct (dput (tpD c i l s z) (.str "left") (.int x))) = A3 at ht3 d3 hc3
      rw [uS_seq, uS_sub, uR_op]
      refine u_rd_key rfl ht3 rfl ?_
      rw [uR_int, opB_add, uR_ok, uR_var (d := .ref tp) rfl, uR_str]
      refine ⟨_, dct_set ht3 rfl tpD_len, ?_⟩
      rw [uS_skip]
      obtain ⟨d4, hc4⟩ := tape_set (z' := z) (s' := s) (l' := x) (i' := i + 1) ht3 hc3 (by omega) hx0 hcs hce
      exact part2 _ (i + 1) x (d3.trans d4) (set_at ht3) hc4 (by omega) hx0
    · rw [if_neg (by rw [decide_eq_false hlt]; exact Bool.false_ne_true), uS_skip]
      exact part2 A i l (.refl ⟨c, i, l, s, z, cells, ht, hc, hi, hl, hcs, hce⟩) ht hc hi hl
  · rw [if_neg (by simp [hl0])]
    show uR (ofO (some (decide (l = 0))) A) _
    rw [uR_some, if_neg (by simp [hl0]), uS_skip]
    exact part2 A i l (.refl ⟨c, i, l, s, z, cells, ht, hc, hi, hl, hcs, hce⟩) ht hc hi hl
theorem u_tape_spec (hT : P "_law_tape" = some fdTape) {ns : List Int} (hn : ns.length ≤ 63) : uR (callF P N (n + 1) "_law_tape" [.frl (ns.map .int)] []) (fun r A' => ∃ tp, r = .ref tp ∧ TapeOk A' tp) := by
  rw [uR_call hT rfl]
  show uS (sx _ N fdTape.body [some (.frl (ns.map .int)), none, none, none] []) _ _ _ _
  rw [fdTape, uS_seq, uS_set, uR_lc, uR_wk, uR_var (d := .frl (ns.map .int)) rfl]
  show uR (unlR none (bnd (lcL _ [] _ _ (ns.map .int) [] []) _)) _
  show uR (bnd _ _) _
  rw [uR_bnd]
  refine u_lcL_kp (ns.map fun i => some (D.int (if i < 0 then -i else i))) (by simp) (by rw [List.length_map, ev_sz]; omega) rfl (fun j d o A e1 e2 k => ?_) fun A k => ?_
  · rw [List.getElem?_map] at e1 e2
    obtain ⟨i, hi, rfl⟩ := Option.map_eq_some_iff.mp e1
    rw [hi] at e2
    cases e2
    refine ⟨_, rfl, ?_⟩
    rw [uR_lcB, uR_evc0, if_pos rfl, uR_bi, uR_cons, uR_bi, uR_cons, uR_var (d := .int i) rfl, uR_nil, int_id, uR_ok, uR_nil]
    exact ⟨rfl, .refl⟩
  · have fm : (ns.map fun i => some (D.int (if i < 0 then -i else i))).filterMap id = (ns.map fun i => if i < 0 then -i else i).map D.int := by
      induction ns with
      | nil => rfl
      | cons i r ih => simp
    rw [fm, uR_ok]
    generalize hcs : (ns.map fun i => if i < 0 then -i else i) = cells
    have hpos : ∀ x ∈ cells, 0 ≤ x := fun x hx => by
      rw [← hcs] at hx
      obtain ⟨i, _, rfl⟩ := List.mem_map.mp hx
      split <;> omega
    show uS (sx _ N _ [some (.frl (ns.map .int)), some (.ref A.length), none, none] (A ++ [.lst (cells.map .int)])) _ _ _ _
    rw [uS_seq, uS_set, uR_int]
    show uS (sx _ N _ [some (.frl (ns.map .int)), some (.ref A.length), some (.int 7), none] (A ++ [.lst (cells.map .int)])) _ _ _ _
    rw [uS_seq, uS_for, uR_wk, uR_var (d := .ref A.length) rfl]
    have hw : wkOf (A ++ [.lst (cells.map .int)]) (.ref A.length) = some ⟨cells.map .int, [(A.length, .lst (cells.map .int))], none⟩ := by simp [wkOf]
    rw [hw, uR_some]
    refine u_forL_ind (fun i F A' => A' = A ++ [.lst (cells.map .int)] ∧ ∃ s y, F = [some (.frl (ns.map .int)), some (.ref A.length), some (.int s), y]) _ 0 _ _ ⟨rfl, 7, none, rfl⟩ (fun j d F A' e ⟨eA, s, y, eF⟩ => ?_) fun F A' ⟨eA, s, y, eF⟩ => ?_
    · subst eA eF
      refine ⟨gOk_one new_at, ?_⟩
      rw [List.getElem?_map] at e
      obtain ⟨x, hx, rfl⟩ := Option.map_eq_some_iff.mp e
      refine ⟨[some (.frl (ns.map .int)), some (.ref A.length), some (.int s), some (.int x)], rfl, ?_⟩
      rw [uS_seq, uS_set, uR_op, uR_bi, uR_cons, uR_op, uR_op, uR_var (d := .int s) rfl, uR_int, opB_mul (by decide), uR_ok, uR_var (d := .int x) rfl, opB_add, uR_ok, uR_nil, int_id, uR_ok, uR_int, opB_mod (by decide), uR_ok, uS_skip]
      exact ⟨rfl, _, _, rfl⟩
    · subst eA eF
      refine ⟨gOk_one new_at, ?_⟩
      rw [uS_seq, uS_ret]
      refine uR_eq (a := .ref (A ++ [AO.lst (cells.map D.int)]).length) (A := (A ++ [AO.lst (cells.map D.int)]) ++ [.dct (tpD A.length 0 0 s 0)]) (by kernel_rfl) ?_
      exact ⟨_, rfl, A.length, 0, 0, s, 0, cells, new_at, app_at new_at, Int.le_refl 0, Int.le_refl 0, hpos, by simp⟩
end
end Ev

/-! ## EvWpX -/
/-! EvWpX: what the evaluator reaches, exceptions too; fields, makes, methods. -/
namespace Ev
open PySem
def uE {α : Type} (r : Res α) (P : α → AH → Prop) (X : Xc → AH → Prop) : Prop := match r with
  | .ok a A => P a A
  | .exc x A => X x A
  | .no => False
/-- statements: next, break, continue, return, exception -/
structure PX where
  nx : Fr → AH → Prop
  bk : Fr → AH → Prop := fun _ _ => False
  ct : Fr → AH → Prop := fun _ _ => False
  rt : D → AH → Prop := fun _ _ => False
  ex : Xc → Fr → AH → Prop := fun _ _ _ => False
def uT (r : SR) (P : PX) : Prop := match r with
  | .nx F A => P.nx F A
  | .bk F A => P.bk F A
  | .ct F A => P.ct F A
  | .rt d A => P.rt d A
  | .exc x F A => P.ex x F A
  | .no => False
theorem uE.mono {α : Type} {r : Res α} {P Q : α → AH → Prop} {X Y : Xc → AH → Prop} (h : uE r P X) (k : ∀ a A, P a A → Q a A) (k2 : ∀ x A, X x A → Y x A) : uE r Q Y := by
  cases r with
  | ok a A => exact k a A h
  | exc x A => exact k2 x A h
  | no => exact h
theorem uE_of {α : Type} {r : Res α} {P : α → AH → Prop} {X : Xc → AH → Prop} (h : uR r P) : uE r P X := by
  cases r with
  | ok a A => exact h
  | exc => exact h.elim
  | no => exact h
theorem uR_of {α : Type} {r : Res α} {P : α → AH → Prop} (h : uE r P fun _ _ => False) : uR r P := by
  cases r with
  | ok a A => exact h
  | exc => exact h
  | no => exact h
theorem uE_bnd {α β : Type} {r : Res α} {f : α → AH → Res β} {P : β → AH → Prop} {X : Xc → AH → Prop} : uE (bnd r f) P X ↔ uE r (fun a A => uE (f a A) P X) X := by cases r <;> rfl
theorem uE_bndR {α β : Type} {r : Res α} {f : α → AH → Res β} {P : β → AH → Prop} {X : Xc → AH → Prop} (h : uR r (fun a A => uE (f a A) P X)) : uE (bnd r f) P X := uE_bnd.mpr (uE_of h)
theorem uT.mono {r : SR} {P Q : PX} (h : uT r P) (k1 : ∀ F A, P.nx F A → Q.nx F A) (k2 : ∀ F A, P.bk F A → Q.bk F A) (k3 : ∀ F A, P.ct F A → Q.ct F A) (k4 : ∀ d A, P.rt d A → Q.rt d A) (k5 : ∀ x F A, P.ex x F A → Q.ex x F A) : uT r Q := by
  cases r with
  | nx F A => exact k1 _ _ h
  | bk F A => exact k2 _ _ h
  | ct F A => exact k3 _ _ h
  | rt d A => exact k4 _ _ h
  | exc x F A => exact k5 _ _ _ h
  | no => exact h
theorem uT_of {r : SR} {P : PX} (h : uS r P.nx P.bk P.ct P.rt) : uT r P := by
  cases r with
  | nx F A => exact h
  | bk F A => exact h
  | ct F A => exact h
  | rt d A => exact h
  | exc => exact h.elim
  | no => exact h
theorem uS_ofT {r : SR} {Pn Pb Pc : Fr → AH → Prop} {Pr : D → AH → Prop} (h : uT r { nx := Pn, bk := Pb, ct := Pc, rt := Pr }) : uS r Pn Pb Pc Pr := by
  cases r with
  | nx F A => exact h
  | bk F A => exact h
  | ct F A => exact h
  | rt d A => exact h
  | exc => exact h.elim
  | no => exact h
section
variable {cl : String → List D → AH → Res D} {N : Nat} {F : Fr} {A : AH} {P : PX}
theorem uT_bns {α : Type} {r : Res α} {f : α → AH → SR} : uT (bns F r f) P ↔ uE r (fun a A => uT (f a A) P) (fun x A => P.ex x F A) := by cases r <;> rfl
theorem uT_seq {a b : Sm} : uT (sx cl N (.seq a b) F A) P ↔ uT (sx cl N a F A) { P with nx := fun F A => uT (sx cl N b F A) P } := by
  show uT (match sx cl N a F A with | .nx F' A' => sx cl N b F' A' | x => x) P ↔ _
  cases sx cl N a F A <;> rfl
theorem uT_skip : uT (sx cl N .skip F A) P ↔ P.nx F A := Iff.rfl
theorem uT_ex {e : Ex} : uT (sx cl N (.ex e) F A) P ↔ uE (ev cl e F A) (fun _ A => P.nx F A) (fun x A => P.ex x F A) := uT_bns
theorem uT_set {i : Nat} {e : Ex} : uT (sx cl N (.set i e) F A) P ↔ uE (ev cl e F A) (fun d A => P.nx (fset F i d) A) (fun x A => P.ex x F A) := uT_bns
theorem uT_ret {e : Ex} : uT (sx cl N (.ret e) F A) P ↔ uE (ev cl e F A) (fun d A => P.rt d A) (fun x A => P.ex x F A) := uT_bns
theorem uT_ite {c : Ex} {a b : Sm} : uT (sx cl N (.ite c a b) F A) P ↔ uE (tru (ev cl c F A)) (fun r A => if r = true then uT (sx cl N a F A) P else uT (sx cl N b F A) P) (fun x A => P.ex x F A) := by
  refine uT_bns.trans ?_
  cases tru (ev cl c F A) with
  | ok r A => cases r <;> rfl
  | exc => rfl
  | no => rfl
/-- a test that raises nothing -/
theorem uT_if {c : Ex} {a b : Sm} (h : uR (ev cl c F A) (fun d A => uR (ofO (truth A d) A) fun r A => if r = true then uT (sx cl N a F A) P else uT (sx cl N b F A) P)) : uT (sx cl N (.ite c a b) F A) P :=
  uT_ite.mpr (uE_of (uR_tru.mpr h))
theorem uT_rs0 {c : String} : uT (sx cl N (.rs0 c) F A) P ↔ P.ex ⟨c, []⟩ F A := Iff.rfl
theorem uT_rs2 {c : String} {es : Ex} (h : uR (evs cl es F A) fun ds A => ∃ a b, ds = [a, b] ∧ P.ex ⟨c, [("code", a), ("path", b)]⟩ F A) : uT (sx cl N (.rs2 c es) F A) P := by
  refine uT_bns.mpr (uE_of (h.mono fun ds A ⟨a, b, e, p⟩ => ?_))
  subst e
  exact p
theorem uT_tr {b : Sm} {c : String} {cs : List String} {i : Option Nat} {h : Hd} : uT (sx cl N (.tr b c cs i h) F A) P ↔ uT (sx cl N b F A) { P with ex := fun x F A => uT (trR c cs i h (.exc x F A)) P } := by
  show uT (trR c cs i h (sx cl N b F A)) P ↔ _
  cases sx cl N b F A <;> rfl
theorem uT_fst {o e : Ex} {c f : String} (h : uR (ev cl e F A) fun v A1 => uR (ev cl o F A1) fun x A2 => ∃ A3, fstD A2 c f x v = some A3 ∧ P.nx F A3) : uT (sx cl N (.fst o c f e) F A) P := by
  refine uT_bns.mpr (uE_of (h.mono fun v A1 h => uT_bns.mpr (uE_of (h.mono fun x A2 ⟨A3, e, p⟩ => ?_))))
  rw [e]
  exact p
theorem uT_fau {o e : Ex} {c f : String} {op : BOp} (h : uR (ev cl o F A) fun x A1 => ∃ u, fldD A1 c f x = some u ∧ uR (ev cl e F A1) fun v A2 => ∃ w, augI op u v = some w ∧ ∃ A3, fstD A2 c f x w = some A3 ∧ P.nx F A3) : uT (sx cl N (.fau o c f op e) F A) P := by
  refine uT_bns.mpr (uE_of (h.mono fun x A1 ⟨u, e1, h⟩ => ?_))
  rw [e1]
  refine uT_bns.mpr (uE_of (h.mono fun v A2 ⟨w, e2, A3, e3, p⟩ => ?_))
  rw [e2]
  simp only [e3]
  exact p
theorem uT_sub {o i e : Ex} (h : uR (ev cl e F A) fun v A1 => uR (ev cl o F A1) fun x A2 => uR (ev cl i F A2) fun y A3 => ∃ A4, opSet A3 x y v = some A4 ∧ P.nx F A4) : uT (sx cl N (.sub o i e) F A) P := by
  refine uT_bns.mpr (uE_of (h.mono fun v A1 h => uT_bns.mpr (uE_of (h.mono fun x A2 h => uT_bns.mpr (uE_of (h.mono fun y A3 ⟨A4, e, p⟩ => ?_))))))
  rw [e]
  exact p
theorem u_forT_ind {asg : D → Fr → Option Fr} {g : Guard} {body : Fr → AH → SR} (I : Nat → Fr → AH → Prop) :
    ∀ (items : List D) (i : Nat) (F : Fr) (A : AH), I i F A →
      (∀ j d F A, items[j]? = some d → I (i + j) F A → gOk A g = true ∧ ∃ F', asg d F = some F' ∧ uT (body F' A) { P with nx := I (i + j + 1), bk := P.nx, ct := I (i + j + 1) }) →
      (∀ F A, I (i + items.length) F A → gOk A g = true ∧ P.nx F A) → uT (forL asg g body items F A) P
  | [], i, F, A, h0, hs, hd => by
    obtain ⟨h1, h2⟩ := hd F A h0
    unfold forL
    rw [if_pos h1]
    exact h2
  | d :: r, i, F, A, h0, hs, hd => by
    obtain ⟨h1, F', h2, h3⟩ := hs 0 d F A rfl h0
    unfold forL
    rw [if_pos h1]
    simp only [h2]
    have go : ∀ F A, I (i + 1) F A → uT (forL asg g body r F A) P := fun F A h => by
      refine u_forT_ind I r (i + 1) F A h (fun j d F A e h => ?_) (fun F A h => hd F A (by rw [List.length_cons]; rw [show i + (r.length + 1) = i + 1 + r.length by omega]; exact h))
      have := hs (j + 1) d F A (by simpa using e) (by rw [show i + (j + 1) = i + 1 + j by omega]; exact h)
      rw [show i + (j + 1) + 1 = i + 1 + j + 1 by omega] at this
      exact this
    cases e : body F' A with
    | nx F2 A2 => rw [e] at h3; exact go _ _ h3
    | ct F2 A2 => rw [e] at h3; exact go _ _ h3
    | bk F2 A2 => rw [e] at h3; exact h3
    | rt d A2 => rw [e] at h3; exact h3
    | exc y F2 A2 => rw [e] at h3; exact h3
    | no => rw [e] at h3; exact h3
theorem uT_for {t : Tg} {it : Ex} {b : Sm} (h : uR (evw cl it F A) fun w A1 => w.lock = none ∧ uT (forL (asgT t) w.g (fun F' A' => sx cl N b F' A') w.items F A1) P) : uT (sx cl N (.for t it b) F A) P := by
  refine uT_bns.mpr (uE_of (h.mono fun w A1 ⟨e, h⟩ => ?_))
  rw [e]
  exact h
variable {Q : D → AH → Prop} {X : Xc → AH → Prop}
theorem uE_cl {f : String} {es : Ex} (h : uR (evs cl es F A) fun ds A1 => uE (cl f ds A1) Q X) : uE (ev cl (.call f es) F A) Q X := uE_bndR h
theorem uE_mc {c m f : String} {o es : Ex} (h : uR (ev cl o F A) fun x A1 => isMe A1 c m x = true ∧ uR (evs cl es F A1) fun ds A2 => uE (cl f (x :: ds) A2) Q X) : uE (ev cl (.mc c m f o es) F A) Q X := by
  refine uE_bndR (h.mono fun x A1 ⟨e, h⟩ => ?_)
  rw [if_pos e]
  exact uE_bndR h
theorem uR_fld {a : Ex} {c f : String} {Q : D → AH → Prop} : uR (ev cl (.fld a c f) F A) Q ↔ uR (ev cl a F A) (fun x A1 => uR (ofO (fldD A1 c f x) A1) Q) := uR_bnd
theorem uR_mk {c f : String} {es : Ex} {Q : D → AH → Prop} (h : uR (evs cl es F A) fun ds A1 => uR (cl f (.ref A1.length :: ds) (A1 ++ [.ins c []])) fun r A2 => r = .non ∧ Q (.ref A1.length) A2) : uR (ev cl (.mk c f es) F A) Q := by
  refine uR_bnd.mpr (h.mono fun ds A1 h => uR_bnd.mpr (h.mono fun r A2 ⟨e, q⟩ => ?_))
  subst e
  exact q
theorem uR_cst {x : String} {d : D} {Q : D → AH → Prop} : uR (ev cl (.cst x d) F A) Q ↔ Q d A := Iff.rfl
end
theorem uE_call {P : Pg} {N n : Nat} {f : String} {fd : Fd} {ds : List D} {A : AH} {Q : D → AH → Prop} {X : Xc → AH → Prop} (h : P f = some fd) (hl : ds.length = fd.np) :
    uE (callF P N (n + 1) f ds A) Q X ↔ uT (sx (callF P N n) N fd.body (startF fd ds) A) { nx := fun _ A => Q .non A, rt := Q, ex := fun x _ A => X x A } := by
  show uE (match P f with
    | none => Res.no
    | some fd => if ds.length = fd.np then (match sx (callF P N n) N fd.body (startF fd ds) A with
      | .nx _ A' => .ok D.non A'
      | .rt d A' => .ok d A'
      | .exc x _ A' => .exc x A'
      | _ => .no) else .no) Q X ↔ _
  rw [h]
  simp only [hl, if_true]
  cases sx (callF P N n) N fd.body (startF fd ds) A <;> rfl
end Ev
namespace Ev
theorem uS_of_eq {r : SR} {Pn Pb Pc : Fr → AH → Prop} {Pr : D → AH → Prop} {d : D} {A : AH} (h : r = .rt d A) (p : Pr d A) : uS r Pn Pb Pc Pr := by rw [h]; exact p
theorem uT_of_eq {r : SR} {P : PX} {d : D} {A : AH} (h : r = .rt d A) (p : P.rt d A) : uT r P := by rw [h]; exact p
end Ev

/-! ## EvWpY -/
/-! EvWpY: more rules. -/
namespace Ev
open PySem
abbrev Cl0 := String → List D → AH → Res D
section
variable {cl : Cl0} {A : AH} {P : D → AH → Prop} {a b c d e f g h i j : Option D} {z : D} {F : Fr}
theorem uR_v0 : uR (ev cl (.var 0) (some z :: F) A) P ↔ P z A := Iff.rfl
theorem uR_v1 : uR (ev cl (.var 1) (a :: some z :: F) A) P ↔ P z A := Iff.rfl
theorem uR_v2 : uR (ev cl (.var 2) (a :: b :: some z :: F) A) P ↔ P z A := Iff.rfl
theorem uR_v3 : uR (ev cl (.var 3) (a :: b :: c :: some z :: F) A) P ↔ P z A := Iff.rfl
theorem uR_v4 : uR (ev cl (.var 4) (a :: b :: c :: d :: some z :: F) A) P ↔ P z A := Iff.rfl
theorem uR_v5 : uR (ev cl (.var 5) (a :: b :: c :: d :: e :: some z :: F) A) P ↔ P z A := Iff.rfl
theorem uR_v6 : uR (ev cl (.var 6) (a :: b :: c :: d :: e :: f :: some z :: F) A) P ↔ P z A := Iff.rfl
theorem uR_v7 : uR (ev cl (.var 7) (a :: b :: c :: d :: e :: f :: g :: some z :: F) A) P ↔ P z A := Iff.rfl
theorem uR_v8 : uR (ev cl (.var 8) (a :: b :: c :: d :: e :: f :: g :: h :: some z :: F) A) P ↔ P z A := Iff.rfl
theorem uR_non : uR (ev cl .non F A) P ↔ P .non A := Iff.rfl
theorem uR_bl {b : Bool} : uR (ev cl (.bl b) F A) P ↔ P (.bl b) A := Iff.rfl
theorem uR_tix {i : Nat} {k : Int} {xs : List D} {x : D} (h : F[i]? = some (some (.tup xs))) (h2 : L2.atI xs k = some x) : uR (ev cl (.ix (.var i) (.int k)) F A) P ↔ P x A := by
  rw [uR_ix, uR_var h, uR_int]
  show uR (ofO (L2.atI xs k) A) P ↔ _
  rw [h2]
  exact Iff.rfl
theorem uR_pcat {i : Nat} {k : Int} {xs : List D} (h : F[i]? = some (some (.tup xs))) (hl : xs.length ≤ 1000) : uR (ev cl (.op .add (.var i) (.tup (.cons (.int k) .nil))) F A) P ↔ P (.tup (xs ++ [.int k])) A := by
  rw [uR_op, uR_var h, uR_tup, uR_cons, uR_int, uR_nil]
  have h1 : [D.int k].length ≤ PySem.sizeLine := by rw [ev_sz]; simp
  rw [if_pos h1, uR_ok]
  have h2 : xs.length + [D.int k].length ≤ PySem.sizeLine := by rw [ev_sz]; simp; omega
  show uR (if xs.length + [D.int k].length ≤ PySem.sizeLine then Res.ok (D.tup (xs ++ [.int k])) A else .no) P ↔ _
  rw [if_pos h2]
  exact Iff.rfl
end
theorem uR_ifok {α : Type} {c : Prop} [Decidable c] {a : α} {A : AH} {P : α → AH → Prop} (h : c) : uR (if c then Res.ok a A else .no) P ↔ P a A := by
  rw [if_pos h]; exact Iff.rfl
theorem sz1 {α : Type} {l : List α} (h : l.length ≤ 1000) : l.length ≤ PySem.sizeLine := by rw [ev_sz]; omega
theorem u_ite_s {cl : Cl0} {N : Nat} {F : Fr} {A : AH} {Pn Pb Pc : Fr → AH → Prop} {Pr : D → AH → Prop} (k : Nat) {b : Sm} (h1 : sx cl N b F A = sx cl N (drp k b) F A) (h2 : isIte (drp k b) = true) (h3 : tru (ev cl (iteC (drp k b)) F A) = .ok true A)
    (h : uS (sx cl N (iteA (drp k b)) F A) (fun _ _ => False) Pb Pc Pr) : uS (sx cl N b F A) Pn Pb Pc Pr := u_ite_at k h1 h2 h3 h
section
variable {cl : Cl0} {N : Nat} {F : Fr} {A : AH} {P : PX}
theorem uT_setR {i : Nat} {e : Ex} (h : uR (ev cl e F A) fun d A => P.nx (fset F i d) A) : uT (sx cl N (.set i e) F A) P := uT_set.mpr (uE_of h)
theorem uT_retR {e : Ex} (h : uR (ev cl e F A) fun d A => P.rt d A) : uT (sx cl N (.ret e) F A) P := uT_ret.mpr (uE_of h)
theorem uT_word {i : Nat} {w z : String} {a b : Sm} (hF : F[i]? = some (some (.str w))) : uT (sx cl N (.ite (.cmp .eq (.var i) (.str z)) a b) F A) P ↔ if w = z then uT (sx cl N a F A) P else uT (sx cl N b F A) P := by
  rw [uT_ite]
  have : tru (ev cl (.cmp .eq (.var i) (.str z)) F A) = .ok (decide (w = z)) A := by
    show tru (bnd (match F[i]? with | some (some d) => Res.ok d A | _ => .no) fun x A1 => bnd (Res.ok (D.str z) A1) fun y A2 => ofO ((opC A2 .eq x y).map .bl) A2) = _
    rw [hF]
    show tru (ofO ((opC A .eq (.str w) (.str z)).map .bl) A) = _
    rw [eq_str]
    rfl
  rw [this]
  show (if decide (w = z) = true then _ else _) ↔ _
  by_cases h : w = z
  · rw [if_pos (decide_eq_true h), if_pos h]
  · rw [if_neg (by simp [h]), if_neg h]
theorem u_forT_nil {asg : D → Fr → Option Fr} {body : Fr → AH → SR} (h : P.nx F A) : uT (forL asg [] body [] F A) P := h
theorem u_forT_cons {asg : D → Fr → Option Fr} {body : Fr → AH → SR} {d : D} {r : List D} {F' : Fr} (h1 : asg d F = some F') (h : uT (body F' A) { P with nx := fun F A => uT (forL asg [] body r F A) P, bk := P.nx, ct := fun F A => uT (forL asg [] body r F A) P }) : uT (forL asg [] body (d :: r) F A) P := by
  show uT (if gOk A [] = true then (match asg d F with
    | some F' => (match body F' A with
      | .nx F2 A2 => forL asg [] body r F2 A2
      | .ct F2 A2 => forL asg [] body r F2 A2
      | .bk F2 A2 => .nx F2 A2
      | x => x)
    | none => .no) else .no) P
  rw [if_pos (show gOk A [] = true from rfl), h1]
  show uT (match body F' A with | .nx F2 A2 => forL asg [] body r F2 A2 | .ct F2 A2 => forL asg [] body r F2 A2 | .bk F2 A2 => .nx F2 A2 | x => x) P
  generalize body F' A = z at h ⊢
  cases z <;> exact h
end
section
variable {cl : Cl0} {N : Nat} {P : PX}
theorem u_whlT {c : Fr → AH → Res Bool} {body : Fr → AH → SR} (I : Nat → Fr → AH → Prop) (hs : ∀ k F A, I k F A → uR (c F A) (fun r A1 => if r = true then uT (body F A1) { P with nx := fun F2 A2 => ∃ k', k' < k ∧ I k' F2 A2, ct := fun F2 A2 => ∃ k', k' < k ∧ I k' F2 A2, bk := P.nx } else P.nx F A1)) :
    ∀ (N k : Nat) (F : Fr) (A : AH), k < N → I k F A → uT (whlL c body N F A) P
  | 0, k, _, _, h, _ => by omega
  | N + 1, k, F, A, h, hi => by
    have q := hs k F A hi
    show uT (match c F A with
      | .ok false A' => .nx F A'
      | .ok true A' => (match body F A' with
        | .nx F2 A2 => whlL c body N F2 A2
        | .ct F2 A2 => whlL c body N F2 A2
        | .bk F2 A2 => .nx F2 A2
        | x => x)
      | .exc x A' => .exc x F A'
      | .no => .no) P
    cases e : c F A with
    | ok r A1 =>
      rw [e] at q
      cases r with
      | false => exact q
      | true =>
        have q : uT (body F A1) { P with nx := fun F2 A2 => ∃ k', k' < k ∧ I k' F2 A2, ct := fun F2 A2 => ∃ k', k' < k ∧ I k' F2 A2, bk := P.nx } := q
        show uT (match body F A1 with
          | .nx F2 A2 => whlL c body N F2 A2
          | .ct F2 A2 => whlL c body N F2 A2
          | .bk F2 A2 => .nx F2 A2
          | x => x) P
        cases e2 : body F A1 with
        | nx F2 A2 => rw [e2] at q; obtain ⟨k', h1, h2⟩ := q; exact u_whlT I hs N k' F2 A2 (by omega) h2
        | ct F2 A2 => rw [e2] at q; obtain ⟨k', h1, h2⟩ := q; exact u_whlT I hs N k' F2 A2 (by omega) h2
        | bk F2 A2 => rw [e2] at q; exact q
        | rt d A2 => rw [e2] at q; exact q
        | exc x F2 A2 => rw [e2] at q; exact q
        | no => rw [e2] at q; exact q
    | exc x A1 => rw [e] at q; exact q.elim
    | no => rw [e] at q; exact q.elim
theorem uT_whl {c : Ex} {b : Sm} {F : Fr} {A : AH} (h : uT (whlL (fun F' A' => tru (ev cl c F' A')) (fun F' A' => sx cl N b F' A') N F A) P) : uT (sx cl N (.whl c b) F A) P := h
end
theorem u_dcL_nil {asg : D → Fr → Option Fr} {g : Guard} {body : Fr → AH → Res (Option (D × D))} {F : Fr} {A : AH} {acc : List (D × D)} {P : List (D × D) → AH → Prop} (hg : gOk A g = true) (h : P acc A) : uR (dcL asg g body F [] acc A) P := by
  unfold dcL
  rw [if_pos hg]
  exact h
theorem u_dcL_cons {asg : D → Fr → Option Fr} {g : Guard} {body : Fr → AH → Res (Option (D × D))} {F F' : Fr} {A : AH} {d : D} {r : List D} {acc : List (D × D)} {P : List (D × D) → AH → Prop} (hg : gOk A g = true) (ha : asg d F = some F')
    (h : uR (body F' A) fun o A' => match o with
      | some (k, v) => acc.length < PySem.sizeLine ∧ keyOk k = true ∧ uR (dcL asg g body F r (dput acc k v) A') P
      | none => uR (dcL asg g body F r acc A') P) : uR (dcL asg g body F (d :: r) acc A) P := by
  unfold dcL
  rw [if_pos hg]
  simp only [ha]
  rw [uR_bnd]
  refine h.mono fun o A' h => ?_
  cases o with
  | some y =>
    obtain ⟨k, v⟩ := y
    obtain ⟨h5, h6, h7⟩ := h
    simp only [h5, h6, decide_true, Bool.and_self, if_true]
    exact h7
  | none => exact h
theorem uS_unl {n : Nat} {r : SR} {Pn Pb Pc : Fr → AH → Prop} {Pr : D → AH → Prop} (h : uS r (fun F A => Pn F (unlockA A (some n))) (fun F A => Pb F (unlockA A (some n))) (fun F A => Pc F (unlockA A (some n))) (fun d A => Pr d (unlockA A (some n)))) : uS (unlS (some n) r) Pn Pb Pc Pr := by
  cases r with
  | nx F A => exact h
  | bk F A => exact h
  | ct F A => exact h
  | rt d A => exact h
  | exc => exact h.elim
  | no => exact h.elim
theorem uR_gl {cl : Cl0} {x : String} {F : Fr} {A : AH} {P : D → AH → Prop} : uR (ev cl (.gl x) F A) P ↔ P (.gl x) A := Iff.rfl
theorem u_lcL_nil {asg : D → Fr → Option Fr} {g : Guard} {body : Fr → AH → Res (Option D)} {F : Fr} {A : AH} {acc : List D} {P : List D → AH → Prop} (hg : gOk A g = true) (h : P acc A) : uR (lcL asg g body F [] acc A) P := by
  unfold lcL
  rw [if_pos hg]
  exact h
theorem u_lcL_cons {asg : D → Fr → Option Fr} {g : Guard} {body : Fr → AH → Res (Option D)} {F F' : Fr} {A : AH} {d : D} {r : List D} {acc : List D} {P : List D → AH → Prop} (hg : gOk A g = true) (ha : asg d F = some F')
    (h : uR (body F' A) fun o A' => match o with
      | some y => acc.length < PySem.sizeLine ∧ uR (lcL asg g body F r (acc ++ [y]) A') P
      | none => uR (lcL asg g body F r acc A') P) : uR (lcL asg g body F (d :: r) acc A) P := by
  unfold lcL
  rw [if_pos hg]
  simp only [ha]
  rw [uR_bnd]
  refine h.mono fun o A' h => ?_
  cases o with
  | some y =>
    simp only [h.1, if_true]
    exact h.2
  | none => exact h
theorem uE_ok {α : Type} {a : α} {A : AH} {P : α → AH → Prop} {X : Xc → AH → Prop} : uE (.ok a A) P X ↔ P a A := Iff.rfl
theorem uE_exc {α : Type} {x : Xc} {A : AH} {P : α → AH → Prop} {X : Xc → AH → Prop} : uE (.exc x A) P X ↔ X x A := Iff.rfl
theorem uE_some {α : Type} {a : α} {A : AH} {P : α → AH → Prop} {X : Xc → AH → Prop} : uE (ofO (some a) A) P X ↔ P a A := Iff.rfl
theorem uT_nx1 {F : Fr} {A : AH} {P : PX} : uT (.nx F A) P ↔ P.nx F A := Iff.rfl
theorem uT_bk1 {F : Fr} {A : AH} {P : PX} : uT (.bk F A) P ↔ P.bk F A := Iff.rfl
theorem uT_ct1 {F : Fr} {A : AH} {P : PX} : uT (.ct F A) P ↔ P.ct F A := Iff.rfl
theorem uT_rt1 {d : D} {A : AH} {P : PX} : uT (.rt d A) P ↔ P.rt d A := Iff.rfl
theorem uT_ex1 {x : Xc} {F : Fr} {A : AH} {P : PX} : uT (.exc x F A) P ↔ P.ex x F A := Iff.rfl
theorem uR_dct {cl : Cl0} {F : Fr} {A : AH} {es : Ex} {P : D → AH → Prop} : uR (ev cl (.dct es) F A) P ↔ uR (evs cl es F A) (fun ds A' => uR (match pairUp ds with
    | some kvs => if kvs.length ≤ 15 then Res.ok (.ref A'.length) (A' ++ [.dct (dmerge [] kvs)]) else .no
    | none => .no) P) := uR_bnd
theorem u_forS_nil {asg : D → Fr → Option Fr} {g : Guard} {body : Fr → AH → SR} {F : Fr} {A : AH} {Pn Pb Pc : Fr → AH → Prop} {Pr : D → AH → Prop} (hg : gOk A g = true) (h : Pn F A) : uS (forL asg g body [] F A) Pn Pb Pc Pr := by
  unfold forL
  rw [if_pos hg]
  exact h
theorem u_forS_cons {asg : D → Fr → Option Fr} {g : Guard} {body : Fr → AH → SR} {F F' : Fr} {A : AH} {d : D} {r : List D} {Pn Pb Pc : Fr → AH → Prop} {Pr : D → AH → Prop} (hg : gOk A g = true) (ha : asg d F = some F')
    (h : uS (body F' A) (fun F2 A2 => uS (forL asg g body r F2 A2) Pn Pb Pc Pr) Pn (fun F2 A2 => uS (forL asg g body r F2 A2) Pn Pb Pc Pr) Pr) : uS (forL asg g body (d :: r) F A) Pn Pb Pc Pr := by
  unfold forL
  rw [if_pos hg]
  simp only [ha]
  cases e : body F' A <;> (rw [e] at h; exact h)
theorem u_forU_nil {asg : D → Fr → Option Fr} {g : Guard} {body : Fr → AH → SR} {F : Fr} {A : AH} {P : PX} (hg : gOk A g = true) (h : P.nx F A) : uT (forL asg g body [] F A) P := by
  unfold forL
  rw [if_pos hg]
  exact h
theorem u_forU_cons {asg : D → Fr → Option Fr} {g : Guard} {body : Fr → AH → SR} {F F' : Fr} {A : AH} {d : D} {r : List D} {P : PX} (hg : gOk A g = true) (ha : asg d F = some F')
    (h : uT (body F' A) { P with nx := fun F2 A2 => uT (forL asg g body r F2 A2) P, bk := P.nx, ct := fun F2 A2 => uT (forL asg g body r F2 A2) P }) : uT (forL asg g body (d :: r) F A) P := by
  unfold forL
  rw [if_pos hg]
  simp only [ha]
  cases e : body F' A <;> (rw [e] at h; exact h)
theorem lcG {asg : D → Fr → Option Fr} {g : Guard} {body : Fr → AH → Res (Option D)} {F : Fr} {A : AH} (f : D → Option D) (hg : gOk A g = true) : ∀ (xs acc : List D), (∀ d ∈ xs, ∃ F', asg d F = some F' ∧ body F' A = .ok (f d) A) → acc.length + xs.length ≤ 1000 →
    lcL asg g body F xs acc A = .ok (acc ++ xs.filterMap f) A
  | [], acc, _, _ => by unfold lcL; simp [hg]
  | d :: r, acc, h, hl => by
    obtain ⟨F', h1, h2⟩ := h d List.mem_cons_self
    rw [List.length_cons] at hl
    have hz : acc.length < PySem.sizeLine := by rw [ev_sz]; omega
    unfold lcL
    simp only [h1, h2, bnd, hg, if_true, if_pos hz]
    cases e : f d with
    | some y =>
      simp only
      rw [lcG f hg r (acc ++ [y]) (fun d' hd => h d' (List.mem_cons_of_mem _ hd)) (by rw [List.length_append]; simp; omega)]
      simp [e]
    | none =>
      simp only
      rw [lcG f hg r acc (fun d' hd => h d' (List.mem_cons_of_mem _ hd)) (by omega)]
      simp [e]
/-- a comprehension that only reads -/
theorem u_lc_pure {cl : Cl0} {F : Fr} {A : AH} {t : Tg} {e c b : Ex} {own : List Nat} {d : D} {items : List D} {g : Guard} {P : D → AH → Prop} (f : D → Option D) (he : ev cl e F A = .ok d A) (hw : wkOf A d = some ⟨items, g, none⟩) (hg : gOk A g = true) (hl : items.length ≤ 1000)
    (h : ∀ x ∈ items, ∃ F', asgT t x (wipeF F own) = some F' ∧ lcB cl c b F' A = .ok (f x) A) (p : P (.ref A.length) (A ++ [.lst (items.filterMap f)])) : uR (ev cl (.lc t (.wk e) c b own) F A) P := by
  rw [uR_lc, uR_wk, he, uR_ok, hw, uR_some]
  have e1 := lcG (asg := asgT t) (g := g) (body := lcB cl c b) (F := wipeF F own) f hg items [] h (by simpa using hl)
  have e3 : lcL (asgT t) g (lcB cl c b) (wipeF F own) items [] (lockA A none) = .ok (items.filterMap f) A := e1
  dsimp only
  rw [e3]
  exact p
theorem lcB_0 {cl : Cl0} {F : Fr} {A : AH} {e : Ex} {y : D} (h : ev cl e F A = .ok y A) : lcB cl .nil e F A = .ok (some y) A := by
  show nox (bnd (ev cl e F A) fun y A3 => .ok (some y) A3) = _
  rw [h]
  rfl
theorem lcB_1 {cl : Cl0} {F : Fr} {A : AH} {c e : Ex} {y : D} {b : Bool} (hc : tru (ev cl c F A) = .ok b A) (h : b = true → ev cl e F A = .ok y A) : lcB cl (.cons c .nil) e F A = .ok (if b then some y else none) A := by
  show nox (bnd (tru (ev cl c F A)) fun b A2 => if b then bnd (ev cl e F A2) fun y A3 => .ok (some y) A3 else .ok none A2) = _
  rw [hc]
  cases b with
  | true =>
    show nox (bnd (ev cl e F A) fun y A3 => .ok (some y) A3) = _
    rw [h rfl]
    rfl
  | false => rfl
/-- an equation out of what is reached -/
theorem u_ev_eq {cl : Cl0} {F : Fr} {A : AH} {e : Ex} {y : D} (h : uR (ev cl e F A) fun d B => d = y ∧ B = A) : ev cl e F A = .ok y A := by
  obtain ⟨a, B, e1, h1, h2⟩ := u_eq_of_wR h
  rw [e1, h1, h2]
theorem u_tru_eq {cl : Cl0} {F : Fr} {A : AH} {e : Ex} {b : Bool} (h : uR (tru (ev cl e F A)) fun d B => d = b ∧ B = A) : tru (ev cl e F A) = .ok b A := by
  obtain ⟨a, B, e1, h1, h2⟩ := u_eq_of_wR h
  rw [e1, h1, h2]
theorem uR_call0 {cl : Cl0} {F : Fr} {A : AH} {f : String} {es : Ex} {P : D → AH → Prop} : uR (ev cl (.call f es) F A) P ↔ uR (evs cl es F A) (fun ds A1 => uR (cl f ds A1) P) := uR_bnd
end Ev

/-! ## EvSl -/
/-! EvSl (by seal.py): what the evaluator reaches, closed. -/
namespace Ev
open PySem
@[irreducible] def wR {α : Type} (r : Res α) (P : α → AH → Prop) : Prop := uR r P
theorem uR_w {α : Type} (r : Res α) (P : α → AH → Prop) : uR r P = wR r P := by unfold wR; rfl
@[irreducible] def wS (r : SR) (Pn : Fr → AH → Prop) (Pb Pc : Fr → AH → Prop) (Pr : D → AH → Prop) : Prop := uS r Pn Pb Pc Pr
theorem uS_w (r : SR) (Pn : Fr → AH → Prop) (Pb Pc : Fr → AH → Prop) (Pr : D → AH → Prop) : uS r Pn Pb Pc Pr = wS r Pn Pb Pc Pr := by unfold wS; rfl
theorem wR.mono {α : Type} {r : Res α} {P Q : α → AH → Prop} (h : wR r P) (k : ∀ a A, P a A → Q a A) : wR r Q := by
  simp only [← uR_w, ← uS_w] at *
  exact uR.mono h k
theorem wR_bnd {α β : Type} {r : Res α} {f : α → AH → Res β} {P : β → AH → Prop} : wR (bnd r f) P ↔ wR r (fun a A => wR (f a A) P) := by
  simp only [← uR_w, ← uS_w] at *
  exact uR_bnd 
theorem wR_ok {α : Type} {a : α} {A : AH} {P : α → AH → Prop} : wR (.ok a A) P ↔ P a A := by
  simp only [← uR_w, ← uS_w] at *
  exact uR_ok 
theorem wR_some {α : Type} {a : α} {A : AH} {P : α → AH → Prop} : wR (ofO (some a) A) P ↔ P a A := by
  simp only [← uR_w, ← uS_w] at *
  exact uR_some 
theorem wS_bns {α : Type} {r : Res α} {F : Fr} {f : α → AH → SR} {Pn Pb Pc : Fr → AH → Prop} {Pr : D → AH → Prop} : wS (bns F r f) Pn Pb Pc Pr ↔ wR r (fun a A => wS (f a A) Pn Pb Pc Pr) := by
  simp only [← uR_w, ← uS_w] at *
  exact uS_bns 
theorem wS_nx {F A Pn Pb Pc Pr} : wS (.nx F A) Pn Pb Pc Pr ↔ Pn F A := by
  simp only [← uR_w, ← uS_w] at *
  exact uS_nx 
theorem wS_bk {F A Pn Pb Pc Pr} : wS (.bk F A) Pn Pb Pc Pr ↔ Pb F A := by
  simp only [← uR_w, ← uS_w] at *
  exact uS_bk 
theorem wS_ct {F A Pn Pb Pc Pr} : wS (.ct F A) Pn Pb Pc Pr ↔ Pc F A := by
  simp only [← uR_w, ← uS_w] at *
  exact uS_ct 
theorem wS_rt {d A Pn Pb Pc Pr} : wS (.rt d A) Pn Pb Pc Pr ↔ Pr d A := by
  simp only [← uR_w, ← uS_w] at *
  exact uS_rt 
section
variable {cl : String → List D → AH → Res D} {N : Nat} {F : Fr} {A : AH} {Pn Pb Pc : Fr → AH → Prop} {Pr : D → AH → Prop}
theorem wS_seq {a b : Sm} : wS (sx cl N (.seq a b) F A) Pn Pb Pc Pr ↔ wS (sx cl N a F A) (fun F A => wS (sx cl N b F A) Pn Pb Pc Pr) Pb Pc Pr := by
  simp only [← uR_w, ← uS_w] at *
  exact uS_seq 
theorem wS_skip : wS (sx cl N .skip F A) Pn Pb Pc Pr ↔ Pn F A := by
  simp only [← uR_w, ← uS_w] at *
  exact uS_skip 
theorem wS_ex {e : Ex} : wS (sx cl N (.ex e) F A) Pn Pb Pc Pr ↔ wR (ev cl e F A) (fun _ A => Pn F A) := by
  simp only [← uR_w, ← uS_w] at *
  exact uS_ex 
theorem wS_set {i : Nat} {e : Ex} : wS (sx cl N (.set i e) F A) Pn Pb Pc Pr ↔ wR (ev cl e F A) (fun d A => Pn (fset F i d) A) := by
  simp only [← uR_w, ← uS_w] at *
  exact uS_set 
theorem wS_ret {e : Ex} : wS (sx cl N (.ret e) F A) Pn Pb Pc Pr ↔ wR (ev cl e F A) (fun d A => Pr d A) := by
  simp only [← uR_w, ← uS_w] at *
  exact uS_ret 
theorem wS_ite {c : Ex} {a b : Sm} : wS (sx cl N (.ite c a b) F A) Pn Pb Pc Pr ↔ wR (tru (ev cl c F A)) (fun r A => if r = true then wS (sx cl N a F A) Pn Pb Pc Pr else wS (sx cl N b F A) Pn Pb Pc Pr) := by
  simp only [← uR_w, ← uS_w] at *
  exact uS_ite 
theorem wS_brk : wS (sx cl N .brk F A) Pn Pb Pc Pr ↔ Pb F A := by
  simp only [← uR_w, ← uS_w] at *
  exact uS_brk 
theorem wS_cont : wS (sx cl N .cont F A) Pn Pb Pc Pr ↔ Pc F A := by
  simp only [← uR_w, ← uS_w] at *
  exact uS_cont 
end
theorem wR_call {P : Pg} {N n : Nat} {f : String} {fd : Fd} {ds : List D} {A : AH} {Q : D → AH → Prop} (h : P f = some fd) (hl : ds.length = fd.np) :
    wR (callF P N (n + 1) f ds A) Q ↔ wS (sx (callF P N n) N fd.body (startF fd ds) A) (fun _ A => Q .non A) (fun _ _ => False) (fun _ _ => False) Q := by
  simp only [← uR_w, ← uS_w] at *
  exact uR_call h hl
end Ev
namespace Ev
theorem lcL_ind {asg : D → Fr → Option Fr} {g : Guard} {body : Fr → AH → Res (Option D)} {F : Fr} {P : List D → AH → Prop} (I : Nat → List D → AH → Prop) :
    ∀ (items : List D) (i : Nat) (acc : List D) (A : AH), I i acc A →
      (∀ j d acc A, items[j]? = some d → I (i + j) acc A → gOk A g = true ∧ ∃ F', asg d F = some F' ∧ wR (body F' A) (fun o A' => match o with
        | some y => acc.length < PySem.sizeLine ∧ I (i + j + 1) (acc ++ [y]) A'
        | none => I (i + j + 1) acc A')) →
      (∀ acc A, I (i + items.length) acc A → gOk A g = true ∧ P acc A) → wR (lcL asg g body F items acc A) P := by
  simp only [← uR_w, ← uS_w] at *
  exact u_lcL_ind I
theorem dcL_ind {asg : D → Fr → Option Fr} {g : Guard} {body : Fr → AH → Res (Option (D × D))} {F : Fr} {P : List (D × D) → AH → Prop} (I : Nat → List (D × D) → AH → Prop) :
    ∀ (items : List D) (i : Nat) (acc : List (D × D)) (A : AH), I i acc A →
      (∀ j d acc A, items[j]? = some d → I (i + j) acc A → gOk A g = true ∧ ∃ F', asg d F = some F' ∧ wR (body F' A) (fun o A' => match o with
        | some (k, v) => acc.length < PySem.sizeLine ∧ keyOk k = true ∧ I (i + j + 1) (dput acc k v) A'
        | none => I (i + j + 1) acc A')) →
      (∀ acc A, I (i + items.length) acc A → gOk A g = true ∧ P acc A) → wR (dcL asg g body F items acc A) P := by
  simp only [← uR_w, ← uS_w] at *
  exact u_dcL_ind I
theorem forL_ind {asg : D → Fr → Option Fr} {g : Guard} {body : Fr → AH → SR} {Pn Pb Pc : Fr → AH → Prop} {Pr : D → AH → Prop} (I : Nat → Fr → AH → Prop) :
    ∀ (items : List D) (i : Nat) (F : Fr) (A : AH), I i F A →
      (∀ j d F A, items[j]? = some d → I (i + j) F A → gOk A g = true ∧ ∃ F', asg d F = some F' ∧ wS (body F' A) (I (i + j + 1)) Pn (I (i + j + 1)) Pr) →
      (∀ F A, I (i + items.length) F A → gOk A g = true ∧ Pn F A) → wS (forL asg g body items F A) Pn Pb Pc Pr := by
  simp only [← uR_w, ← uS_w] at *
  exact u_forL_ind I
end Ev
namespace Ev
section
variable {cl : String → List D → AH → Res D} {N : Nat} {F F' : Fr} {A : AH} {Pn Pb Pc : Fr → AH → Prop} {Pr : D → AH → Prop}
theorem ret_at (k : Nat) {b : Sm} (h1 : sx cl N b F A = sx cl N (drp k b) F' A) (h2 : isIteR (drp k b) = true) (h3 : tru (ev cl (iteC (drp k b)) F' A) = .ok true A) (h : wR (ev cl (iteR (drp k b)) F' A) Pr) : wS (sx cl N b F A) Pn Pb Pc Pr := by
  simp only [← uR_w, ← uS_w] at *
  exact u_ret_at k h1 h2 h3 h
theorem ret_end (k : Nat) {b : Sm} {e : Ex} (h1 : sx cl N b F A = sx cl N (drp k b) F' A) (h2 : drp k b = .seq (.ret e) .skip) (h : wR (ev cl e F' A) Pr) : wS (sx cl N b F A) Pn Pb Pc Pr := by
  simp only [← uR_w, ← uS_w] at *
  exact u_ret_end k h1 h2 h
end
theorem wR_eq {α : Type} {r : Res α} {P : α → AH → Prop} {a : α} {A : AH} (h : r = .ok a A) (p : P a A) : wR r P := by
  simp only [← uR_w, ← uS_w] at *
  exact uR_eq h p
theorem eq_of_wR {α : Type} {r : Res α} {P : α → AH → Prop} (h : wR r P) : ∃ a A, r = .ok a A ∧ P a A := by
  simp only [← uR_w, ← uS_w] at *
  exact u_eq_of_wR h
end Ev
namespace Ev
section
variable {cl : String → List D → AH → Res D} {N : Nat} {F F' : Fr} {A : AH} {Pn Pb Pc : Fr → AH → Prop} {Pr : D → AH → Prop}
theorem ite_at (k : Nat) {b : Sm} (h1 : sx cl N b F A = sx cl N (drp k b) F' A) (h2 : isIte (drp k b) = true) (h3 : tru (ev cl (iteC (drp k b)) F' A) = .ok true A) (h : wS (sx cl N (iteA (drp k b)) F' A) (fun _ _ => False) Pb Pc Pr) : wS (sx cl N b F A) Pn Pb Pc Pr := by
  simp only [← uR_w, ← uS_w] at *
  exact u_ite_at k h1 h2 h3 h
end
end Ev
namespace Ev
theorem wR_nox {α : Type} {r : Res α} {P : α → AH → Prop} : wR (nox r) P ↔ wR r P := by
  simp only [← uR_w, ← uS_w] at *
  exact uR_nox 
section
variable {cl : String → List D → AH → Res D} {F : Fr} {A : AH}
theorem wR_lc {t : Tg} {it c e : Ex} {own : List Nat} {P : D → AH → Prop} : wR (ev cl (.lc t it c e own) F A) P ↔ wR (evw cl it F A) (fun w A1 => wR (unlR w.lock (bnd (lcL (asgT t) w.g (lcB cl c e) (wipeF F own) w.items [] (lockA A1 w.lock)) fun ds A2 => .ok (.ref A2.length) (A2 ++ [.lst ds]))) P) := by
  simp only [← uR_w, ← uS_w] at *
  exact uR_lc 
theorem wR_dc {t : Tg} {it c k v : Ex} {own : List Nat} {P : D → AH → Prop} : wR (ev cl (.dc t it c k v own) F A) P ↔ wR (evw cl it F A) (fun w A1 => wR (unlR w.lock (bnd (dcL (asgT t) w.g (dcB cl c k v) (wipeF F own) w.items [] (lockA A1 w.lock)) fun ds A2 => .ok (.ref A2.length) (A2 ++ [.dct ds]))) P) := by
  simp only [← uR_w, ← uS_w] at *
  exact uR_dc 
theorem wR_lcB {c e : Ex} {P : Option D → AH → Prop} : wR (lcB cl c e F A) P ↔ wR (evc cl c F A) (fun b A2 => if b = true then wR (ev cl e F A2) (fun y A3 => P (some y) A3) else P none A2) := by
  simp only [← uR_w, ← uS_w] at *
  exact uR_lcB 
theorem wR_dcB {c k v : Ex} {P : Option (D × D) → AH → Prop} : wR (dcB cl c k v F A) P ↔ wR (evc cl c F A) (fun b A2 => if b = true then wR (ev cl k F A2) (fun x A3 => wR (ev cl v F A3) fun y A4 => P (some (x, y)) A4) else P none A2) := by
  simp only [← uR_w, ← uS_w] at *
  exact uR_dcB 
theorem wR_evc0 {P : Bool → AH → Prop} : wR (evc cl .nil F A) P ↔ P true A := by
  simp only [← uR_w, ← uS_w] at *
  exact uR_evc0 
theorem wR_wk {e : Ex} {P : Wk → AH → Prop} : wR (evw cl (.wk e) F A) P ↔ wR (ev cl e F A) (fun x A1 => wR (ofO (wkOf A1 x) A1) P) := by
  simp only [← uR_w, ← uS_w] at *
  exact uR_wk 
theorem wR_enm {e : Ex} {P : Wk → AH → Prop} : wR (evw cl (.enm e) F A) P ↔ wR (ev cl e F A) (fun x A1 => wR (ofO (wkEnum A1 x) A1) P) := by
  simp only [← uR_w, ← uS_w] at *
  exact uR_enm 
theorem wR_rng {e : Ex} {P : Wk → AH → Prop} : wR (evw cl (.rng e) F A) P ↔ wR (evs cl e F A) (fun x A1 => wR (ofO (wkRng x) A1) P) := by
  simp only [← uR_w, ← uS_w] at *
  exact uR_rng 
theorem wR_var {i : Nat} {d : D} {P : D → AH → Prop} (h : F[i]? = some (some d)) : wR (ev cl (.var i) F A) P ↔ P d A := by
  simp only [← uR_w, ← uS_w] at *
  exact uR_var h
theorem wR_cl {f : String} {es : Ex} {P : D → AH → Prop} : wR (ev cl (.call f es) F A) P ↔ wR (evs cl es F A) (fun ds A1 => wR (cl f ds A1) P) := by
  simp only [← uR_w, ← uS_w] at *
  exact uR_cl 
theorem wR_bi {f : String} {es : Ex} {P : D → AH → Prop} : wR (ev cl (.bi f es) F A) P ↔ wR (evs cl es F A) (fun ds A1 => wR (biF A1 f ds) P) := by
  simp only [← uR_w, ← uS_w] at *
  exact uR_bi 
theorem wR_op {o : BOp} {a b : Ex} {P : D → AH → Prop} : wR (ev cl (.op o a b) F A) P ↔ wR (ev cl a F A) (fun x A1 => wR (ev cl b F A1) fun y A2 => wR (opB A2 o x y) P) := by
  simp only [← uR_w, ← uS_w] at *
  exact uR_op 
theorem wR_nil {P : List D → AH → Prop} : wR (evs cl .nil F A) P ↔ P [] A := by
  simp only [← uR_w, ← uS_w] at *
  exact uR_nil 
theorem wR_cons {a r : Ex} {P : List D → AH → Prop} : wR (evs cl (.cons a r) F A) P ↔ wR (ev cl a F A) (fun x A1 => wR (evs cl r F A1) fun xs A2 => P (x :: xs) A2) := by
  simp only [← uR_w, ← uS_w] at *
  exact uR_cons 
theorem wR_cmp {o : COp} {a b : Ex} {P : D → AH → Prop} : wR (ev cl (.cmp o a b) F A) P ↔ wR (ev cl a F A) (fun x A1 => wR (ev cl b F A1) fun y A2 => wR (ofO ((opC A2 o x y).map .bl) A2) P) := by
  simp only [← uR_w, ← uS_w] at *
  exact uR_cmp 
theorem wR_ix {a b : Ex} {P : D → AH → Prop} : wR (ev cl (.ix a b) F A) P ↔ wR (ev cl a F A) (fun x A1 => wR (ev cl b F A1) fun y A2 => wR (ofO (opI A2 x y) A2) P) := by
  simp only [← uR_w, ← uS_w] at *
  exact uR_ix 
theorem wR_mth {m : String} {o es : Ex} {P : D → AH → Prop} : wR (ev cl (.mth m o es) F A) P ↔ wR (ev cl o F A) (fun x A1 => wR (ofO (mkM A1 m x) A1) fun k A2 => wR (evs cl es F A2) fun ds A3 => wR (mtF A3 k m x ds) P) := by
  simp only [← uR_w, ← uS_w] at *
  exact uR_mth 
end
theorem lcL_kp {asg : D → Fr → Option Fr} {g : Guard} {body : Fr → AH → Res (Option D)} {F : Fr} {P : List D → AH → Prop} {items : List D} {A0 : AH} (ys : List (Option D)) (hl : ys.length = items.length) (hz : items.length ≤ PySem.sizeLine) (hg : gOk A0 g = true)
    (hs : ∀ (j : Nat) (d : D) (o : Option D) (A : AH), items[j]? = some d → ys[j]? = some o → Kp A0 A → ∃ F', asg d F = some F' ∧ wR (body F' A) (fun o' A' => o' = o ∧ Kp A A')) (hd : ∀ A, Kp A0 A → P (ys.filterMap id) A) : wR (lcL asg g body F items [] A0) P := by
  simp only [← uR_w, ← uS_w] at *
  exact u_lcL_kp ys hl hz hg hs hd
end Ev
namespace Ev
section
variable {cl : String → List D → AH → Res D} {N : Nat} {F : Fr} {A : AH} {Pn Pb Pc : Fr → AH → Prop} {Pr : D → AH → Prop}
theorem wS_for {t : Tg} {it : Ex} {b : Sm} : wS (sx cl N (.for t it b) F A) Pn Pb Pc Pr ↔ wR (evw cl it F A) (fun w A1 => wS (unlS w.lock (forL (asgT t) w.g (fun F' A' => sx cl N b F' A') w.items F (lockA A1 w.lock))) Pn Pb Pc Pr) := by
  simp only [← uR_w, ← uS_w] at *
  exact uS_for 
theorem wS_sub {o i e : Ex} : wS (sx cl N (.sub o i e) F A) Pn Pb Pc Pr ↔ wR (ev cl e F A) (fun v A1 => wR (ev cl o F A1) fun x A2 => wR (ev cl i F A2) fun y A3 => ∃ A4, opSet A3 x y v = some A4 ∧ Pn F A4) := by
  simp only [← uR_w, ← uS_w] at *
  exact uS_sub 
theorem wS_asg {t : Tg} {e : Ex} : wS (sx cl N (.asg t e) F A) Pn Pb Pc Pr ↔ wR (ev cl e F A) (fun d A1 => ∃ F', asgT t d F = some F' ∧ Pn F' A1) := by
  simp only [← uR_w, ← uS_w] at *
  exact uS_asg 
end
theorem wS.mono {r : SR} {Pn Pb Pc Pn' Pb' Pc' : Fr → AH → Prop} {Pr Pr' : D → AH → Prop} (h : wS r Pn Pb Pc Pr) (k1 : ∀ F A, Pn F A → Pn' F A) (k2 : ∀ F A, Pb F A → Pb' F A) (k3 : ∀ F A, Pc F A → Pc' F A) (k4 : ∀ d A, Pr d A → Pr' d A) : wS r Pn' Pb' Pc' Pr' := by
  simp only [← uR_w, ← uS_w] at *
  exact uS.mono h k1 k2 k3 k4
def FL (A : AH) (r : Res D) (xs : List D) : Prop := wR r fun d A' => ∃ a, d = .ref a ∧ Kp A A' ∧ A[a]? = none ∧ A'[a]? = some (.lst xs)
theorem u_FL_w (A : AH) (r : Res D) (xs : List D) : u_FL A r xs = FL A r xs := by unfold u_FL FL; simp only [uR_w, uS_w]
theorem FL.walk {A : AH} {r : Res D} {xs : List D} {P : Wk → AH → Prop} (h : FL A r xs) (k : ∀ a A', Kp A A' → A[a]? = none → A'[a]? = some (.lst xs) → P ⟨xs, [(a, .lst xs)], none⟩ A') : wR r (fun x A1 => wR (ofO (wkOf A1 x) A1) P) := by
  simp only [← uR_w, ← uS_w, ← u_FL_w] at *
  exact u_FL.walk h k
theorem FL.enum {A : AH} {r : Res D} {xs : List D} {P : Wk → AH → Prop} (h : FL A r xs) (k : ∀ a A', Kp A A' → A[a]? = none → A'[a]? = some (.lst xs) → P ⟨enumD 0 xs, [(a, .lst xs)], none⟩ A') : wR r (fun x A1 => wR (ofO (wkEnum A1 x) A1) P) := by
  simp only [← uR_w, ← uS_w, ← u_FL_w] at *
  exact u_FL.enum h k
end Ev
namespace Ev
section
variable {cl : String → List D → AH → Res D} {F : Fr} {A : AH}
theorem wR_int {i : Int} {P : D → AH → Prop} : wR (ev cl (.int i) F A) P ↔ P (.int i) A := by
  simp only [← uR_w, ← uS_w, ← u_FL_w] at *
  exact uR_int 
theorem wR_str {i : String} {P : D → AH → Prop} : wR (ev cl (.str i) F A) P ↔ P (.str i) A := by
  simp only [← uR_w, ← uS_w, ← u_FL_w] at *
  exact uR_str 
theorem wR_lst {es : Ex} {P : D → AH → Prop} : wR (ev cl (.lst es) F A) P ↔ wR (evs cl es F A) (fun ds A1 => wR (if ds.length ≤ PySem.sizeLine then Res.ok (.ref A1.length) (A1 ++ [.lst ds]) else .no) P) := by
  simp only [← uR_w, ← uS_w, ← u_FL_w] at *
  exact uR_lst 
theorem wR_tup {es : Ex} {P : D → AH → Prop} : wR (ev cl (.tup es) F A) P ↔ wR (evs cl es F A) (fun ds A1 => wR (if ds.length ≤ PySem.sizeLine then Res.ok (.tup ds) A1 else .no) P) := by
  simp only [← uR_w, ← uS_w, ← u_FL_w] at *
  exact uR_tup 
end
end Ev
namespace Ev
section
variable {cl : String → List D → AH → Res D} {F : Fr} {A : AH}
theorem wR_tru {r : Res D} {P : Bool → AH → Prop} : wR (tru r) P ↔ wR r (fun d A => wR (ofO (truth A d) A) P) := by
  simp only [← uR_w, ← uS_w, ← u_FL_w] at *
  exact uR_tru 
theorem wR_not {a : Ex} {P : D → AH → Prop} : wR (ev cl (.not a) F A) P ↔ wR (ev cl a F A) (fun x A1 => wR (ofO ((truth A1 x).map fun b => .bl (!b)) A1) P) := by
  simp only [← uR_w, ← uS_w, ← u_FL_w] at *
  exact uR_not 
theorem wR_chn {o p : COp} {a b c : Ex} {P : D → AH → Prop} : wR (ev cl (.chn o p a b c) F A) P ↔ wR (ev cl a F A) (fun x A1 => wR (ev cl b F A1) fun y A2 => wR (ofO (opC A2 o x y) A2) fun r A3 => if r = true then wR (ev cl c F A3) (fun z A4 => wR (ofO ((opC A4 p y z).map .bl) A4) P) else P (.bl false) A3) := by
  simp only [← uR_w, ← uS_w, ← u_FL_w] at *
  exact uR_chn 
theorem wR_and {a b : Ex} {P : D → AH → Prop} : wR (ev cl (.and a b) F A) P ↔ wR (ev cl a F A) (fun x A1 => wR (ofO (truth A1 x) A1) fun r A2 => if r = true then wR (ev cl b F A2) P else P x A2) := by
  simp only [← uR_w, ← uS_w, ← u_FL_w] at *
  exact uR_and 
theorem wR_or {a b : Ex} {P : D → AH → Prop} : wR (ev cl (.or a b) F A) P ↔ wR (ev cl a F A) (fun x A1 => wR (ofO (truth A1 x) A1) fun r A2 => if r = true then P x A2 else wR (ev cl b F A2) P) := by
  simp only [← uR_w, ← uS_w, ← u_FL_w] at *
  exact uR_or 
theorem wR_ite {c a b : Ex} {P : D → AH → Prop} : wR (ev cl (.ite c a b) F A) P ↔ wR (ev cl c F A) (fun x A1 => wR (ofO (truth A1 x) A1) fun r A2 => if r = true then wR (ev cl a F A2) P else wR (ev cl b F A2) P) := by
  simp only [← uR_w, ← uS_w, ← u_FL_w] at *
  exact uR_ite 
theorem wR_sl {a lo hi : Ex} {P : D → AH → Prop} : wR (ev cl (.sl a lo hi) F A) P ↔ wR (ev cl a F A) (fun x A1 => wR (evo cl lo F A1) fun l A2 => wR (evo cl hi F A2) fun h A3 => wR (opS A3 x l h) P) := by
  simp only [← uR_w, ← uS_w, ← u_FL_w] at *
  exact uR_sl 
end
open PySem
end Ev
namespace Ev
open PySem
section
variable {P : Pg} {N n : Nat} {A : AH}
theorem same_items_of (hS : P "_law_same_items" = some fdItems) {x y : D} {xs : List D} (h1 : (∃ a, x = .ref a ∧ A[a]? = some (.lst xs)) ∨ x = .tup xs) (h2 : (∃ a, y = .ref a ∧ A[a]? = some (.lst xs)) ∨ y = .tup xs) (hz : xs.length ≤ PySem.sizeLine)
    (h : ∀ d ∈ xs, ∀ A', Kp A A' → wR (callF P N n "_law_same" [d, d] A') (fun r A2 => r = .bl true ∧ Kp A' A2)) : wR (callF P N (n + 1) "_law_same_items" [x, y] A) (fun r A' => r = .bl true ∧ Kp A A') := by
  simp only [← uR_w, ← uS_w, ← u_FL_w] at *
  exact u_same_items_of hS h1 h2 hz h
theorem same_pl (hI : P "_law_is_integer" = some fdIsInt) (hS : P "_law_same_items" = some fdItems) (hL : P "_law_same" = some fdSame) : ∀ (n : Nat) (d : D) (A : AH), pl d = true → 2 * dp d + 1 < n → wR (callF P N n "_law_same" [d, d] A) (fun r A' => r = .bl true ∧ Kp A A') := by
  simp only [← uR_w, ← uS_w, ← u_FL_w] at *
  exact u_same_pl hI hS hL
theorem same_lst (hI : P "_law_is_integer" = some fdIsInt) (hS : P "_law_same_items" = some fdItems) (hL : P "_law_same" = some fdSame) {a b : Nat} {xs : List D} (ha : A[a]? = some (.lst xs)) (hb : A[b]? = some (.lst xs)) (hz : xs.length ≤ PySem.sizeLine) (hp : pls xs = true) (hn : 2 * dps xs + 1 < n) :
    wR (callF P N (n + 2) "_law_same" [.ref a, .ref b] A) (fun r A' => r = .bl true ∧ Kp A A') := by
  simp only [← uR_w, ← uS_w, ← u_FL_w] at *
  exact u_same_lst hI hS hL ha hb hz hp hn
end
end Ev
namespace Ev
open PySem
section
variable {cl : String → List D → AH → Res D} {F : Fr} {A : AH} {tp c : Nat} {i l s z : Int}
theorem rd_key {key : String} {v : D} {P : D → AH → Prop} (hF : F[0]? = some (some (.ref tp))) (h : A[tp]? = some (.dct (tpD c i l s z))) (hk : dget (tpD c i l s z) (.str key) = some v) (p : P v A) : wR (ev cl (.ix (.var 0) (.str key)) F A) P := by
  simp only [← uR_w, ← uS_w, ← u_FL_w] at *
  exact u_rd_key hF h hk p
end
section
variable {P : Pg} {N n : Nat} {A : AH}
theorem take_spec (hT : P "_law_take" = some fdTake) {tp : Nat} {many : Int} (t : TapeOk A tp) (h0 : 0 < many) (h1 : many < 1073741824) :
    wR (callF P N (n + 1) "_law_take" [.ref tp, .int many] A) (fun r A' => ∃ m : Int, r = .int m ∧ 0 ≤ m ∧ m < many ∧ Dr tp A A') := by
  simp only [← uR_w, ← uS_w, ← u_FL_w] at *
  exact u_take_spec hT t h0 h1
theorem tape_spec (hT : P "_law_tape" = some fdTape) {ns : List Int} (hn : ns.length ≤ 63) : wR (callF P N (n + 1) "_law_tape" [.frl (ns.map .int)] []) (fun r A' => ∃ tp, r = .ref tp ∧ TapeOk A' tp) := by
  simp only [← uR_w, ← uS_w, ← u_FL_w] at *
  exact u_tape_spec hT hn
end
end Ev
namespace Ev
open PySem
@[irreducible] def wE {α : Type} (r : Res α) (P : α → AH → Prop) (X : Xc → AH → Prop) : Prop := uE r P X
theorem uE_w {α : Type} (r : Res α) (P : α → AH → Prop) (X : Xc → AH → Prop) : uE r P X = wE r P X := by unfold wE; rfl
@[irreducible] def wT (r : SR) (P : PX) : Prop := uT r P
theorem uT_w (r : SR) (P : PX) : uT r P = wT r P := by unfold wT; rfl
theorem wE.mono {α : Type} {r : Res α} {P Q : α → AH → Prop} {X Y : Xc → AH → Prop} (h : wE r P X) (k : ∀ a A, P a A → Q a A) (k2 : ∀ x A, X x A → Y x A) : wE r Q Y := by
  simp only [← uR_w, ← uS_w, ← u_FL_w, ← uE_w, ← uT_w] at *
  exact uE.mono h k k2
theorem wE_of {α : Type} {r : Res α} {P : α → AH → Prop} {X : Xc → AH → Prop} (h : wR r P) : wE r P X := by
  simp only [← uR_w, ← uS_w, ← u_FL_w, ← uE_w, ← uT_w] at *
  exact uE_of h
theorem wR_of {α : Type} {r : Res α} {P : α → AH → Prop} (h : wE r P fun _ _ => False) : wR r P := by
  simp only [← uR_w, ← uS_w, ← u_FL_w, ← uE_w, ← uT_w] at *
  exact uR_of h
theorem wE_bnd {α β : Type} {r : Res α} {f : α → AH → Res β} {P : β → AH → Prop} {X : Xc → AH → Prop} : wE (bnd r f) P X ↔ wE r (fun a A => wE (f a A) P X) X := by
  simp only [← uR_w, ← uS_w, ← u_FL_w, ← uE_w, ← uT_w] at *
  exact uE_bnd 
theorem wE_bndR {α β : Type} {r : Res α} {f : α → AH → Res β} {P : β → AH → Prop} {X : Xc → AH → Prop} (h : wR r (fun a A => wE (f a A) P X)) : wE (bnd r f) P X := by
  simp only [← uR_w, ← uS_w, ← u_FL_w, ← uE_w, ← uT_w] at *
  exact uE_bndR h
theorem wT.mono {r : SR} {P Q : PX} (h : wT r P) (k1 : ∀ F A, P.nx F A → Q.nx F A) (k2 : ∀ F A, P.bk F A → Q.bk F A) (k3 : ∀ F A, P.ct F A → Q.ct F A) (k4 : ∀ d A, P.rt d A → Q.rt d A) (k5 : ∀ x F A, P.ex x F A → Q.ex x F A) : wT r Q := by
  simp only [← uR_w, ← uS_w, ← u_FL_w, ← uE_w, ← uT_w] at *
  exact uT.mono h k1 k2 k3 k4 k5
theorem wT_of {r : SR} {P : PX} (h : wS r P.nx P.bk P.ct P.rt) : wT r P := by
  simp only [← uR_w, ← uS_w, ← u_FL_w, ← uE_w, ← uT_w] at *
  exact uT_of h
theorem wS_ofT {r : SR} {Pn Pb Pc : Fr → AH → Prop} {Pr : D → AH → Prop} (h : wT r { nx := Pn, bk := Pb, ct := Pc, rt := Pr }) : wS r Pn Pb Pc Pr := by
  simp only [← uR_w, ← uS_w, ← u_FL_w, ← uE_w, ← uT_w] at *
  exact uS_ofT h
section
variable {cl : String → List D → AH → Res D} {N : Nat} {F : Fr} {A : AH} {P : PX}
theorem wT_bns {α : Type} {r : Res α} {f : α → AH → SR} : wT (bns F r f) P ↔ wE r (fun a A => wT (f a A) P) (fun x A => P.ex x F A) := by
  simp only [← uR_w, ← uS_w, ← u_FL_w, ← uE_w, ← uT_w] at *
  exact uT_bns 
theorem wT_seq {a b : Sm} : wT (sx cl N (.seq a b) F A) P ↔ wT (sx cl N a F A) { P with nx := fun F A => wT (sx cl N b F A) P } := by
  simp only [← uR_w, ← uS_w, ← u_FL_w, ← uE_w, ← uT_w] at *
  exact uT_seq 
theorem wT_skip : wT (sx cl N .skip F A) P ↔ P.nx F A := by
  simp only [← uR_w, ← uS_w, ← u_FL_w, ← uE_w, ← uT_w] at *
  exact uT_skip 
theorem wT_ex {e : Ex} : wT (sx cl N (.ex e) F A) P ↔ wE (ev cl e F A) (fun _ A => P.nx F A) (fun x A => P.ex x F A) := by
  simp only [← uR_w, ← uS_w, ← u_FL_w, ← uE_w, ← uT_w] at *
  exact uT_ex 
theorem wT_set {i : Nat} {e : Ex} : wT (sx cl N (.set i e) F A) P ↔ wE (ev cl e F A) (fun d A => P.nx (fset F i d) A) (fun x A => P.ex x F A) := by
  simp only [← uR_w, ← uS_w, ← u_FL_w, ← uE_w, ← uT_w] at *
  exact uT_set 
theorem wT_ret {e : Ex} : wT (sx cl N (.ret e) F A) P ↔ wE (ev cl e F A) (fun d A => P.rt d A) (fun x A => P.ex x F A) := by
  simp only [← uR_w, ← uS_w, ← u_FL_w, ← uE_w, ← uT_w] at *
  exact uT_ret 
theorem wT_ite {c : Ex} {a b : Sm} : wT (sx cl N (.ite c a b) F A) P ↔ wE (tru (ev cl c F A)) (fun r A => if r = true then wT (sx cl N a F A) P else wT (sx cl N b F A) P) (fun x A => P.ex x F A) := by
  simp only [← uR_w, ← uS_w, ← u_FL_w, ← uE_w, ← uT_w] at *
  exact uT_ite 
theorem wT_if {c : Ex} {a b : Sm} (h : wR (ev cl c F A) (fun d A => wR (ofO (truth A d) A) fun r A => if r = true then wT (sx cl N a F A) P else wT (sx cl N b F A) P)) : wT (sx cl N (.ite c a b) F A) P := by
  simp only [← uR_w, ← uS_w, ← u_FL_w, ← uE_w, ← uT_w] at *
  exact uT_if h
theorem wT_rs0 {c : String} : wT (sx cl N (.rs0 c) F A) P ↔ P.ex ⟨c, []⟩ F A := by
  simp only [← uR_w, ← uS_w, ← u_FL_w, ← uE_w, ← uT_w] at *
  exact uT_rs0 
theorem wT_rs2 {c : String} {es : Ex} (h : wR (evs cl es F A) fun ds A => ∃ a b, ds = [a, b] ∧ P.ex ⟨c, [("code", a), ("path", b)]⟩ F A) : wT (sx cl N (.rs2 c es) F A) P := by
  simp only [← uR_w, ← uS_w, ← u_FL_w, ← uE_w, ← uT_w] at *
  exact uT_rs2 h
theorem wT_tr {b : Sm} {c : String} {cs : List String} {i : Option Nat} {h : Hd} : wT (sx cl N (.tr b c cs i h) F A) P ↔ wT (sx cl N b F A) { P with ex := fun x F A => wT (trR c cs i h (.exc x F A)) P } := by
  simp only [← uR_w, ← uS_w, ← u_FL_w, ← uE_w, ← uT_w] at *
  exact uT_tr 
theorem wT_fst {o e : Ex} {c f : String} (h : wR (ev cl e F A) fun v A1 => wR (ev cl o F A1) fun x A2 => ∃ A3, fstD A2 c f x v = some A3 ∧ P.nx F A3) : wT (sx cl N (.fst o c f e) F A) P := by
  simp only [← uR_w, ← uS_w, ← u_FL_w, ← uE_w, ← uT_w] at *
  exact uT_fst h
theorem wT_fau {o e : Ex} {c f : String} {op : BOp} (h : wR (ev cl o F A) fun x A1 => ∃ u, fldD A1 c f x = some u ∧ wR (ev cl e F A1) fun v A2 => ∃ w, augI op u v = some w ∧ ∃ A3, fstD A2 c f x w = some A3 ∧ P.nx F A3) : wT (sx cl N (.fau o c f op e) F A) P := by
  simp only [← uR_w, ← uS_w, ← u_FL_w, ← uE_w, ← uT_w] at *
  exact uT_fau h
theorem wT_sub {o i e : Ex} (h : wR (ev cl e F A) fun v A1 => wR (ev cl o F A1) fun x A2 => wR (ev cl i F A2) fun y A3 => ∃ A4, opSet A3 x y v = some A4 ∧ P.nx F A4) : wT (sx cl N (.sub o i e) F A) P := by
  simp only [← uR_w, ← uS_w, ← u_FL_w, ← uE_w, ← uT_w] at *
  exact uT_sub h
theorem forT_ind {asg : D → Fr → Option Fr} {g : Guard} {body : Fr → AH → SR} (I : Nat → Fr → AH → Prop) :
    ∀ (items : List D) (i : Nat) (F : Fr) (A : AH), I i F A →
      (∀ j d F A, items[j]? = some d → I (i + j) F A → gOk A g = true ∧ ∃ F', asg d F = some F' ∧ wT (body F' A) { P with nx := I (i + j + 1), bk := P.nx, ct := I (i + j + 1) }) →
      (∀ F A, I (i + items.length) F A → gOk A g = true ∧ P.nx F A) → wT (forL asg g body items F A) P := by
  simp only [← uR_w, ← uS_w, ← u_FL_w, ← uE_w, ← uT_w] at *
  exact u_forT_ind I
theorem wT_for {t : Tg} {it : Ex} {b : Sm} (h : wR (evw cl it F A) fun w A1 => w.lock = none ∧ wT (forL (asgT t) w.g (fun F' A' => sx cl N b F' A') w.items F A1) P) : wT (sx cl N (.for t it b) F A) P := by
  simp only [← uR_w, ← uS_w, ← u_FL_w, ← uE_w, ← uT_w] at *
  exact uT_for h
variable {Q : D → AH → Prop} {X : Xc → AH → Prop}
theorem wE_cl {f : String} {es : Ex} (h : wR (evs cl es F A) fun ds A1 => wE (cl f ds A1) Q X) : wE (ev cl (.call f es) F A) Q X := by
  simp only [← uR_w, ← uS_w, ← u_FL_w, ← uE_w, ← uT_w] at *
  exact uE_cl h
theorem wE_mc {c m f : String} {o es : Ex} (h : wR (ev cl o F A) fun x A1 => isMe A1 c m x = true ∧ wR (evs cl es F A1) fun ds A2 => wE (cl f (x :: ds) A2) Q X) : wE (ev cl (.mc c m f o es) F A) Q X := by
  simp only [← uR_w, ← uS_w, ← u_FL_w, ← uE_w, ← uT_w] at *
  exact uE_mc h
theorem wR_fld {a : Ex} {c f : String} {Q : D → AH → Prop} : wR (ev cl (.fld a c f) F A) Q ↔ wR (ev cl a F A) (fun x A1 => wR (ofO (fldD A1 c f x) A1) Q) := by
  simp only [← uR_w, ← uS_w, ← u_FL_w, ← uE_w, ← uT_w] at *
  exact uR_fld 
theorem wR_mk {c f : String} {es : Ex} {Q : D → AH → Prop} (h : wR (evs cl es F A) fun ds A1 => wR (cl f (.ref A1.length :: ds) (A1 ++ [.ins c []])) fun r A2 => r = .non ∧ Q (.ref A1.length) A2) : wR (ev cl (.mk c f es) F A) Q := by
  simp only [← uR_w, ← uS_w, ← u_FL_w, ← uE_w, ← uT_w] at *
  exact uR_mk h
theorem wR_cst {x : String} {d : D} {Q : D → AH → Prop} : wR (ev cl (.cst x d) F A) Q ↔ Q d A := by
  simp only [← uR_w, ← uS_w, ← u_FL_w, ← uE_w, ← uT_w] at *
  exact uR_cst 
end
theorem wE_call {P : Pg} {N n : Nat} {f : String} {fd : Fd} {ds : List D} {A : AH} {Q : D → AH → Prop} {X : Xc → AH → Prop} (h : P f = some fd) (hl : ds.length = fd.np) :
    wE (callF P N (n + 1) f ds A) Q X ↔ wT (sx (callF P N n) N fd.body (startF fd ds) A) { nx := fun _ A => Q .non A, rt := Q, ex := fun x _ A => X x A } := by
  simp only [← uR_w, ← uS_w, ← u_FL_w, ← uE_w, ← uT_w] at *
  exact uE_call h hl
end Ev
namespace Ev
theorem wS_of_eq {r : SR} {Pn Pb Pc : Fr → AH → Prop} {Pr : D → AH → Prop} {d : D} {A : AH} (h : r = .rt d A) (p : Pr d A) : wS r Pn Pb Pc Pr := by
  simp only [← uR_w, ← uS_w, ← u_FL_w, ← uE_w, ← uT_w] at *
  exact uS_of_eq h p
theorem wT_of_eq {r : SR} {P : PX} {d : D} {A : AH} (h : r = .rt d A) (p : P.rt d A) : wT r P := by
  simp only [← uR_w, ← uS_w, ← u_FL_w, ← uE_w, ← uT_w] at *
  exact uT_of_eq h p
end Ev
namespace Ev
open PySem
section
variable {cl : Cl0} {A : AH} {P : D → AH → Prop} {a b c d e f g h i j : Option D} {z : D} {F : Fr}
theorem wR_v0 : wR (ev cl (.var 0) (some z :: F) A) P ↔ P z A := by
  simp only [← uR_w, ← uS_w, ← u_FL_w, ← uE_w, ← uT_w] at *
  exact uR_v0 
theorem wR_v1 : wR (ev cl (.var 1) (a :: some z :: F) A) P ↔ P z A := by
  simp only [← uR_w, ← uS_w, ← u_FL_w, ← uE_w, ← uT_w] at *
  exact uR_v1 
theorem wR_v2 : wR (ev cl (.var 2) (a :: b :: some z :: F) A) P ↔ P z A := by
  simp only [← uR_w, ← uS_w, ← u_FL_w, ← uE_w, ← uT_w] at *
  exact uR_v2 
theorem wR_v3 : wR (ev cl (.var 3) (a :: b :: c :: some z :: F) A) P ↔ P z A := by
  simp only [← uR_w, ← uS_w, ← u_FL_w, ← uE_w, ← uT_w] at *
  exact uR_v3 
theorem wR_v4 : wR (ev cl (.var 4) (a :: b :: c :: d :: some z :: F) A) P ↔ P z A := by
  simp only [← uR_w, ← uS_w, ← u_FL_w, ← uE_w, ← uT_w] at *
  exact uR_v4 
theorem wR_v5 : wR (ev cl (.var 5) (a :: b :: c :: d :: e :: some z :: F) A) P ↔ P z A := by
  simp only [← uR_w, ← uS_w, ← u_FL_w, ← uE_w, ← uT_w] at *
  exact uR_v5 
theorem wR_v6 : wR (ev cl (.var 6) (a :: b :: c :: d :: e :: f :: some z :: F) A) P ↔ P z A := by
  simp only [← uR_w, ← uS_w, ← u_FL_w, ← uE_w, ← uT_w] at *
  exact uR_v6 
theorem wR_v7 : wR (ev cl (.var 7) (a :: b :: c :: d :: e :: f :: g :: some z :: F) A) P ↔ P z A := by
  simp only [← uR_w, ← uS_w, ← u_FL_w, ← uE_w, ← uT_w] at *
  exact uR_v7 
theorem wR_v8 : wR (ev cl (.var 8) (a :: b :: c :: d :: e :: f :: g :: h :: some z :: F) A) P ↔ P z A := by
  simp only [← uR_w, ← uS_w, ← u_FL_w, ← uE_w, ← uT_w] at *
  exact uR_v8 
theorem wR_non : wR (ev cl .non F A) P ↔ P .non A := by
  simp only [← uR_w, ← uS_w, ← u_FL_w, ← uE_w, ← uT_w] at *
  exact uR_non 
theorem wR_bl {b : Bool} : wR (ev cl (.bl b) F A) P ↔ P (.bl b) A := by
  simp only [← uR_w, ← uS_w, ← u_FL_w, ← uE_w, ← uT_w] at *
  exact uR_bl 
theorem wR_tix {i : Nat} {k : Int} {xs : List D} {x : D} (h : F[i]? = some (some (.tup xs))) (h2 : L2.atI xs k = some x) : wR (ev cl (.ix (.var i) (.int k)) F A) P ↔ P x A := by
  simp only [← uR_w, ← uS_w, ← u_FL_w, ← uE_w, ← uT_w] at *
  exact uR_tix h h2
theorem wR_pcat {i : Nat} {k : Int} {xs : List D} (h : F[i]? = some (some (.tup xs))) (hl : xs.length ≤ 1000) : wR (ev cl (.op .add (.var i) (.tup (.cons (.int k) .nil))) F A) P ↔ P (.tup (xs ++ [.int k])) A := by
  simp only [← uR_w, ← uS_w, ← u_FL_w, ← uE_w, ← uT_w] at *
  exact uR_pcat h hl
end
theorem wR_ifok {α : Type} {c : Prop} [Decidable c] {a : α} {A : AH} {P : α → AH → Prop} (h : c) : wR (if c then Res.ok a A else .no) P ↔ P a A := by
  simp only [← uR_w, ← uS_w, ← u_FL_w, ← uE_w, ← uT_w] at *
  exact uR_ifok h
theorem ite_s {cl : Cl0} {N : Nat} {F : Fr} {A : AH} {Pn Pb Pc : Fr → AH → Prop} {Pr : D → AH → Prop} (k : Nat) {b : Sm} (h1 : sx cl N b F A = sx cl N (drp k b) F A) (h2 : isIte (drp k b) = true) (h3 : tru (ev cl (iteC (drp k b)) F A) = .ok true A)
    (h : wS (sx cl N (iteA (drp k b)) F A) (fun _ _ => False) Pb Pc Pr) : wS (sx cl N b F A) Pn Pb Pc Pr := by
  simp only [← uR_w, ← uS_w, ← u_FL_w, ← uE_w, ← uT_w] at *
  exact u_ite_s k h1 h2 h3 h
section
variable {cl : Cl0} {N : Nat} {F : Fr} {A : AH} {P : PX}
theorem wT_setR {i : Nat} {e : Ex} (h : wR (ev cl e F A) fun d A => P.nx (fset F i d) A) : wT (sx cl N (.set i e) F A) P := by
  simp only [← uR_w, ← uS_w, ← u_FL_w, ← uE_w, ← uT_w] at *
  exact uT_setR h
theorem wT_retR {e : Ex} (h : wR (ev cl e F A) fun d A => P.rt d A) : wT (sx cl N (.ret e) F A) P := by
  simp only [← uR_w, ← uS_w, ← u_FL_w, ← uE_w, ← uT_w] at *
  exact uT_retR h
theorem wT_word {i : Nat} {w z : String} {a b : Sm} (hF : F[i]? = some (some (.str w))) : wT (sx cl N (.ite (.cmp .eq (.var i) (.str z)) a b) F A) P ↔ if w = z then wT (sx cl N a F A) P else wT (sx cl N b F A) P := by
  simp only [← uR_w, ← uS_w, ← u_FL_w, ← uE_w, ← uT_w] at *
  exact uT_word hF
theorem forT_nil {asg : D → Fr → Option Fr} {body : Fr → AH → SR} (h : P.nx F A) : wT (forL asg [] body [] F A) P := by
  simp only [← uR_w, ← uS_w, ← u_FL_w, ← uE_w, ← uT_w] at *
  exact u_forT_nil h
theorem forT_cons {asg : D → Fr → Option Fr} {body : Fr → AH → SR} {d : D} {r : List D} {F' : Fr} (h1 : asg d F = some F') (h : wT (body F' A) { P with nx := fun F A => wT (forL asg [] body r F A) P, bk := P.nx, ct := fun F A => wT (forL asg [] body r F A) P }) : wT (forL asg [] body (d :: r) F A) P := by
  simp only [← uR_w, ← uS_w, ← u_FL_w, ← uE_w, ← uT_w] at *
  exact u_forT_cons h1 h
end
section
variable {cl : Cl0} {N : Nat} {P : PX}
theorem whlT {c : Fr → AH → Res Bool} {body : Fr → AH → SR} (I : Nat → Fr → AH → Prop) (hs : ∀ k F A, I k F A → wR (c F A) (fun r A1 => if r = true then wT (body F A1) { P with nx := fun F2 A2 => ∃ k', k' < k ∧ I k' F2 A2, ct := fun F2 A2 => ∃ k', k' < k ∧ I k' F2 A2, bk := P.nx } else P.nx F A1)) :
    ∀ (N k : Nat) (F : Fr) (A : AH), k < N → I k F A → wT (whlL c body N F A) P := by
  simp only [← uR_w, ← uS_w, ← u_FL_w, ← uE_w, ← uT_w] at *
  exact u_whlT I hs
theorem wT_whl {c : Ex} {b : Sm} {F : Fr} {A : AH} (h : wT (whlL (fun F' A' => tru (ev cl c F' A')) (fun F' A' => sx cl N b F' A') N F A) P) : wT (sx cl N (.whl c b) F A) P := by
  simp only [← uR_w, ← uS_w, ← u_FL_w, ← uE_w, ← uT_w] at *
  exact uT_whl h
end
theorem dcL_nil {asg : D → Fr → Option Fr} {g : Guard} {body : Fr → AH → Res (Option (D × D))} {F : Fr} {A : AH} {acc : List (D × D)} {P : List (D × D) → AH → Prop} (hg : gOk A g = true) (h : P acc A) : wR (dcL asg g body F [] acc A) P := by
  simp only [← uR_w, ← uS_w, ← u_FL_w, ← uE_w, ← uT_w] at *
  exact u_dcL_nil hg h
theorem dcL_cons {asg : D → Fr → Option Fr} {g : Guard} {body : Fr → AH → Res (Option (D × D))} {F F' : Fr} {A : AH} {d : D} {r : List D} {acc : List (D × D)} {P : List (D × D) → AH → Prop} (hg : gOk A g = true) (ha : asg d F = some F')
    (h : wR (body F' A) fun o A' => match o with
      | some (k, v) => acc.length < PySem.sizeLine ∧ keyOk k = true ∧ wR (dcL asg g body F r (dput acc k v) A') P
      | none => wR (dcL asg g body F r acc A') P) : wR (dcL asg g body F (d :: r) acc A) P := by
  simp only [← uR_w, ← uS_w, ← u_FL_w, ← uE_w, ← uT_w] at *
  exact u_dcL_cons hg ha h
theorem wS_unl {n : Nat} {r : SR} {Pn Pb Pc : Fr → AH → Prop} {Pr : D → AH → Prop} (h : wS r (fun F A => Pn F (unlockA A (some n))) (fun F A => Pb F (unlockA A (some n))) (fun F A => Pc F (unlockA A (some n))) (fun d A => Pr d (unlockA A (some n)))) : wS (unlS (some n) r) Pn Pb Pc Pr := by
  simp only [← uR_w, ← uS_w, ← u_FL_w, ← uE_w, ← uT_w] at *
  exact uS_unl h
theorem wR_gl {cl : Cl0} {x : String} {F : Fr} {A : AH} {P : D → AH → Prop} : wR (ev cl (.gl x) F A) P ↔ P (.gl x) A := by
  simp only [← uR_w, ← uS_w, ← u_FL_w, ← uE_w, ← uT_w] at *
  exact uR_gl 
theorem lcL_nil {asg : D → Fr → Option Fr} {g : Guard} {body : Fr → AH → Res (Option D)} {F : Fr} {A : AH} {acc : List D} {P : List D → AH → Prop} (hg : gOk A g = true) (h : P acc A) : wR (lcL asg g body F [] acc A) P := by
  simp only [← uR_w, ← uS_w, ← u_FL_w, ← uE_w, ← uT_w] at *
  exact u_lcL_nil hg h
theorem lcL_cons {asg : D → Fr → Option Fr} {g : Guard} {body : Fr → AH → Res (Option D)} {F F' : Fr} {A : AH} {d : D} {r : List D} {acc : List D} {P : List D → AH → Prop} (hg : gOk A g = true) (ha : asg d F = some F')
    (h : wR (body F' A) fun o A' => match o with
      | some y => acc.length < PySem.sizeLine ∧ wR (lcL asg g body F r (acc ++ [y]) A') P
      | none => wR (lcL asg g body F r acc A') P) : wR (lcL asg g body F (d :: r) acc A) P := by
  simp only [← uR_w, ← uS_w, ← u_FL_w, ← uE_w, ← uT_w] at *
  exact u_lcL_cons hg ha h
theorem wE_ok {α : Type} {a : α} {A : AH} {P : α → AH → Prop} {X : Xc → AH → Prop} : wE (.ok a A) P X ↔ P a A := by
  simp only [← uR_w, ← uS_w, ← u_FL_w, ← uE_w, ← uT_w] at *
  exact uE_ok 
theorem wE_exc {α : Type} {x : Xc} {A : AH} {P : α → AH → Prop} {X : Xc → AH → Prop} : wE (.exc x A) P X ↔ X x A := by
  simp only [← uR_w, ← uS_w, ← u_FL_w, ← uE_w, ← uT_w] at *
  exact uE_exc 
theorem wE_some {α : Type} {a : α} {A : AH} {P : α → AH → Prop} {X : Xc → AH → Prop} : wE (ofO (some a) A) P X ↔ P a A := by
  simp only [← uR_w, ← uS_w, ← u_FL_w, ← uE_w, ← uT_w] at *
  exact uE_some 
theorem wT_nx1 {F : Fr} {A : AH} {P : PX} : wT (.nx F A) P ↔ P.nx F A := by
  simp only [← uR_w, ← uS_w, ← u_FL_w, ← uE_w, ← uT_w] at *
  exact uT_nx1 
theorem wT_bk1 {F : Fr} {A : AH} {P : PX} : wT (.bk F A) P ↔ P.bk F A := by
  simp only [← uR_w, ← uS_w, ← u_FL_w, ← uE_w, ← uT_w] at *
  exact uT_bk1 
theorem wT_ct1 {F : Fr} {A : AH} {P : PX} : wT (.ct F A) P ↔ P.ct F A := by
  simp only [← uR_w, ← uS_w, ← u_FL_w, ← uE_w, ← uT_w] at *
  exact uT_ct1 
theorem wT_rt1 {d : D} {A : AH} {P : PX} : wT (.rt d A) P ↔ P.rt d A := by
  simp only [← uR_w, ← uS_w, ← u_FL_w, ← uE_w, ← uT_w] at *
  exact uT_rt1 
theorem wT_ex1 {x : Xc} {F : Fr} {A : AH} {P : PX} : wT (.exc x F A) P ↔ P.ex x F A := by
  simp only [← uR_w, ← uS_w, ← u_FL_w, ← uE_w, ← uT_w] at *
  exact uT_ex1 
theorem wR_dct {cl : Cl0} {F : Fr} {A : AH} {es : Ex} {P : D → AH → Prop} : wR (ev cl (.dct es) F A) P ↔ wR (evs cl es F A) (fun ds A' => wR (match pairUp ds with
    | some kvs => if kvs.length ≤ 15 then Res.ok (.ref A'.length) (A' ++ [.dct (dmerge [] kvs)]) else .no
    | none => .no) P) := by
  simp only [← uR_w, ← uS_w, ← u_FL_w, ← uE_w, ← uT_w] at *
  exact uR_dct 
theorem forS_nil {asg : D → Fr → Option Fr} {g : Guard} {body : Fr → AH → SR} {F : Fr} {A : AH} {Pn Pb Pc : Fr → AH → Prop} {Pr : D → AH → Prop} (hg : gOk A g = true) (h : Pn F A) : wS (forL asg g body [] F A) Pn Pb Pc Pr := by
  simp only [← uR_w, ← uS_w, ← u_FL_w, ← uE_w, ← uT_w] at *
  exact u_forS_nil hg h
theorem forS_cons {asg : D → Fr → Option Fr} {g : Guard} {body : Fr → AH → SR} {F F' : Fr} {A : AH} {d : D} {r : List D} {Pn Pb Pc : Fr → AH → Prop} {Pr : D → AH → Prop} (hg : gOk A g = true) (ha : asg d F = some F')
    (h : wS (body F' A) (fun F2 A2 => wS (forL asg g body r F2 A2) Pn Pb Pc Pr) Pn (fun F2 A2 => wS (forL asg g body r F2 A2) Pn Pb Pc Pr) Pr) : wS (forL asg g body (d :: r) F A) Pn Pb Pc Pr := by
  simp only [← uR_w, ← uS_w, ← u_FL_w, ← uE_w, ← uT_w] at *
  exact u_forS_cons hg ha h
theorem forU_nil {asg : D → Fr → Option Fr} {g : Guard} {body : Fr → AH → SR} {F : Fr} {A : AH} {P : PX} (hg : gOk A g = true) (h : P.nx F A) : wT (forL asg g body [] F A) P := by
  simp only [← uR_w, ← uS_w, ← u_FL_w, ← uE_w, ← uT_w] at *
  exact u_forU_nil hg h
theorem forU_cons {asg : D → Fr → Option Fr} {g : Guard} {body : Fr → AH → SR} {F F' : Fr} {A : AH} {d : D} {r : List D} {P : PX} (hg : gOk A g = true) (ha : asg d F = some F')
    (h : wT (body F' A) { P with nx := fun F2 A2 => wT (forL asg g body r F2 A2) P, bk := P.nx, ct := fun F2 A2 => wT (forL asg g body r F2 A2) P }) : wT (forL asg g body (d :: r) F A) P := by
  simp only [← uR_w, ← uS_w, ← u_FL_w, ← uE_w, ← uT_w] at *
  exact u_forU_cons hg ha h
theorem lc_pure {cl : Cl0} {F : Fr} {A : AH} {t : Tg} {e c b : Ex} {own : List Nat} {d : D} {items : List D} {g : Guard} {P : D → AH → Prop} (f : D → Option D) (he : ev cl e F A = .ok d A) (hw : wkOf A d = some ⟨items, g, none⟩) (hg : gOk A g = true) (hl : items.length ≤ 1000)
    (h : ∀ x ∈ items, ∃ F', asgT t x (wipeF F own) = some F' ∧ lcB cl c b F' A = .ok (f x) A) (p : P (.ref A.length) (A ++ [.lst (items.filterMap f)])) : wR (ev cl (.lc t (.wk e) c b own) F A) P := by
  simp only [← uR_w, ← uS_w, ← u_FL_w, ← uE_w, ← uT_w] at *
  exact u_lc_pure f he hw hg hl h p
theorem ev_eq {cl : Cl0} {F : Fr} {A : AH} {e : Ex} {y : D} (h : wR (ev cl e F A) fun d B => d = y ∧ B = A) : ev cl e F A = .ok y A := by
  simp only [← uR_w, ← uS_w, ← u_FL_w, ← uE_w, ← uT_w] at *
  exact u_ev_eq h
theorem tru_eq {cl : Cl0} {F : Fr} {A : AH} {e : Ex} {b : Bool} (h : wR (tru (ev cl e F A)) fun d B => d = b ∧ B = A) : tru (ev cl e F A) = .ok b A := by
  simp only [← uR_w, ← uS_w, ← u_FL_w, ← uE_w, ← uT_w] at *
  exact u_tru_eq h
theorem wR_call0 {cl : Cl0} {F : Fr} {A : AH} {f : String} {es : Ex} {P : D → AH → Prop} : wR (ev cl (.call f es) F A) P ↔ wR (evs cl es F A) (fun ds A1 => wR (cl f ds A1) P) := by
  simp only [← uR_w, ← uS_w, ← u_FL_w, ← uE_w, ← uT_w] at *
  exact uR_call0 
end Ev

/-! ## K26Ir -/
namespace K26
open Ev
/-- constructor(world, case) -/
def fn_4 : Fd := ⟨2, 5,
 (.seq (.for (.nm 2) (.wk (.ix (.var 0) (.int 0))) (.seq (.for (.tu (.cons (.nm 3) (.cons (.nm 4) .nil))) (.wk (.ix (.ix (.var 0) (.int 0)) (.var 2))) (.seq (.ite (.cmp .eq (.var 3) (.var 1)) (.seq (.ret (.tup (.cons (.var 2) (.cons (.var 4) .nil))))
 .skip) .skip)
 .skip))
 .skip))
 (.seq (.ret .non)
 .skip))⟩
def ns_4 : List PySem.Str := ["world", "case", "name", "own", "kinds"]
/-- constructors(world, name) -/
def fn_5 : Fd := ⟨2, 4,
 (.seq (.ret (.lc (.tu (.cons (.nm 2) (.cons (.nm 3) .nil))) (.wk (.ix (.ix (.var 0) (.int 0)) (.var 1))) .nil (.tup (.cons (.var 2) (.cons (.bi "len" (.cons (.var 3) .nil)) .nil))) [2, 3]))
 .skip)⟩
def ns_5 : List PySem.Str := ["world", "name", "case", "kinds"]
/-- check_pattern(world, pattern, kind, path) -/
def fn_8 : Fd := ⟨4, 9,
 (.seq (.ite (.cmp .eq (.ix (.var 1) (.int 0)) (.str "any")) (.seq (.ret (.lst .nil))
 .skip) .skip)
 (.seq (.ite (.cmp .eq (.ix (.var 1) (.int 0)) (.str "name")) (.seq (.ret (.lst (.cons (.ix (.var 1) (.int 1)) .nil)))
 .skip) .skip)
 (.seq (.set 4 (.call "constructor" (.cons (.var 0) (.cons (.ix (.var 1) (.int 1)) .nil))))
 (.seq (.ite (.or (.cmp .is (.var 4) .non) (.or (.cmp .ne (.tup (.cons (.str "data") (.cons (.ix (.var 4) (.int 0)) .nil))) (.var 2)) (.cmp .ne (.bi "len" (.cons (.ix (.var 4) (.int 1)) .nil)) (.bi "len" (.cons (.ix (.var 1) (.int 2)) .nil))))) (.seq (.rs2 "TypeProblem" (.cons (.str "pattern") (.cons (.var 3) .nil)))
 .skip) .skip)
 (.seq (.set 5 (.lst .nil))
 (.seq (.for (.tu (.cons (.nm 6) (.cons (.nm 7) .nil))) (.enm (.ix (.var 1) (.int 2))) (.seq (.for (.nm 8) (.wk (.call "check_pattern" (.cons (.var 0) (.cons (.var 7) (.cons (.ix (.ix (.var 4) (.int 1)) (.var 6)) (.cons (.op .add (.var 3) (.tup (.cons (.var 6) .nil))) .nil)))))) (.seq (.ite (.cmp .mem (.var 8) (.var 5)) (.seq (.rs2 "TypeProblem" (.cons (.str "twice") (.cons (.var 3) .nil)))
 .skip) .skip)
 (.seq (.ex (.mth "append" (.var 5) (.cons (.var 8) .nil)))
 .skip)))
 .skip))
 (.seq (.ret (.var 5))
 .skip)))))))⟩
def ns_8 : List PySem.Str := ["world", "pattern", "kind", "path", "shape", "names", "index", "part", "name"]
/-- matched(pattern, value) -/
def fn_9 : Fd := ⟨2, 6,
 (.seq (.ite (.cmp .eq (.ix (.var 0) (.int 0)) (.str "any")) (.seq (.ret (.dct .nil))
 .skip) .skip)
 (.seq (.ite (.cmp .eq (.ix (.var 0) (.int 0)) (.str "name")) (.seq (.ret (.dct (.cons (.ix (.var 0) (.int 1)) (.cons (.var 1) .nil))))
 .skip) .skip)
 (.seq (.ite (.or (.cmp .ne (.ix (.var 1) (.int 0)) (.str "con")) (.cmp .ne (.ix (.var 1) (.int 1)) (.ix (.var 0) (.int 1)))) (.seq (.ret .non)
 .skip) .skip)
 (.seq (.set 2 (.dct .nil))
 (.seq (.for (.tu (.cons (.nm 3) (.cons (.nm 4) .nil))) (.zip (.ix (.var 0) (.int 2)) (.ix (.var 1) (.int 2))) (.seq (.set 5 (.call "matched" (.cons (.var 3) (.cons (.var 4) .nil))))
 (.seq (.ite (.cmp .is (.var 5) .non) (.seq (.ret .non)
 .skip) .skip)
 (.seq (.ex (.mth "update" (.var 2) (.cons (.var 5) .nil)))
 .skip))))
 (.seq (.ret (.var 2))
 .skip))))))⟩
def ns_9 : List PySem.Str := ["pattern", "value", "found", "part", "inner", "more"]
/-- first_match(patterns, value) -/
def fn_10 : Fd := ⟨2, 5,
 (.seq (.for (.tu (.cons (.nm 2) (.cons (.nm 3) .nil))) (.enm (.var 0)) (.seq (.set 4 (.call "matched" (.cons (.var 3) (.cons (.var 1) .nil))))
 (.seq (.ite (.cmp .isnt (.var 4) .non) (.seq (.ret (.tup (.cons (.var 2) (.cons (.var 4) .nil))))
 .skip) .skip)
 .skip)))
 (.seq (.ret .non)
 .skip))⟩
def ns_10 : List PySem.Str := ["patterns", "value", "index", "pattern", "found"]
/-- opened(rows, case, count) -/
def fn_11 : Fd := ⟨3, 6,
 (.seq (.set 3 (.lst .nil))
 (.seq (.for (.nm 4) (.wk (.var 0)) (.seq (.set 5 (.ix (.var 4) (.int 0)))
 (.seq (.ite (.cmp .ne (.ix (.var 5) (.int 0)) (.str "con")) (.seq (.ex (.mth "append" (.var 3) (.cons (.op .add (.op .mul (.tup (.cons (.cst "ANY" (.tup [.str "any"])) .nil)) (.var 2)) (.sl (.var 4) (.cons (.int 1) .nil) .nil)) .nil)))
 .skip) (.seq (.ite (.cmp .eq (.ix (.var 5) (.int 1)) (.var 1)) (.seq (.ex (.mth "append" (.var 3) (.cons (.op .add (.ix (.var 5) (.int 2)) (.sl (.var 4) (.cons (.int 1) .nil) .nil)) .nil)))
 .skip) .skip)
 .skip))
 .skip)))
 (.seq (.ret (.var 3))
 .skip)))⟩
def ns_11 : List PySem.Str := ["rows", "case", "count", "found", "row", "first"]
/-- missing(world, rows, kinds) -/
def fn_12 : Fd := ⟨3, 9,
 (.seq (.ite (.not (.var 2)) (.seq (.ret (.ite (.var 1) .non (.tup .nil)))
 .skip) .skip)
 (.seq (.set 3 (.ix (.var 2) (.int 0)))
 (.seq (.ite (.or (.cmp .ne (.ix (.var 3) (.int 0)) (.str "data")) (.not (.bi "any" (.cons (.lc (.nm 8) (.wk (.var 1)) .nil (.cmp .eq (.ix (.ix (.var 8) (.int 0)) (.int 0)) (.str "con")) [8]) .nil)))) (.seq (.set 4 (.call "missing" (.cons (.var 0) (.cons (.lc (.nm 8) (.wk (.var 1)) (.cons (.cmp .ne (.ix (.ix (.var 8) (.int 0)) (.int 0)) (.str "con")) .nil) (.sl (.var 8) (.cons (.int 1) .nil) .nil) [8]) (.cons (.sl (.var 2) (.cons (.int 1) .nil) .nil) .nil)))))
 (.seq (.ret (.ite (.cmp .is (.var 4) .non) .non (.op .add (.tup (.cons (.cst "ANY" (.tup [.str "any"])) .nil)) (.var 4))))
 .skip)) .skip)
 (.seq (.for (.tu (.cons (.nm 5) (.cons (.nm 6) .nil))) (.wk (.call "constructors" (.cons (.var 0) (.cons (.ix (.var 3) (.int 1)) .nil)))) (.seq (.set 7 (.ix (.call "constructor" (.cons (.var 0) (.cons (.var 5) .nil))) (.int 1)))
 (.seq (.set 4 (.call "missing" (.cons (.var 0) (.cons (.call "opened" (.cons (.var 1) (.cons (.var 5) (.cons (.var 6) .nil)))) (.cons (.op .add (.var 7) (.sl (.var 2) (.cons (.int 1) .nil) .nil)) .nil)))))
 (.seq (.ite (.cmp .isnt (.var 4) .non) (.seq (.ret (.op .add (.tup (.cons (.tup (.cons (.str "con") (.cons (.var 5) (.cons (.sl (.var 4) .nil (.cons (.var 6) .nil)) .nil)))) .nil)) (.sl (.var 4) (.cons (.var 6) .nil) .nil)))
 .skip) .skip)
 .skip))))
 (.seq (.ret .non)
 .skip)))))⟩
def ns_12 : List PySem.Str := ["world", "rows", "kinds", "kind", "found", "case", "count", "inner", "row"]
/-- left_out(world, patterns, kind) -/
def fn_13 : Fd := ⟨3, 5,
 (.seq (.set 3 (.call "missing" (.cons (.var 0) (.cons (.lc (.nm 4) (.wk (.var 1)) .nil (.tup (.cons (.var 4) .nil)) [4]) (.cons (.tup (.cons (.var 2) .nil)) .nil)))))
 (.seq (.ret (.ite (.cmp .is (.var 3) .non) .non (.ix (.var 3) (.int 0))))
 .skip))⟩
def ns_13 : List PySem.Str := ["world", "patterns", "kind", "found", "pattern"]
/-- is_useful(world, rows, row, kinds) -/
def fn_14 : Fd := ⟨4, 12,
 (.seq (.ite (.not (.var 3)) (.seq (.ret (.not (.var 1)))
 .skip) .skip)
 (.seq (.asg (.tu (.cons (.nm 4) (.cons (.nm 5) .nil))) (.tup (.cons (.ix (.var 3) (.int 0)) (.cons (.ix (.var 2) (.int 0)) .nil))))
 (.seq (.ite (.or (.cmp .ne (.ix (.var 4) (.int 0)) (.str "data")) (.and (.cmp .ne (.ix (.var 5) (.int 0)) (.str "con")) (.not (.bi "any" (.cons (.lc (.nm 11) (.wk (.var 1)) .nil (.cmp .eq (.ix (.ix (.var 11) (.int 0)) (.int 0)) (.str "con")) [11]) .nil))))) (.seq (.ret (.call "is_useful" (.cons (.var 0) (.cons (.lc (.nm 11) (.wk (.var 1)) .nil (.sl (.var 11) (.cons (.int 1) .nil) .nil) [11]) (.cons (.sl (.var 2) (.cons (.int 1) .nil) .nil) (.cons (.sl (.var 3) (.cons (.int 1) .nil) .nil) .nil))))))
 .skip) .skip)
 (.seq (.set 6 (.call "constructors" (.cons (.var 0) (.cons (.ix (.var 4) (.int 1)) .nil))))
 (.seq (.ite (.cmp .eq (.ix (.var 5) (.int 0)) (.str "con")) (.seq (.set 6 (.lst (.cons (.tup (.cons (.ix (.var 5) (.int 1)) (.cons (.bi "len" (.cons (.ix (.var 5) (.int 2)) .nil)) .nil))) .nil)))
 .skip) .skip)
 (.seq (.for (.tu (.cons (.nm 7) (.cons (.nm 8) .nil))) (.wk (.var 6)) (.seq (.set 9 (.ix (.call "constructor" (.cons (.var 0) (.cons (.var 7) .nil))) (.int 1)))
 (.seq (.set 10 (.ix (.call "opened" (.cons (.lst (.cons (.var 2) .nil)) (.cons (.var 7) (.cons (.var 8) .nil)))) (.int 0)))
 (.seq (.ite (.call "is_useful" (.cons (.var 0) (.cons (.call "opened" (.cons (.var 1) (.cons (.var 7) (.cons (.var 8) .nil)))) (.cons (.var 10) (.cons (.op .add (.var 9) (.sl (.var 3) (.cons (.int 1) .nil) .nil)) .nil))))) (.seq (.ret (.bl true))
 .skip) .skip)
 .skip))))
 (.seq (.ret (.bl false))
 .skip)))))))⟩
def ns_14 : List PySem.Str := ["world", "rows", "row", "kinds", "kind", "first", "cases", "case", "count", "inner", "own", "one"]
/-- useless(world, patterns, kind) -/
def fn_15 : Fd := ⟨3, 8,
 (.seq (.set 3 (.lst .nil))
 (.seq (.for (.tu (.cons (.nm 4) (.cons (.nm 5) .nil))) (.enm (.var 1)) (.seq (.set 6 (.lc (.nm 7) (.wk (.sl (.var 1) .nil (.cons (.var 4) .nil))) .nil (.tup (.cons (.var 7) .nil)) [7]))
 (.seq (.ite (.not (.call "is_useful" (.cons (.var 0) (.cons (.var 6) (.cons (.tup (.cons (.var 5) .nil)) (.cons (.tup (.cons (.var 2) .nil)) .nil)))))) (.seq (.ex (.mth "append" (.var 3) (.cons (.var 4) .nil)))
 .skip) .skip)
 .skip)))
 (.seq (.ret (.var 3))
 .skip)))⟩
def ns_15 : List PySem.Str := ["world", "patterns", "kind", "found", "index", "pattern", "ahead", "one"]
/-- _law_tape(script) -/
def fn_17 : Fd := ⟨1, 4,
 (.seq (.set 1 (.lc (.nm 3) (.wk (.var 0)) .nil (.bi "abs" (.cons (.bi "int" (.cons (.var 3) .nil)) .nil)) [3]))
 (.seq (.set 2 (.int 7))
 (.seq (.for (.nm 3) (.wk (.var 1)) (.seq (.set 2 (.op .mod (.bi "int" (.cons (.op .add (.op .mul (.var 2) (.int 31)) (.var 3)) .nil)) (.int 2147483647)))
 .skip))
 (.seq (.ret (.dct (.cons (.str "cells") (.cons (.var 1) (.cons (.str "at") (.cons (.int 0) (.cons (.str "left") (.cons (.int 0) (.cons (.str "seed") (.cons (.var 2) (.cons (.str "salt") (.cons (.int 0) .nil))))))))))))
 .skip))))⟩
def ns_17 : List PySem.Str := ["script", "cells", "seed", "cell"]
/-- _law_take(tape, many) -/
def fn_18 : Fd := ⟨2, 4,
 (.seq (.ite (.and (.cmp .eq (.ix (.var 0) (.str "left")) (.int 0)) (.cmp .lt (.ix (.var 0) (.str "at")) (.bi "len" (.cons (.ix (.var 0) (.str "cells")) .nil)))) (.seq (.sub (.var 0) (.str "left") (.ix (.ix (.var 0) (.str "cells")) (.ix (.var 0) (.str "at"))))
 (.seq (.sub (.var 0) (.str "at") (.op .add (.ix (.var 0) (.str "at")) (.int 1)))
 .skip)) .skip)
 (.seq (.ite (.cmp .gt (.ix (.var 0) (.str "left")) (.int 0)) (.seq (.set 2 (.op .mod (.bi "int" (.cons (.ix (.var 0) (.str "left")) .nil)) (.var 1)))
 (.seq (.sub (.var 0) (.str "left") (.op .fdiv (.ix (.var 0) (.str "left")) (.var 1)))
 (.seq (.ret (.var 2))
 .skip))) .skip)
 (.seq (.sub (.var 0) (.str "salt") (.op .add (.ix (.var 0) (.str "salt")) (.int 1)))
 (.seq (.set 3 (.op .mod (.bi "int" (.cons (.op .add (.op .mul (.ix (.var 0) (.str "seed")) (.int 48271)) (.op .mul (.ix (.var 0) (.str "salt")) (.int 69621))) .nil)) (.int 2147483647)))
 (.seq (.set 3 (.op .mod (.bi "int" (.cons (.op .add (.op .add (.op .mul (.var 3) (.var 3)) (.op .mul (.ix (.var 0) (.str "salt")) (.int 40692))) (.int 12345)) .nil)) (.int 2147483399)))
 (.seq (.ret (.op .mod (.bi "int" (.cons (.var 3) .nil)) (.var 1)))
 .skip))))))⟩
def ns_18 : List PySem.Str := ["tape", "many", "drawn", "mixed"]
/-- _law_is_integer(actual) -/
def fn_19 : Fd := ⟨1, 1,
 (.seq (.ret (.and (.bi "isinstance" (.cons (.var 0) (.cons (.gl "int") .nil))) (.not (.bi "isinstance" (.cons (.var 0) (.cons (.gl "bool") .nil))))))
 .skip)⟩
def ns_19 : List PySem.Str := ["actual"]
/-- _law_same_items(actual, expected) -/
def fn_20 : Fd := ⟨2, 3,
 (.seq (.ite (.cmp .ne (.bi "len" (.cons (.var 0) .nil)) (.bi "len" (.cons (.var 1) .nil))) (.seq (.ret (.bl false))
 .skip) .skip)
 (.seq (.for (.nm 2) (.rng (.cons (.bi "len" (.cons (.var 1) .nil)) .nil)) (.seq (.ite (.not (.call "_law_same" (.cons (.ix (.var 0) (.var 2)) (.cons (.ix (.var 1) (.var 2)) .nil)))) (.seq (.ret (.bl false))
 .skip) .skip)
 .skip))
 (.seq (.ret (.bl true))
 .skip)))⟩
def ns_20 : List PySem.Str := ["actual", "expected", "k"]
/-- _law_same(actual, expected) -/
def fn_21 : Fd := ⟨2, 3,
 (.seq (.ite (.cmp .is (.var 1) .non) (.seq (.ret (.cmp .is (.var 0) .non))
 .skip) .skip)
 (.seq (.ite (.bi "isinstance" (.cons (.var 1) (.cons (.gl "bool") .nil))) (.seq (.ret (.and (.bi "isinstance" (.cons (.var 0) (.cons (.gl "bool") .nil))) (.cmp .eq (.var 0) (.var 1))))
 .skip) .skip)
 (.seq (.ite (.bi "isinstance" (.cons (.var 1) (.cons (.gl "int") .nil))) (.seq (.ret (.and (.call "_law_is_integer" (.cons (.var 0) .nil)) (.cmp .eq (.var 0) (.var 1))))
 .skip) .skip)
 (.seq (.ite (.bi "isinstance" (.cons (.var 1) (.cons (.gl "str") .nil))) (.seq (.ret (.and (.bi "isinstance" (.cons (.var 0) (.cons (.gl "str") .nil))) (.cmp .eq (.var 0) (.var 1))))
 .skip) .skip)
 (.seq (.ite (.bi "isinstance" (.cons (.var 1) (.cons (.gl "tuple") .nil))) (.seq (.ret (.and (.bi "isinstance" (.cons (.var 0) (.cons (.gl "tuple") .nil))) (.call "_law_same_items" (.cons (.var 0) (.cons (.var 1) .nil)))))
 .skip) .skip)
 (.seq (.ite (.bi "isinstance" (.cons (.var 1) (.cons (.gl "list") .nil))) (.seq (.ret (.and (.bi "isinstance" (.cons (.var 0) (.cons (.gl "list") .nil))) (.call "_law_same_items" (.cons (.var 0) (.cons (.var 1) .nil)))))
 .skip) .skip)
 (.seq (.ite (.or (.not (.bi "isinstance" (.cons (.var 0) (.cons (.gl "dict") .nil)))) (.cmp .ne (.bi "len" (.cons (.var 0) .nil)) (.bi "len" (.cons (.var 1) .nil)))) (.seq (.ret (.bl false))
 .skip) .skip)
 (.seq (.for (.nm 2) (.wk (.var 1)) (.seq (.ite (.or (.cmp .nmem (.var 2) (.var 0)) (.not (.call "_law_same" (.cons (.ix (.var 0) (.var 2)) (.cons (.ix (.var 1) (.var 2)) .nil))))) (.seq (.ret (.bl false))
 .skip) .skip)
 .skip))
 (.seq (.for (.nm 2) (.wk (.var 0)) (.seq (.ite (.bi "isinstance" (.cons (.var 2) (.cons (.gl "bool") .nil))) (.seq (.ret (.bl false))
 .skip) .skip)
 .skip))
 (.seq (.ret (.bl true))
 .skip))))))))))⟩
def ns_21 : List PySem.Str := ["actual", "expected", "key"]
/-- _law_world() -/
def fn_22 : Fd := ⟨0, 2,
 (.seq (.asg (.tu (.cons (.nm 0) (.cons (.nm 1) .nil))) (.tup (.cons (.tup (.cons (.str "data") (.cons (.str "color") .nil))) (.cons (.tup (.cons (.str "data") (.cons (.str "shape") .nil))) .nil))))
 (.seq (.ret (.tup (.cons (.dct (.cons (.str "color") (.cons (.tup (.cons (.tup (.cons (.str "Red") (.cons (.tup .nil) .nil))) (.cons (.tup (.cons (.str "Blue") (.cons (.tup .nil) .nil))) .nil))) (.cons (.str "shape") (.cons (.tup (.cons (.tup (.cons (.str "Dot") (.cons (.tup .nil) .nil))) (.cons (.tup (.cons (.str "Line") (.cons (.tup (.cons (.var 0) .nil)) .nil))) (.cons (.tup (.cons (.str "Box") (.cons (.tup (.cons (.var 0) (.cons (.var 1) .nil))) .nil))) .nil)))) (.cons (.str "odd") (.cons (.tup (.cons (.tup (.cons (.str "Odd") (.cons (.tup (.cons (.tup (.cons (.str "int") .nil)) (.cons (.var 0) .nil))) .nil))) .nil)) .nil))))))) (.cons (.dct .nil) .nil))))
 .skip))⟩
def ns_22 : List PySem.Str := ["color", "shape"]
/-- _law_pattern(tape, kind, depth) -/
def fn_23 : Fd := ⟨3, 7,
 (.seq (.ite (.or (.cmp .eq (.var 2) (.int 0)) (.or (.cmp .ne (.ix (.var 1) (.int 0)) (.str "data")) (.cmp .eq (.call "_law_take" (.cons (.var 0) (.cons (.int 3) .nil))) (.int 0)))) (.seq (.ret (.ix (.lst (.cons (.tup (.cons (.str "any") .nil)) (.cons (.tup (.cons (.str "name") (.cons (.str "x") .nil))) (.cons (.tup (.cons (.str "any") .nil)) .nil)))) (.call "_law_take" (.cons (.var 0) (.cons (.int 3) .nil)))))
 .skip) .skip)
 (.seq (.set 3 (.ix (.ix (.call "_law_world" .nil) (.int 0)) (.ix (.var 1) (.int 1))))
 (.seq (.asg (.tu (.cons (.nm 4) (.cons (.nm 5) .nil))) (.ix (.var 3) (.call "_law_take" (.cons (.var 0) (.cons (.bi "len" (.cons (.var 3) .nil)) .nil)))))
 (.seq (.ret (.tup (.cons (.str "con") (.cons (.var 4) (.cons (.bi "tuple" (.cons (.lc (.nm 6) (.wk (.var 5)) .nil (.call "_law_pattern" (.cons (.var 0) (.cons (.var 6) (.cons (.op .sub (.var 2) (.int 1)) .nil)))) [6]) .nil)) .nil)))))
 .skip))))⟩
def ns_23 : List PySem.Str := ["tape", "kind", "depth", "cases", "case", "kinds", "one"]
/-- _law_values(kind, depth) -/
def fn_24 : Fd := ⟨2, 10,
 (.seq (.ite (.cmp .ne (.ix (.var 0) (.int 0)) (.str "data")) (.seq (.ret (.lst (.cons (.tup (.cons (.str "other") .nil)) .nil)))
 .skip) .skip)
 (.seq (.set 2 (.lst .nil))
 (.seq (.for (.tu (.cons (.nm 3) (.cons (.nm 4) .nil))) (.wk (.ix (.ix (.call "_law_world" .nil) (.int 0)) (.ix (.var 0) (.int 1)))) (.seq (.ite (.and (.cmp .eq (.var 1) (.int 0)) (.cmp .mem (.var 0) (.var 4))) (.seq .cont
 .skip) .skip)
 (.seq (.set 5 (.lst (.cons (.tup .nil) .nil)))
 (.seq (.for (.nm 6) (.wk (.var 4)) (.seq (.set 7 (.lst .nil))
 (.seq (.for (.nm 8) (.wk (.var 5)) (.seq (.set 7 (.op .add (.var 7) (.lc (.nm 9) (.wk (.call "_law_values" (.cons (.var 6) (.cons (.op .sub (.var 1) (.int 1)) .nil)))) .nil (.op .add (.var 8) (.tup (.cons (.var 9) .nil))) [9])))
 .skip))
 (.seq (.set 5 (.var 7))
 .skip))))
 (.seq (.set 2 (.op .add (.var 2) (.lc (.nm 8) (.wk (.var 5)) .nil (.tup (.cons (.str "con") (.cons (.var 3) (.cons (.var 8) .nil)))) [8])))
 .skip)))))
 (.seq (.ret (.var 2))
 .skip))))⟩
def ns_24 : List PySem.Str := ["kind", "depth", "found", "case", "kinds", "rows", "one", "longer", "row", "value"]
/-- _law_match(pattern, value) -/
def fn_25 : Fd := ⟨2, 6,
 (.seq (.ite (.cmp .eq (.ix (.var 0) (.int 0)) (.str "any")) (.seq (.ret (.dct .nil))
 .skip) .skip)
 (.seq (.ite (.cmp .eq (.ix (.var 0) (.int 0)) (.str "name")) (.seq (.ret (.dct (.cons (.ix (.var 0) (.int 1)) (.cons (.var 1) .nil))))
 .skip) .skip)
 (.seq (.ite (.or (.cmp .ne (.ix (.var 1) (.int 0)) (.str "con")) (.cmp .ne (.ix (.var 1) (.int 1)) (.ix (.var 0) (.int 1)))) (.seq (.ret .non)
 .skip) .skip)
 (.seq (.set 2 (.dct .nil))
 (.seq (.for (.tu (.cons (.nm 3) (.cons (.nm 4) .nil))) (.zip (.ix (.var 0) (.int 2)) (.ix (.var 1) (.int 2))) (.seq (.set 5 (.call "_law_match" (.cons (.var 3) (.cons (.var 4) .nil))))
 (.seq (.ite (.or (.cmp .is (.var 5) .non) (.cmp .is (.var 2) .non)) (.seq (.set 2 .non)
 .skip) (.seq (.ex (.mth "update" (.var 2) (.cons (.var 5) .nil)))
 .skip))
 .skip)))
 (.seq (.ret (.var 2))
 .skip))))))⟩
def ns_25 : List PySem.Str := ["pattern", "value", "found", "one", "two", "more"]
/-- _law_names(pattern, kind, path) -/
def fn_26 : Fd := ⟨3, 10,
 (.seq (.ite (.cmp .eq (.ix (.var 0) (.int 0)) (.str "any")) (.seq (.ret (.tup (.cons (.str "ok") (.cons (.lst .nil) .nil))))
 .skip) .skip)
 (.seq (.ite (.cmp .eq (.ix (.var 0) (.int 0)) (.str "name")) (.seq (.ret (.tup (.cons (.str "ok") (.cons (.lst (.cons (.ix (.var 0) (.int 1)) .nil)) .nil))))
 .skip) .skip)
 (.seq (.set 3 (.lc (.tu (.cons (.nm 7) (.cons (.nm 8) .nil))) (.wk (.ite (.cmp .eq (.ix (.var 1) (.int 0)) (.str "data")) (.ix (.ix (.call "_law_world" .nil) (.int 0)) (.ix (.var 1) (.int 1))) (.tup .nil))) (.cons (.cmp .eq (.var 7) (.ix (.var 0) (.int 1))) .nil) (.var 8) [7, 8]))
 (.seq (.ite (.or (.cmp .eq (.var 3) (.lst .nil)) (.cmp .ne (.bi "len" (.cons (.ix (.var 3) (.int 0)) .nil)) (.bi "len" (.cons (.ix (.var 0) (.int 2)) .nil)))) (.seq (.ret (.tup (.cons (.str "bad") (.cons (.str "pattern") (.cons (.var 2) .nil)))))
 .skip) .skip)
 (.seq (.set 4 (.lst .nil))
 (.seq (.for (.nm 5) (.rng (.cons (.bi "len" (.cons (.ix (.var 0) (.int 2)) .nil)) .nil)) (.seq (.set 6 (.call "_law_names" (.cons (.ix (.ix (.var 0) (.int 2)) (.var 5)) (.cons (.ix (.ix (.var 3) (.int 0)) (.var 5)) (.cons (.op .add (.var 2) (.tup (.cons (.var 5) .nil))) .nil)))))
 (.seq (.ite (.cmp .eq (.ix (.var 6) (.int 0)) (.str "bad")) (.seq (.ret (.var 6))
 .skip) .skip)
 (.seq (.ite (.bi "any" (.cons (.lc (.nm 9) (.wk (.ix (.var 6) (.int 1))) .nil (.cmp .mem (.var 9) (.var 4)) [9]) .nil)) (.seq (.ret (.tup (.cons (.str "bad") (.cons (.str "twice") (.cons (.var 2) .nil)))))
 .skip) .skip)
 (.seq (.set 4 (.op .add (.var 4) (.ix (.var 6) (.int 1))))
 .skip)))))
 (.seq (.ret (.tup (.cons (.str "ok") (.cons (.var 4) .nil))))
 .skip)))))))⟩
def ns_26 : List PySem.Str := ["pattern", "kind", "path", "shape", "names", "k", "found", "case", "kinds", "name"]
/-- _law_told(pattern, kind) -/
def fn_27 : Fd := ⟨2, 3,
 (.seq (.tr (.seq (.ret (.tup (.cons (.str "ok") (.cons (.call "check_pattern" (.cons (.call "_law_world" .nil) (.cons (.var 0) (.cons (.var 1) (.cons (.tup .nil) .nil))))) .nil))))
 .skip)
 "TypeProblem" ["TypeProblem"] (some 2) (.ret (.tup (.cons (.str "bad") (.cons (.fld "code") (.cons (.fld "path") .nil))))))
 .skip)⟩
def ns_27 : List PySem.Str := ["pattern", "kind", "e"]
/-- law(script) -/
def fn_28 : Fd := ⟨1, 19,
 (.seq (.set 1 (.call "_law_tape" (.cons (.var 0) .nil)))
 (.seq (.set 2 (.call "_law_world" .nil))
 (.seq (.for (.nm 3) (.rng (.cons (.int 3) .nil)) (.seq (.set 4 (.tup (.cons (.str "data") (.cons (.ix (.lst (.cons (.str "shape") (.cons (.str "shape") (.cons (.str "color") (.cons (.str "odd") .nil))))) (.call "_law_take" (.cons (.var 1) (.cons (.int 4) .nil)))) .nil))))
 (.seq (.set 5 (.lc (.nm 16) (.rng (.cons (.call "_law_take" (.cons (.var 1) (.cons (.int 6) .nil))) .nil)) .nil (.call "_law_pattern" (.cons (.var 1) (.cons (.var 4) (.cons (.op .add (.int 1) (.call "_law_take" (.cons (.var 1) (.cons (.int 3) .nil)))) .nil)))) [16]))
 (.seq (.set 6 (.ix (.lst (.cons (.call "_law_pattern" (.cons (.var 1) (.cons (.tup (.cons (.str "data") (.cons (.str "shape") .nil))) (.cons (.int 3) .nil)))) (.cons (.tup (.cons (.str "con") (.cons (.str "Line") (.cons (.tup .nil) .nil)))) (.cons (.tup (.cons (.str "con") (.cons (.str "No") (.cons (.tup .nil) .nil)))) (.cons (.tup (.cons (.str "con") (.cons (.str "Box") (.cons (.tup (.cons (.tup (.cons (.str "con") (.cons (.str "Line") (.cons (.tup (.cons (.tup (.cons (.str "any") .nil)) .nil)) .nil)))) (.cons (.tup (.cons (.str "any") .nil)) .nil))) .nil)))) .nil))))) (.call "_law_take" (.cons (.var 1) (.cons (.int 4) .nil)))))
 (.seq (.for (.nm 7) (.wk (.op .add (.var 5) (.lst (.cons (.var 6) .nil)))) (.seq (.ite (.not (.call "_law_same" (.cons (.call "_law_told" (.cons (.var 7) (.cons (.var 4) .nil))) (.cons (.call "_law_names" (.cons (.var 7) (.cons (.var 4) (.cons (.tup .nil) .nil)))) .nil)))) (.seq (.ret (.bl false))
 .skip) .skip)
 .skip))
 (.seq (.set 8 (.call "_law_values" (.cons (.var 4) (.cons (.int 4) .nil))))
 (.seq (.for (.nm 9) (.wk (.sl (.var 8) .nil (.cons (.int 6) .nil))) (.seq (.set 10 (.lc (.nm 16) (.rng (.cons (.bi "len" (.cons (.var 5) .nil)) .nil)) (.cons (.cmp .isnt (.call "_law_match" (.cons (.ix (.var 5) (.var 16)) (.cons (.var 9) .nil))) .non) .nil) (.var 16) [16]))
 (.seq (.ite (.not (.call "_law_same" (.cons (.call "first_match" (.cons (.var 5) (.cons (.var 9) .nil))) (.cons (.ite (.cmp .ne (.var 10) (.lst .nil)) (.tup (.cons (.ix (.var 10) (.int 0)) (.cons (.call "_law_match" (.cons (.ix (.var 5) (.ix (.var 10) (.int 0))) (.cons (.var 9) .nil))) .nil))) .non) .nil)))) (.seq (.ret (.bl false))
 .skip) .skip)
 (.seq (.ite (.not (.bi "all" (.cons (.lc (.nm 7) (.wk (.var 5)) .nil (.call "_law_same" (.cons (.call "matched" (.cons (.var 7) (.cons (.var 9) .nil))) (.cons (.call "_law_match" (.cons (.var 7) (.cons (.var 9) .nil))) .nil))) [7]) .nil))) (.seq (.ret (.bl false))
 .skip) .skip)
 .skip))))
 (.seq (.set 11 (.lst .nil))
 (.seq (.set 12 (.lst .nil))
 (.seq (.for (.nm 9) (.wk (.var 8)) (.seq (.set 10 (.lc (.nm 16) (.rng (.cons (.bi "len" (.cons (.var 5) .nil)) .nil)) (.cons (.cmp .isnt (.call "_law_match" (.cons (.ix (.var 5) (.var 16)) (.cons (.var 9) .nil))) .non) .nil) (.var 16) [16]))
 (.seq (.set 11 (.op .add (.var 11) (.sl (.var 10) .nil (.cons (.int 1) .nil))))
 (.seq (.set 12 (.op .add (.var 12) (.ite (.cmp .eq (.var 10) (.lst .nil)) (.lst (.cons (.var 9) .nil)) (.lst .nil))))
 .skip))))
 (.seq (.set 13 (.call "left_out" (.cons (.var 2) (.cons (.var 5) (.cons (.var 4) .nil)))))
 (.seq (.ite (.or (.cmp .ne (.cmp .is (.var 13) .non) (.cmp .eq (.var 12) (.lst .nil))) (.cmp .ne (.call "useless" (.cons (.var 2) (.cons (.var 5) (.cons (.var 4) .nil)))) (.lc (.nm 16) (.rng (.cons (.bi "len" (.cons (.var 5) .nil)) .nil)) (.cons (.cmp .nmem (.var 16) (.var 11)) .nil) (.var 16) [16]))) (.seq (.ret (.bl false))
 .skip) .skip)
 (.seq (.ite (.cmp .isnt (.var 13) .non) (.seq (.set 14 (.lc (.nm 9) (.wk (.var 8)) (.cons (.cmp .isnt (.call "_law_match" (.cons (.var 13) (.cons (.var 9) .nil))) .non) .nil) (.var 9) [9]))
 (.seq (.ite (.or (.cmp .eq (.var 14) (.lst .nil)) (.or (.not (.bi "all" (.cons (.lc (.nm 9) (.wk (.var 14)) .nil (.cmp .mem (.var 9) (.var 12)) [9]) .nil))) (.cmp .ne (.ix (.call "_law_told" (.cons (.var 13) (.cons (.var 4) .nil))) (.int 0)) (.str "ok")))) (.seq (.ret (.bl false))
 .skip) .skip)
 (.seq (.ite (.and (.cmp .eq (.ix (.var 13) (.int 0)) (.str "con")) (.cmp .ne (.var 5) (.lst .nil))) (.seq (.set 15 (.lc (.tu (.cons (.nm 17) (.cons (.nm 18) .nil))) (.wk (.ix (.ix (.var 2) (.int 0)) (.ix (.var 4) (.int 1)))) .nil (.var 17) [17, 18]))
 (.seq (.ite (.bi "any" (.cons (.lc (.nm 9) (.wk (.var 12)) .nil (.cmp .mem (.ix (.var 9) (.int 1)) (.sl (.var 15) .nil (.cons (.mth "index" (.var 15) (.cons (.ix (.var 13) (.int 1)) .nil)) .nil))) [9]) .nil)) (.seq (.ret (.bl false))
 .skip) .skip)
 .skip)) .skip)
 .skip))) .skip)
 .skip)))))))))))))
 (.seq (.ret (.and (.cmp .eq (.call "left_out" (.cons (.var 2) (.cons (.lst .nil) (.cons (.tup (.cons (.str "data") (.cons (.str "shape") .nil))) .nil)))) (.tup (.cons (.str "any") .nil))) (.cmp .is (.call "left_out" (.cons (.var 2) (.cons (.lst (.cons (.tup (.cons (.str "any") .nil)) .nil)) (.cons (.tup (.cons (.str "data") (.cons (.str "shape") .nil))) .nil)))) .non)))
 .skip))))⟩
def ns_28 : List PySem.Str := ["script", "tape", "world", "turn", "kind", "patterns", "other", "one", "values", "value", "hits", "firsts", "missed", "told", "covered", "cases", "k", "case", "kinds"]
def pg : Pg := fun f => match f with
  | "constructor" => some fn_4
  | "constructors" => some fn_5
  | "check_pattern" => some fn_8
  | "matched" => some fn_9
  | "first_match" => some fn_10
  | "opened" => some fn_11
  | "missing" => some fn_12
  | "left_out" => some fn_13
  | "is_useful" => some fn_14
  | "useless" => some fn_15
  | "_law_tape" => some fn_17
  | "_law_take" => some fn_18
  | "_law_is_integer" => some fn_19
  | "_law_same_items" => some fn_20
  | "_law_same" => some fn_21
  | "_law_world" => some fn_22
  | "_law_pattern" => some fn_23
  | "_law_values" => some fn_24
  | "_law_match" => some fn_25
  | "_law_names" => some fn_26
  | "_law_told" => some fn_27
  | "law" => some fn_28
  | _ => none
end K26

/-! ## K26A -/
/-! K26A: patterns, in plain Lean. -/
namespace K26
open Ev
inductive Kd where
  | shape | color | odd | int
  deriving DecidableEq
inductive Cn where
  | red | blue | dot | line | box | odd
  deriving DecidableEq
def Cn.s : Cn → String
  | .red => "Red" | .blue => "Blue" | .dot => "Dot" | .line => "Line" | .box => "Box" | .odd => "Odd"
def Cn.args : Cn → List Kd
  | .red => [] | .blue => [] | .dot => [] | .line => [.color] | .box => [.color, .shape] | .odd => [.int, .color]
def Cn.typ : Cn → Kd
  | .red => .color | .blue => .color | .dot => .shape | .line => .shape | .box => .shape | .odd => .odd
def cases : Kd → List Cn
  | .shape => [.dot, .line, .box]
  | .color => [.red, .blue]
  | .odd => [.odd]
  | .int => []
theorem mem_cases {c : Cn} {k : Kd} : c ∈ cases k ↔ c.typ = k := by cases c <;> cases k <;> simp [cases, Cn.typ]
theorem Cn.s_inj {c d : Cn} (h : c.s = d.s) : c = d := by cases c <;> cases d <;> first | rfl | (exact absurd h (by decide))
inductive Pt where
  | any | nm (x : String) | con (c : String) (ps : List Pt)
inductive Vl where
  | other | con (c : Cn) (vs : List Vl)
/-- no constructor ahead -/
def nc : Pt → Bool
  | .con _ _ => false
  | _ => true
mutual
/-- a value has a pattern -/
def mt : Pt → Vl → Bool
  | .any, _ => true
  | .nm _, _ => true
  | .con _ _, .other => false
  | .con c ps, .con d vs => (c == d.s) && mts ps vs
def mts : List Pt → List Vl → Bool
  | [], _ => true
  | _ :: _, [] => true
  | p :: ps, v :: vs => mt p v && mts ps vs
end
mutual
/-- values of a type, so deep -/
def VOK : Kd → Nat → Vl → Prop
  | .int, _, v => v = .other
  | .color, _, v => v = .con .red [] ∨ v = .con .blue []
  | .odd, _, v => ∃ c, (c = Vl.con .red [] ∨ c = .con .blue []) ∧ v = .con .odd [.other, c]
  | .shape, 0, v => v = .con .dot [] ∨ ∃ c, (c = Vl.con .red [] ∨ c = .con .blue []) ∧ v = .con .line [c]
  | .shape, d + 1, v => v = .con .dot [] ∨ (∃ c, (c = Vl.con .red [] ∨ c = .con .blue []) ∧ v = .con .line [c]) ∨ ∃ c s, (c = Vl.con .red [] ∨ c = .con .blue []) ∧ VOK .shape d s ∧ v = .con .box [c, s]
end
def VOKs : List Kd → Nat → List Vl → Prop
  | [], _, vs => vs = []
  | k :: ks, d, vs => ∃ v r, vs = v :: r ∧ VOK k d v ∧ VOKs ks d r
theorem VOK.mono : ∀ {k : Kd} {d e : Nat} {v : Vl}, VOK k d v → d ≤ e → VOK k e v
  | .int, _, _, _, h, _ => by unfold VOK at h ⊢; exact h
  | .color, _, _, _, h, _ => by unfold VOK at h ⊢; exact h
  | .odd, _, _, _, h, _ => by unfold VOK at h ⊢; exact h
  | .shape, 0, 0, _, h, _ => h
  | .shape, 0, e + 1, _, h, _ => by
    unfold VOK at h ⊢
    rcases h with h | h
    · exact .inl h
    · exact .inr (.inl h)
  | .shape, d + 1, 0, _, _, hd => by omega
  | .shape, d + 1, e + 1, _, h, hd => by
    unfold VOK at h ⊢
    rcases h with h | h | ⟨c, s, h1, h2, h3⟩
    · exact .inl h
    · exact .inr (.inl h)
    · exact .inr (.inr ⟨c, s, h1, VOK.mono h2 (by omega), h3⟩)
theorem VOKs.mono : ∀ {ks : List Kd} {d e : Nat} {vs : List Vl}, VOKs ks d vs → d ≤ e → VOKs ks e vs
  | [], _, _, _, h, _ => h
  | k :: ks, _, _, _, ⟨v, r, h1, h2, h3⟩, hd => ⟨v, r, h1, h2.mono hd, VOKs.mono h3 hd⟩
/-- a value of a data type is a constructor's -/
theorem VOK.con {k : Kd} {d : Nat} {v : Vl} (h : VOK k d v) (hk : k ≠ .int) : ∃ c vs, v = .con c vs ∧ c ∈ cases k ∧ VOKs c.args d vs := by
  cases k with
  | int => exact absurd rfl hk
  | color =>
    unfold VOK at h
    rcases h with rfl | rfl
    · exact ⟨.red, [], rfl, by simp [cases], rfl⟩
    · exact ⟨.blue, [], rfl, by simp [cases], rfl⟩
  | odd =>
    unfold VOK at h
    obtain ⟨c, hc, rfl⟩ := h
    exact ⟨.odd, [.other, c], rfl, by simp [cases], .other, [c], rfl, by unfold VOK; rfl, c, [], rfl, by unfold VOK; exact hc, rfl⟩
  | shape =>
    cases d with
    | zero =>
      unfold VOK at h
      rcases h with rfl | ⟨c, hc, rfl⟩
      · exact ⟨.dot, [], rfl, by simp [cases], rfl⟩
      · exact ⟨.line, [c], rfl, by simp [cases], c, [], rfl, by unfold VOK; exact hc, rfl⟩
    | succ d =>
      unfold VOK at h
      rcases h with rfl | ⟨c, hc, rfl⟩ | ⟨c, s, hc, hs, rfl⟩
      · exact ⟨.dot, [], rfl, by simp [cases], rfl⟩
      · exact ⟨.line, [c], rfl, by simp [cases], c, [], rfl, by unfold VOK; exact hc, rfl⟩
      · exact ⟨.box, [c, s], rfl, by simp [cases], c, [s], rfl, by unfold VOK; exact hc, s, [], rfl, hs.mono (Nat.le_succ d), rfl⟩
/-- the other way: arguments one less deep for a box -/
theorem VOK.of {c : Cn} {d : Nat} {vs : List Vl} (h : VOKs c.args d vs) : VOK c.typ (d + 1) (.con c vs) := by
  cases c with
  | red => cases h; unfold Cn.typ VOK; exact .inl rfl
  | blue => cases h; unfold Cn.typ VOK; exact .inr rfl
  | dot => cases h; unfold Cn.typ VOK; exact .inl rfl
  | line =>
    obtain ⟨v, r, rfl, h1, h2⟩ := h
    cases h2
    unfold VOK at h1
    unfold Cn.typ VOK
    exact .inr (.inl ⟨v, h1, rfl⟩)
  | box =>
    obtain ⟨v, r, rfl, h1, w, r2, rfl, h2, h3⟩ := h
    cases h3
    unfold VOK at h1
    unfold Cn.typ VOK
    exact .inr (.inr ⟨v, w, h1, h2, rfl⟩)
  | odd =>
    obtain ⟨v, r, rfl, h1, w, r2, rfl, h2, h3⟩ := h
    cases h3
    unfold VOK at h1 h2
    subst h1
    unfold Cn.typ VOK
    exact ⟨w, h2, rfl⟩
/-! ### patterns of a type, so high -/
abbrev Co := List (Kd × Nat)
mutual
def WT : Kd → Nat → Pt → Prop
  | _, _, .any => True
  | _, _, .nm _ => True
  | _, 0, .con _ _ => False
  | k, h + 1, .con c ps => ∃ d : Cn, c = d.s ∧ d ∈ cases k ∧ WTs (d.args.map fun a => (a, h)) ps
def WTs : Co → List Pt → Prop
  | [], ps => ps = []
  | _ :: _, [] => False
  | (k, h) :: ks, p :: ps => WT k h p ∧ WTs ks ps
end
mutual
/-- no names -/
def nn : Pt → Bool
  | .any => true
  | .nm _ => false
  | .con _ ps => nns ps
def nns : List Pt → Bool
  | [] => true
  | p :: ps => nn p && nns ps
end
theorem WTs_nil {ps : List Pt} (h : WTs [] ps) : ps = [] := by cases ps <;> first | rfl | (simp [WTs] at h)
theorem WTs.len : ∀ {cs : Co} {ps : List Pt}, WTs cs ps → ps.length = cs.length
  | [], ps, h => by rw [WTs_nil h]; rfl
  | (k, h) :: cs, p :: ps, ⟨_, h2⟩ => by simp [WTs.len h2]
theorem WTs.app : ∀ {cs ds : Co} {ps qs : List Pt}, WTs cs ps → WTs ds qs → WTs (cs ++ ds) (ps ++ qs)
  | [], ds, ps, qs, h, g => by rw [WTs_nil h]; exact g
  | (k, h) :: cs, ds, p :: ps, qs, ⟨h1, h2⟩, g => ⟨h1, WTs.app h2 g⟩
theorem WTs.split : ∀ {cs ds : Co} {ps : List Pt}, WTs (cs ++ ds) ps → WTs cs (ps.take cs.length) ∧ WTs ds (ps.drop cs.length)
  | [], ds, ps, h => ⟨rfl, h⟩
  | (k, h) :: cs, ds, p :: ps, ⟨h1, h2⟩ => by
    have := WTs.split h2
    exact ⟨⟨h1, this.1⟩, this.2⟩
theorem WTs.anys : ∀ {cs : Co}, WTs cs (List.replicate cs.length .any)
  | [] => rfl
  | (k, h) :: cs => ⟨trivial, WTs.anys⟩
theorem nns_app : ∀ {ps qs : List Pt}, nns (ps ++ qs) = (nns ps && nns qs)
  | [], qs => by simp [nns]
  | p :: ps, qs => by simp [nns, nns_app, Bool.and_assoc]
theorem nns_take {ps : List Pt} (h : nns ps = true) (n : Nat) : nns (ps.take n) = true ∧ nns (ps.drop n) = true := by
  have : nns (ps.take n ++ ps.drop n) = true := by rw [List.take_append_drop]; exact h
  rw [nns_app, Bool.and_eq_true] at this
  exact this
/-- something has it -/
theorem any_val (k : Kd) (h : Nat) : ∃ v, VOK k h v := by
  cases k with
  | int => exact ⟨.other, by unfold VOK; rfl⟩
  | color => exact ⟨.con .red [], by unfold VOK; exact .inl rfl⟩
  | odd => exact ⟨.con .odd [.other, .con .red []], by unfold VOK; exact ⟨_, .inl rfl, rfl⟩⟩
  | shape => cases h <;> exact ⟨.con .dot [], by unfold VOK; exact .inl rfl⟩
mutual
theorem inst : ∀ {k : Kd} {h : Nat} (p : Pt), WT k h p → ∃ v, VOK k h v ∧ mt p v = true
  | k, h, .any, _ => by
    obtain ⟨v, hv⟩ := any_val k h
    exact ⟨v, hv, by simp [mt]⟩
  | k, h, .nm x, _ => by
    obtain ⟨v, hv⟩ := any_val k h
    exact ⟨v, hv, by simp [mt]⟩
  | k, 0, .con c ps, w => by simp [WT] at w
  | k, h + 1, .con c ps, w => by
    unfold WT at w
    obtain ⟨d, rfl, hd, w⟩ := w
    obtain ⟨vs, h1, h2⟩ := insts (h := h) ps w
    refine ⟨.con d vs, ?_, by simp [mt, h2]⟩
    have := VOK.of (c := d) h1
    rw [mem_cases.mp hd] at this
    exact this
theorem insts : ∀ {ks : List Kd} {h : Nat} (ps : List Pt), WTs (ks.map fun a => (a, h)) ps → ∃ vs, VOKs ks h vs ∧ mts ps vs = true
  | [], h, ps, w => by
    rw [WTs_nil w]
    exact ⟨[], rfl, rfl⟩
  | k :: ks, h, [], w => by simp [WTs] at w
  | k :: ks, h, p :: ps, w => by
    have w : WT k h p ∧ WTs (ks.map fun a => (a, h)) ps := w
    obtain ⟨v, h1, h2⟩ := inst p w.1
    obtain ⟨vs, h3, h4⟩ := insts ps w.2
    exact ⟨v :: vs, ⟨v, vs, rfl, h1, h3⟩, by simp [mts, h2, h4]⟩
end
/-! ### matching rows -/
theorem VOKs.len : ∀ {ks : List Kd} {d : Nat} {vs : List Vl}, VOKs ks d vs → vs.length = ks.length
  | [], _, vs, h => by rw [show vs = [] from h]; rfl
  | k :: ks, d, vs, ⟨v, r, e, _, h⟩ => by rw [e, List.length_cons, List.length_cons, VOKs.len h]
theorem VOKs.app : ∀ {ks ls : List Kd} {d : Nat} {vs ws : List Vl}, VOKs ks d vs → VOKs ls d ws → VOKs (ks ++ ls) d (vs ++ ws)
  | [], ls, d, vs, ws, h, g => by rw [show vs = [] from h]; exact g
  | k :: ks, ls, d, vs, ws, ⟨v, r, e, h1, h2⟩, g => by
    rw [e]
    exact ⟨v, r ++ ws, rfl, h1, VOKs.app h2 g⟩
theorem mts_app : ∀ {ps qs : List Pt} {vs ws : List Vl}, ps.length = vs.length → mts (ps ++ qs) (vs ++ ws) = (mts ps vs && mts qs ws)
  | [], qs, vs, ws, h => by
    have : vs = [] := List.eq_nil_of_length_eq_zero h.symm
    subst this
    simp [mts]
  | p :: ps, qs, [], ws, h => by simp at h
  | p :: ps, qs, v :: vs, ws, h => by
    simp only [List.cons_append, mts]
    rw [mts_app (by simpa using h), Bool.and_assoc]
theorem mts_anys : ∀ {n : Nat} {vs : List Vl}, mts (List.replicate n .any) vs = true
  | 0, _ => rfl
  | n + 1, [] => by simp [List.replicate_succ, mts]
  | n + 1, v :: vs => by simp [List.replicate_succ, mts, mt, mts_anys]
theorem mt_nc {p : Pt} {v : Vl} (h : nc p = true) : mt p v = true := by cases p <;> first | (simp [mt]; done) | (cases h; done)
def hd : List Pt → Pt
  | [] => .any
  | p :: _ => p
def opn1 (c : String) (n : Nat) : List Pt → Option (List Pt)
  | [] => none
  | .con d ps :: r => if d = c then some (ps ++ r) else none
  | _ :: r => some (List.replicate n .any ++ r)
def opn (c : String) (n : Nat) (rows : List (List Pt)) : List (List Pt) := rows.filterMap (opn1 c n)
/-- a row and what it is opened to -/
theorem opn1_typ {k : Kd} {h : Nat} {cs : Co} {row : List Pt} {c : Cn} (w : WTs ((k, h + 1) :: cs) row) {r : List Pt} (e : opn1 c.s c.args.length row = some r) : WTs (c.args.map (fun a => (a, h)) ++ cs) r := by
  cases row with
  | nil => simp [WTs] at w
  | cons p t =>
    obtain ⟨w1, w2⟩ := (show WT k (h + 1) p ∧ WTs cs t from w)
    cases p with
    | con d ps =>
      by_cases hd : d = c.s
      · simp only [opn1, hd, if_true, Option.some.injEq] at e
        subst e
        unfold WT at w1
        obtain ⟨d', e', _, w3⟩ := w1
        have : d' = c := Cn.s_inj (by rw [← e', hd])
        subst this
        exact w3.app w2
      · simp [opn1, hd] at e
    | any =>
      simp only [opn1, Option.some.injEq] at e
      subst e
      refine WTs.app ?_ w2
      have := WTs.anys (cs := c.args.map fun a => (a, h))
      rw [List.length_map] at this
      exact this
    | nm x =>
      simp only [opn1, Option.some.injEq] at e
      subst e
      refine WTs.app ?_ w2
      have := WTs.anys (cs := c.args.map fun a => (a, h))
      rw [List.length_map] at this
      exact this
theorem opn1_mt {k : Kd} {h : Nat} {cs : Co} {row : List Pt} {c : Cn} {vs r : List Vl} (w : WTs ((k, h) :: cs) row) (hl : vs.length = c.args.length) : mts row (.con c vs :: r) = (match opn1 c.s c.args.length row with
    | some row' => mts row' (vs ++ r)
    | none => false) := by
  cases row with
  | nil => simp [WTs] at w
  | cons p t =>
    obtain ⟨w1, w2⟩ := (show WT k h p ∧ WTs cs t from w)
    have key : mts (List.replicate c.args.length .any ++ t) (vs ++ r) = mts t r := by
      rw [mts_app (by simp [hl]), mts_anys, Bool.true_and]
    cases p with
    | con d ps =>
      cases h with
      | zero => simp [WT] at w1
      | succ h =>
        unfold WT at w1
        obtain ⟨d', rfl, _, w3⟩ := w1
        by_cases hd : d' = c
        · subst hd
          simp only [opn1, if_true, mts, mt, beq_self_eq_true, Bool.true_and]
          rw [mts_app (by rw [w3.len, hl, List.length_map])]
        · have hs : ¬ d'.s = c.s := fun e => hd (Cn.s_inj e)
          simp [opn1, hs, mts, mt]
    | any => simp only [opn1, mts, mt, Bool.true_and]; exact key.symm
    | nm x => simp only [opn1, mts, mt, Bool.true_and]; exact key.symm
theorem opn_any {k : Kd} {h : Nat} {cs : Co} {rows : List (List Pt)} {c : Cn} {vs r : List Vl} (w : ∀ row ∈ rows, WTs ((k, h) :: cs) row) (hl : vs.length = c.args.length) : (∃ row ∈ rows, mts row (.con c vs :: r) = true) ↔ ∃ row ∈ opn c.s c.args.length rows, mts row (vs ++ r) = true := by
  constructor
  · rintro ⟨row, hr, hm⟩
    rw [opn1_mt (w row hr) hl] at hm
    cases e : opn1 c.s c.args.length row with
    | none => rw [e] at hm; cases hm
    | some row' =>
      rw [e] at hm
      exact ⟨row', List.mem_filterMap.mpr ⟨row, hr, e⟩, hm⟩
  · rintro ⟨row', hr, hm⟩
    obtain ⟨row, hr, e⟩ := List.mem_filterMap.mp hr
    refine ⟨row, hr, ?_⟩
    rw [opn1_mt (w row hr) hl, e]
    exact hm
/-! ### how many calls -/
def wc : Kd → Nat → Nat
  | .int, _ => 1
  | _, 0 => 1
  | .color, _ + 1 => 1
  | .odd, _ + 1 => 3
  | .shape, h + 1 => 2 + wc .shape h
def Wc : Co → Nat
  | [] => 0
  | (k, h) :: cs => wc k h + Wc cs
theorem Wc_app : ∀ {cs ds : Co}, Wc (cs ++ ds) = Wc cs + Wc ds
  | [], ds => by simp [Wc]
  | (k, h) :: cs, ds => by simp [Wc, Wc_app]; omega
theorem wc_pos (k : Kd) (h : Nat) : 1 ≤ wc k h := by cases k <;> cases h <;> simp [wc] <;> omega
theorem wc_args {k : Kd} {h : Nat} {c : Cn} (hc : c ∈ cases k) : Wc (c.args.map fun a => (a, h)) + 1 ≤ wc k (h + 1) := by
  have := wc_pos .shape h
  have e1 : wc .color h = 1 := by cases h <;> rfl
  cases k <;> simp [cases] at hc
  · rcases hc with rfl | rfl | rfl <;> simp [Cn.args, Wc, wc, e1] <;> omega
  · rcases hc with rfl | rfl <;> simp [Cn.args, Wc, wc]
  · subst hc
    simp [Cn.args, Wc, wc, e1]
end K26

/-! ## K26B -/
/-! K26B: what is left out, what is useful. -/
namespace K26
open Ev
def allNc (rows : List (List Pt)) : Bool := rows.all fun row => nc (hd row)
def miss : Nat → List (List Pt) → List Kd → Option (List Pt)
  | 0, _, _ => none
  | n + 1, rows, [] => if rows.isEmpty then some [] else none
  | n + 1, rows, k :: ks =>
    if k = .int ∨ allNc rows = true then (miss n ((rows.filter fun row => nc (hd row)).map List.tail) ks).map (Pt.any :: ·)
    else (cases k).findSome? fun c => (miss n (opn c.s c.args.length rows) (c.args ++ ks)).map fun f => .con c.s (f.take c.args.length) :: f.drop c.args.length
def kds (cs : Co) : List Kd := cs.map (·.1)
theorem kds_args {c : Cn} {h : Nat} {cs : Co} : kds (c.args.map (fun a => (a, h)) ++ cs) = c.args ++ kds cs := by
  unfold kds
  rw [List.map_append, List.map_map]
  congr 1
  exact List.map_id _
theorem VOKs_split : ∀ {ks ls : List Kd} {d : Nat} {vs : List Vl}, VOKs (ks ++ ls) d vs → ∃ us ws, vs = us ++ ws ∧ VOKs ks d us ∧ VOKs ls d ws
  | [], ls, d, vs, h => ⟨[], vs, rfl, rfl, h⟩
  | k :: ks, ls, d, vs, ⟨v, r, e, h1, h2⟩ => by
    obtain ⟨us, ws, e2, g1, g2⟩ := VOKs_split h2
    exact ⟨v :: us, ws, by rw [e, e2]; rfl, ⟨v, us, rfl, h1, g1⟩, g2⟩
theorem tails_typ {k : Kd} {h : Nat} {cs : Co} {rows : List (List Pt)} {f : List Pt → Bool} (w : ∀ row ∈ rows, WTs ((k, h) :: cs) row) : ∀ row ∈ (rows.filter f).map List.tail, WTs cs row := by
  intro row hr
  obtain ⟨row', hr', rfl⟩ := List.mem_map.mp hr
  have := w row' (List.mem_filter.mp hr').1
  cases row' with
  | nil => simp [WTs] at this
  | cons p t => exact (show WT k h p ∧ WTs cs t from this).2
theorem mts_tail {row : List Pt} {v : Vl} {r : List Vl} (hne : row ≠ []) (h : nc (hd row) = true) : mts row (v :: r) = mts row.tail r := by
  cases row with
  | nil => exact absurd rfl hne
  | cons p t =>
    simp only [mts, List.tail_cons]
    rw [mt_nc (show nc p = true from h), Bool.true_and]
theorem typ_ne {c : Kd × Nat} {cs : Co} {row : List Pt} (w : WTs (c :: cs) row) : row ≠ [] := fun e => by
  subst e
  obtain ⟨k, h⟩ := c
  simp [WTs] at w
/-- what is left out -/
def MissOk (cs : Co) (rows : List (List Pt)) : Option (List Pt) → Prop
  | none => ∀ d vs, VOKs (kds cs) d vs → ∃ row ∈ rows, mts row vs = true
  | some r => WTs cs r ∧ nns r = true ∧ ∀ d vs, VOKs (kds cs) d vs → mts r vs = true → ∀ row ∈ rows, mts row vs = false
theorem int_nc {h : Nat} {cs : Co} {row : List Pt} (w : WTs ((.int, h) :: cs) row) : nc (hd row) = true := by
  cases row with
  | nil => rfl
  | cons p t =>
    have w1 := (show WT .int h p ∧ WTs cs t from w).1
    cases p with
    | con d ps =>
      cases h with
      | zero => simp [WT] at w1
      | succ h =>
        unfold WT at w1
        obtain ⟨d', _, hd', _⟩ := w1
        simp [cases] at hd'
    | _ => rfl
theorem miss_ok : ∀ (n : Nat) (cs : Co) (rows : List (List Pt)), Wc cs < n → (∀ row ∈ rows, WTs cs row) → MissOk cs rows (miss n rows (kds cs))
  | 0, cs, rows, h, _ => by omega
  | n + 1, [], rows, h, w => by
    show MissOk [] rows (if rows.isEmpty then some [] else none)
    cases rows with
    | nil => exact ⟨by simp [WTs], rfl, fun d vs _ _ row hr => by cases hr⟩
    | cons row rows =>
      show MissOk [] (row :: rows) none
      intro d vs hv
      refine ⟨row, List.mem_cons_self, ?_⟩
      rw [WTs_nil (w row List.mem_cons_self)]
      simp [mts]
  | n + 1, (k, h) :: cs, rows, hn, w => by
    have hw : wc k h + Wc cs < n + 1 := hn
    have hp := wc_pos k h
    show MissOk ((k, h) :: cs) rows (if k = .int ∨ allNc rows = true then (miss n ((rows.filter fun row => nc (hd row)).map List.tail) (kds cs)).map (Pt.any :: ·)
      else (cases k).findSome? fun c => (miss n (opn c.s c.args.length rows) (c.args ++ kds cs)).map fun f => .con c.s (f.take c.args.length) :: f.drop c.args.length)
    by_cases hc : k = .int ∨ allNc rows = true
    · rw [if_pos hc]
      have all : ∀ row ∈ rows, nc (hd row) = true := fun row hr => by
        rcases hc with rfl | hc
        · exact int_nc (w row hr)
        · exact List.all_eq_true.mp hc row hr
      have ih := miss_ok n cs ((rows.filter fun row => nc (hd row)).map List.tail) (by omega) (tails_typ w)
      cases e : miss n ((rows.filter fun row => nc (hd row)).map List.tail) (kds cs) with
      | none =>
        rw [e] at ih
        intro d vs ⟨v, r, ev, h1, h2⟩
        obtain ⟨row', hr', hm⟩ := ih d r h2
        obtain ⟨row, hr, rfl⟩ := List.mem_map.mp hr'
        have hr := (List.mem_filter.mp hr).1
        exact ⟨row, hr, by rw [ev, mts_tail (typ_ne (w row hr)) (all row hr)]; exact hm⟩
      | some f =>
        rw [e] at ih
        obtain ⟨i1, i2, i3⟩ := ih
        refine ⟨⟨trivial, i1⟩, by simp [nns, nn, i2], ?_⟩
        intro d vs ⟨v, r, ev, h1, h2⟩ hm row hr
        subst ev
        have hm : mts f r = true := by simpa [mts, mt] using hm
        rw [mts_tail (typ_ne (w row hr)) (all row hr)]
        exact i3 d r h2 hm _ (List.mem_map.mpr ⟨row, List.mem_filter.mpr ⟨hr, all row hr⟩, rfl⟩)
    · rw [if_neg hc]
      have hk : k ≠ .int := fun e => hc (.inl e)
      have hex : ∃ row ∈ rows, nc (hd row) = false := by
        have : allNc rows = false := by
          cases e : allNc rows with
          | true => exact absurd (.inr e) hc
          | false => rfl
        unfold allNc at this
        rw [List.all_eq_false] at this
        obtain ⟨row, hr, h'⟩ := this
        exact ⟨row, hr, by simpa using h'⟩
      have hh : ∃ h', h = h' + 1 := by
        obtain ⟨row, hr, hnc⟩ := hex
        have wr := w row hr
        cases row with
        | nil => cases hnc
        | cons p t =>
          have w1 := (show WT k h p ∧ WTs cs t from wr).1
          cases p with
          | con d ps =>
            cases h with
            | zero => simp [WT] at w1
            | succ h => exact ⟨h, rfl⟩
          | any => cases hnc
          | nm x => cases hnc
      obtain ⟨h, rfl⟩ := hh
      have ih : ∀ c ∈ cases k, MissOk (c.args.map (fun a => (a, h)) ++ cs) (opn c.s c.args.length rows) (miss n (opn c.s c.args.length rows) (c.args ++ kds cs)) := fun c hcm => by
        have := miss_ok n (c.args.map (fun a => (a, h)) ++ cs) (opn c.s c.args.length rows) (by rw [Wc_app]; have := wc_args (h := h) hcm; omega) (fun row hr => by
          obtain ⟨row', hr', e⟩ := List.mem_filterMap.mp hr
          exact opn1_typ (w row' hr') e)
        rw [kds_args] at this
        exact this
      cases e : (cases k).findSome? fun c => (miss n (opn c.s c.args.length rows) (c.args ++ kds cs)).map fun f => Pt.con c.s (f.take c.args.length) :: f.drop c.args.length with
      | none =>
        intro d vs ⟨v, r, ev, h1, h2⟩
        subst ev
        obtain ⟨c, us, rfl, hcm, hus⟩ := h1.con hk
        have e1 := List.findSome?_eq_none_iff.mp e c hcm
        rw [Option.map_eq_none_iff] at e1
        have := ih c hcm
        rw [e1] at this
        exact (opn_any w hus.len).mpr (this d (us ++ r) (by rw [kds_args]; exact hus.app h2))
      | some g =>
        obtain ⟨c, hcm, e1⟩ := List.exists_of_findSome?_eq_some e
        obtain ⟨f, e2, rfl⟩ := Option.map_eq_some_iff.mp e1
        have := ih c hcm
        rw [e2] at this
        obtain ⟨i1, i2, i3⟩ := this
        have sp := i1.split
        rw [List.length_map] at sp
        have nt := nns_take i2 c.args.length
        refine ⟨⟨?_, sp.2⟩, by simp [nns, nn, nt.1, nt.2], ?_⟩
        · unfold WT
          exact ⟨c, rfl, hcm, sp.1⟩
        · intro d vs ⟨v, r, ev, h1, h2⟩ hm row hr
          subst ev
          obtain ⟨c', us, rfl, hcm', hus⟩ := h1.con hk
          simp only [mts, mt, Bool.and_eq_true, beq_iff_eq] at hm
          obtain ⟨⟨m1, m2⟩, m3⟩ := hm
          have : c = c' := Cn.s_inj m1
          subst this
          have hm : mts f (us ++ r) = true := by
            have : mts (f.take c.args.length ++ f.drop c.args.length) (us ++ r) = true := by
              rw [mts_app, m2, m3]
              · rfl
              · rw [sp.1.len, List.length_map, hus.len]
            rwa [List.take_append_drop] at this
          have := i3 d (us ++ r) (by rw [kds_args]; exact hus.app h2) hm
          cases hx : mts row (.con c us :: r) with
          | false => rfl
          | true =>
            obtain ⟨row', hr', hm'⟩ := (opn_any w hus.len).mp ⟨row, hr, hx⟩
            rw [this row' hr'] at hm'
            cases hm'
/-- the first in order -/
theorem miss_first {n : Nat} {k : Kd} {h : Nat} {rows : List (List Pt)} (hn : Wc [(k, h)] < n) (w : ∀ row ∈ rows, WTs [(k, h)] row) {c : Cn} {ps r : List Pt} (e : miss n rows [k] = some (.con c.s ps :: r)) :
    ∀ c' ∈ (cases k).takeWhile (fun x => !decide (x = c)), ∀ d vs, VOKs c'.args d vs → ∃ row ∈ rows, mts row [.con c' vs] = true := by
  obtain ⟨n, rfl⟩ : ∃ m, n = m + 1 := ⟨n - 1, by omega⟩
  have hw : wc k h + 0 < n + 1 := hn
  have e : (if k = .int ∨ allNc rows = true then (miss n ((rows.filter fun row => nc (hd row)).map List.tail) []).map (Pt.any :: ·)
      else (cases k).findSome? fun c => (miss n (opn c.s c.args.length rows) (c.args ++ [])).map fun f => .con c.s (f.take c.args.length) :: f.drop c.args.length) = some (.con c.s ps :: r) := e
  by_cases hc : k = .int ∨ allNc rows = true
  · rw [if_pos hc] at e
    obtain ⟨f, _, e2⟩ := Option.map_eq_some_iff.mp e
    cases e2
  · rw [if_neg hc] at e
    have hex : ∃ row ∈ rows, nc (hd row) = false := by
      have : allNc rows = false := by
        cases e : allNc rows with
        | true => exact absurd (.inr e) hc
        | false => rfl
      unfold allNc at this
      rw [List.all_eq_false] at this
      obtain ⟨row, hr, h'⟩ := this
      exact ⟨row, hr, by simpa using h'⟩
    have hh : ∃ h', h = h' + 1 := by
      obtain ⟨row, hr, hnc⟩ := hex
      have wr := w row hr
      cases row with
      | nil => cases hnc
      | cons p t =>
        have w1 := (show WT k h p ∧ WTs [] t from wr).1
        cases p with
        | con d ps =>
          cases h with
          | zero => simp [WT] at w1
          | succ h => exact ⟨h, rfl⟩
        | any => cases hnc
        | nm x => cases hnc
    obtain ⟨h, rfl⟩ := hh
    obtain ⟨l1, a, l2, el, ea, en⟩ := List.findSome?_eq_some_iff.mp e
    obtain ⟨f, _, e2⟩ := Option.map_eq_some_iff.mp ea
    simp only [List.cons.injEq, Pt.con.injEq] at e2
    have ac : a = c := Cn.s_inj e2.1.1
    subst ac
    intro c' hc' d vs hvs
    rw [el] at hc'
    have hin : c' ∈ l1 := by
      have hna : a ∉ l1 := fun hm => by
        have := en a hm
        rw [ea] at this
        cases this
      rw [List.takeWhile_append_of_pos (fun x hx => by
        have : x ≠ a := fun z => hna (by rw [← z]; exact hx)
        simp [this])] at hc'
      simpa using hc'
    have hcm : c' ∈ cases k := by rw [el]; exact List.mem_append_left _ hin
    have e1 := en c' hin
    rw [Option.map_eq_none_iff, List.append_nil] at e1
    have ih := miss_ok n (c'.args.map (fun a => (a, h)) ++ []) (opn c'.s c'.args.length rows) (by rw [Wc_app]; have := wc_args (h := h) hcm; show _ + 0 < n; omega) (fun row hr => by
      obtain ⟨row', hr', e⟩ := List.mem_filterMap.mp hr
      exact opn1_typ (w row' hr') e)
    rw [kds_args] at ih
    have e1' : miss n (opn c'.s c'.args.length rows) (c'.args ++ kds []) = none := by
      rw [show c'.args ++ kds [] = c'.args from List.append_nil _]; exact e1
    rw [e1'] at ih
    have := ih d (vs ++ []) (by rw [kds_args]; exact hvs.app rfl)
    exact (opn_any w hvs.len).mpr this
end K26

/-! ## K26C -/
/-! K26C: useful patterns. -/
namespace K26
open Ev
def VOKd : Co → List Vl → Prop
  | [], vs => vs = []
  | (k, h) :: cs, vs => ∃ v r, vs = v :: r ∧ VOK k h v ∧ VOKd cs r
theorem VOKd_app : ∀ {cs ds : Co} {vs : List Vl}, VOKd (cs ++ ds) vs → ∃ us ws, vs = us ++ ws ∧ VOKd cs us ∧ VOKd ds ws
  | [], ds, vs, h => ⟨[], vs, rfl, rfl, h⟩
  | (k, h) :: cs, ds, vs, ⟨v, r, e, h1, h2⟩ => by
    obtain ⟨us, ws, e2, g1, g2⟩ := VOKd_app h2
    exact ⟨v :: us, ws, by rw [e, e2]; rfl, ⟨v, us, rfl, h1, g1⟩, g2⟩
theorem VOKd_args : ∀ {ks : List Kd} {h : Nat} {vs : List Vl}, VOKd (ks.map fun a => (a, h)) vs → VOKs ks h vs
  | [], _, _, h => h
  | k :: ks, h, vs, ⟨v, r, e, h1, h2⟩ => ⟨v, r, e, h1, VOKd_args h2⟩
def isC (c : String) : Pt → Bool
  | .con d _ => decide (d = c)
  | _ => false
def casesOf (p : Pt) (k : Kd) : List Cn := if nc p = true then cases k else (cases k).filter fun c => isC c.s p
def useful : Nat → List (List Pt) → List Pt → List Kd → Bool
  | 0, _, _, _ => false
  | n + 1, rows, row, [] => rows.isEmpty
  | n + 1, rows, row, k :: ks =>
    if k = .int ∨ (nc (hd row) = true ∧ allNc rows = true) then useful n (rows.map List.tail) row.tail ks
    else (casesOf (hd row) k).any fun c => useful n (opn c.s c.args.length rows) ((opn1 c.s c.args.length row).getD []) (c.args ++ ks)
structure UseOk (cs : Co) (rows : List (List Pt)) (row : List Pt) (b : Bool) : Prop where
  yes : b = true → ∃ vs, VOKd cs vs ∧ mts row vs = true ∧ ∀ r ∈ rows, mts r vs = false
  no : ∀ d vs, VOKs (kds cs) d vs → mts row vs = true → (∀ r ∈ rows, mts r vs = false) → b = true
theorem tails_typ2 {k : Kd} {h : Nat} {cs : Co} {rows : List (List Pt)} (w : ∀ row ∈ rows, WTs ((k, h) :: cs) row) : ∀ row ∈ rows.map List.tail, WTs cs row := by
  intro row hr
  obtain ⟨row', hr', rfl⟩ := List.mem_map.mp hr
  have := w row' hr'
  cases row' with
  | nil => simp [WTs] at this
  | cons p t => exact (show WT k h p ∧ WTs cs t from this).2
theorem casesOf_sub {p : Pt} {k : Kd} {c : Cn} (h : c ∈ casesOf p k) : c ∈ cases k := by
  unfold casesOf at h
  split at h
  · exact h
  · exact (List.mem_filter.mp h).1
/-- the row itself is opened -/
theorem own_opn {k : Kd} {h : Nat} {cs : Co} {row : List Pt} {c : Cn} (w : WTs ((k, h) :: cs) row) (hc : c ∈ casesOf (hd row) k) : ∃ r, opn1 c.s c.args.length row = some r := by
  cases row with
  | nil => simp [WTs] at w
  | cons p t =>
    cases p with
    | any => exact ⟨_, rfl⟩
    | nm x => exact ⟨_, rfl⟩
    | con d ps =>
      have hf : c ∈ (cases k).filter fun c => isC c.s (.con d ps) := hc
      have := (List.mem_filter.mp hf).2
      have e : d = c.s := of_decide_eq_true this
      exact ⟨ps ++ t, by simp [opn1, e]⟩
/-- a value's constructor is among them -/
theorem own_case {k : Kd} {row : List Pt} {c : Cn} {us r : List Vl} (hc : c ∈ cases k) (hne : row ≠ []) (hm : mts row (.con c us :: r) = true) : c ∈ casesOf (hd row) k := by
  cases row with
  | nil => exact absurd rfl hne
  | cons p t =>
    cases p with
    | any => exact hc
    | nm x => exact hc
    | con d ps =>
      simp only [mts, mt, Bool.and_eq_true, beq_iff_eq] at hm
      show c ∈ (cases k).filter fun c => isC c.s (.con d ps)
      exact List.mem_filter.mpr ⟨hc, decide_eq_true hm.1.1⟩
theorem useful_ok : ∀ (n : Nat) (cs : Co) (rows : List (List Pt)) (row : List Pt), Wc cs < n → (∀ r ∈ rows, WTs cs r) → WTs cs row → UseOk cs rows row (useful n rows row (kds cs))
  | 0, cs, rows, row, h, _, _ => by omega
  | n + 1, [], rows, row, h, w, wr => by
    have e : row = [] := WTs_nil wr
    subst e
    show UseOk [] rows [] rows.isEmpty
    cases rows with
    | nil => exact ⟨fun _ => ⟨[], rfl, rfl, fun r hr => by cases hr⟩, fun _ _ _ _ _ => rfl⟩
    | cons r rows =>
      refine ⟨fun h => (by cases h), fun d vs hv _ hn => ?_⟩
      have := hn r List.mem_cons_self
      rw [WTs_nil (w r List.mem_cons_self)] at this
      simp [mts] at this
  | n + 1, (k, h) :: cs, rows, row, hn, w, wr => by
    have hw : wc k h + Wc cs < n + 1 := hn
    have hp := wc_pos k h
    show UseOk ((k, h) :: cs) rows row (if k = .int ∨ (nc (hd row) = true ∧ allNc rows = true) then useful n (rows.map List.tail) row.tail (kds cs)
      else (casesOf (hd row) k).any fun c => useful n (opn c.s c.args.length rows) ((opn1 c.s c.args.length row).getD []) (c.args ++ kds cs))
    by_cases hc : k = .int ∨ (nc (hd row) = true ∧ allNc rows = true)
    · rw [if_pos hc]
      have all : ∀ r ∈ rows, nc (hd r) = true := fun r hr => by
        rcases hc with rfl | hc
        · exact int_nc (w r hr)
        · exact List.all_eq_true.mp hc.2 r hr
      have own : nc (hd row) = true := by
        rcases hc with rfl | hc
        · exact int_nc wr
        · exact hc.1
      have wt : WTs cs row.tail := by
        cases row with
        | nil => simp [WTs] at wr
        | cons p t => exact (show WT k h p ∧ WTs cs t from wr).2
      have ih := useful_ok n cs (rows.map List.tail) row.tail (by omega) (tails_typ2 w) wt
      refine ⟨fun hb => ?_, fun d vs ⟨v, r, ev, h1, h2⟩ hm hno => ?_⟩
      · obtain ⟨vs, a1, a2, a3⟩ := ih.yes hb
        obtain ⟨v, hv⟩ := any_val k h
        refine ⟨v :: vs, ⟨v, vs, rfl, hv, a1⟩, by rw [mts_tail (typ_ne wr) own]; exact a2, fun r hr => ?_⟩
        rw [mts_tail (typ_ne (w r hr)) (all r hr)]
        exact a3 _ (List.mem_map.mpr ⟨r, hr, rfl⟩)
      · subst ev
        rw [mts_tail (typ_ne wr) own] at hm
        refine ih.no d r h2 hm fun r' hr' => ?_
        obtain ⟨r0, hr0, rfl⟩ := List.mem_map.mp hr'
        have := hno r0 hr0
        rw [mts_tail (typ_ne (w r0 hr0)) (all r0 hr0)] at this
        exact this
    · rw [if_neg hc]
      have hk : k ≠ .int := fun e => hc (.inl e)
      have con_h : ∀ {r : List Pt}, WTs ((k, h) :: cs) r → nc (hd r) = false → ∃ h', h = h' + 1 := fun {r} wr hnc => by
        cases r with
        | nil => cases hnc
        | cons p t =>
          have w1 := (show WT k h p ∧ WTs cs t from wr).1
          cases p with
          | con d ps =>
            cases h with
            | zero => simp [WT] at w1
            | succ h => exact ⟨h, rfl⟩
          | any => cases hnc
          | nm x => cases hnc
      have hh : ∃ h', h = h' + 1 := by
        cases e1 : nc (hd row) with
        | false => exact con_h wr e1
        | true =>
          have e2 : allNc rows = false := by
            cases e2 : allNc rows with
            | true => exact absurd (.inr ⟨e1, e2⟩) hc
            | false => rfl
          unfold allNc at e2
          rw [List.all_eq_false] at e2
          obtain ⟨r, hr, h'⟩ := e2
          exact con_h (w r hr) (by simpa using h')
      obtain ⟨h, rfl⟩ := hh
      have ih : ∀ c ∈ casesOf (hd row) k, ∃ own, opn1 c.s c.args.length row = some own ∧ UseOk (c.args.map (fun a => (a, h)) ++ cs) (opn c.s c.args.length rows) own (useful n (opn c.s c.args.length rows) ((opn1 c.s c.args.length row).getD []) (c.args ++ kds cs)) := fun c hcm => by
        obtain ⟨own, eo⟩ := own_opn wr hcm
        refine ⟨own, eo, ?_⟩
        rw [eo]
        have := useful_ok n (c.args.map (fun a => (a, h)) ++ cs) (opn c.s c.args.length rows) own (by rw [Wc_app]; have := wc_args (h := h) (casesOf_sub hcm); omega) (fun r hr => by
          obtain ⟨r', hr', e⟩ := List.mem_filterMap.mp hr
          exact opn1_typ (w r' hr') e) (opn1_typ wr eo)
        rw [kds_args] at this
        exact this
      refine ⟨fun hb => ?_, fun d vs ⟨v, r, ev, h1, h2⟩ hm hno => ?_⟩
      · obtain ⟨c, hcm, hb⟩ := List.any_eq_true.mp hb
        obtain ⟨own, eo, u⟩ := ih c hcm
        obtain ⟨vs, a1, a2, a3⟩ := u.yes hb
        obtain ⟨us, ws, rfl, b1, b2⟩ := VOKd_app a1
        have hus := VOKd_args b1
        have hv := VOK.of (c := c) hus
        rw [mem_cases.mp (casesOf_sub hcm)] at hv
        refine ⟨.con c us :: ws, ⟨_, ws, rfl, hv, b2⟩, ?_, fun r hr => ?_⟩
        · rw [opn1_mt wr hus.len, eo]
          exact a2
        · cases hx : mts r (.con c us :: ws) with
          | false => rfl
          | true =>
            obtain ⟨r', hr', hm'⟩ := (opn_any w hus.len).mp ⟨r, hr, hx⟩
            rw [a3 r' hr'] at hm'
            cases hm'
      · subst ev
        obtain ⟨c, us, rfl, hcm, hus⟩ := h1.con hk
        have hcm := own_case hcm (typ_ne wr) hm
        obtain ⟨own, eo, u⟩ := ih c hcm
        refine List.any_eq_true.mpr ⟨c, hcm, u.no d (us ++ r) (by rw [kds_args]; exact hus.app h2) ?_ fun r' hr' => ?_⟩
        · rw [opn1_mt wr hus.len, eo] at hm
          exact hm
        · cases hx : mts r' (us ++ r) with
          | false => rfl
          | true =>
            obtain ⟨r0, hr0, hm0⟩ := (opn_any w hus.len).mpr ⟨r', hr', hx⟩
            rw [hno r0 hr0] at hm0
            cases hm0
end K26

/-! ## K26D -/
/-! K26D: terms; the world. -/
namespace K26
open Ev
def Kd.s : Kd → String
  | .shape => "shape" | .color => "color" | .odd => "odd" | .int => "int"
def kD : Kd → D
  | .int => .tup [.str "int"]
  | k => .tup [.str "data", .str k.s]
def kDs (ks : List Kd) : List D := ks.map kD
def cD (c : Cn) : D := .tup [.str c.s, .tup (kDs c.args)]
def W : List (D × D) := [(.str "color", .tup ((cases .color).map cD)), (.str "shape", .tup ((cases .shape).map cD)), (.str "odd", .tup ((cases .odd).map cD))]
mutual
def pD : Pt → D
  | .any => .tup [.str "any"]
  | .nm x => .tup [.str "name", .str x]
  | .con c ps => .tup [.str "con", .str c, .tup (pDs ps)]
def pDs : List Pt → List D
  | [] => []
  | p :: ps => pD p :: pDs ps
end
mutual
def vD : Vl → D
  | .other => .tup [.str "other"]
  | .con c vs => .tup [.str "con", .str c.s, .tup (vDs vs)]
def vDs : List Vl → List D
  | [] => []
  | v :: vs => vD v :: vDs vs
end
def wD (w u : Nat) : D := .tup [.ref w, .ref u]
theorem set_self {A : AH} {a : Nat} {o : AO} (h : A[a]? = some o) : A.set a o = A := by
  apply List.ext_getElem?
  intro i
  by_cases e : a = i
  · subst e
    rw [set_at h, h]
  · rw [List.getElem?_set_ne e]
theorem lock_W {A : AH} {w : Nat} {kvs : List (D × D)} (h : A[w]? = some (.dct kvs)) : lockA A (some w) = A.set w (.lk kvs) ∧ unlockA (A.set w (.lk kvs)) (some w) = A := by
  refine ⟨by simp only [lockA, h], ?_⟩
  simp only [unlockA, set_at h, List.set_set]
  exact set_self h
def wks (kvs : List (D × D)) : List D := kvs.map (·.1)
theorem wk_W {A : AH} {w : Nat} {kvs : List (D × D)} (h : A[w]? = some (.dct kvs)) : wkOf A (.ref w) = some ⟨wks kvs, [(w, .lk kvs)], some w⟩ := by
  simp only [wkOf, h]
  rfl
section
variable {N n : Nat} {A : AH} {w u : Nat}
theorem lk_get {A : AH} {w : Nat} {kvs : List (D × D)} {k : D} (h : A[w]? = some (.lk kvs)) (hk : keyOk k = true) : opI A (.ref w) k = dget kvs k := by
  simp [opI, dctL, h, hk]
/-- what constructor tells -/
def conD : String → D
  | "Red" => .tup [.str "color", .tup []]
  | "Blue" => .tup [.str "color", .tup []]
  | "Dot" => .tup [.str "shape", .tup []]
  | "Line" => .tup [.str "shape", .tup (kDs [.color])]
  | "Box" => .tup [.str "shape", .tup (kDs [.color, .shape])]
  | "Odd" => .tup [.str "odd", .tup (kDs [.int, .color])]
  | _ => .non
def tyS (s : String) : String := match conD s with
  | .tup [.str t, _] => t
  | _ => ""
theorem con_spec (hw : A[w]? = some (.dct W)) {s : String} (hs : s = "No" ∨ ∃ c : Cn, s = c.s) : wR (callF pg N (n + 1) "constructor" [wD w u, .str s] A) (fun r A' => r = conD s ∧ A' = A) := by
  rw [wR_call (fd := fn_4) rfl rfl]
  show wS (sx _ N (.seq (.for (.nm 2) (.wk (.ix (.var 0) (.int 0))) (.seq (.for (.tu (.cons (.nm 3) (.cons (.nm 4) .nil))) (.wk (.ix (.ix (.var 0) (.int 0)) (.var 2))) _) .skip)) _) [some (wD w u), some (.str s), none, none, none] A) _ _ _ _
  rw [wS_seq, wS_for, wR_wk, wR_tix (x := .ref w) rfl rfl, wk_W hw, wR_some]
  dsimp only
  rw [(lock_W hw).1]
  apply wS_unl
  have hl : (A.set w (.lk W))[w]? = some (.lk W) := set_at hw
  have hu := (lock_W hw).2
  generalize A.set w (.lk W) = B at hl hu
  have hg : gOk B [(w, .lk W)] = true := by simp [gOk, hl]
  have step : ∀ (k v : D) (a b c : Option D) {Pn Pb Pc : Fr → AH → Prop} {Pr : D → AH → Prop}, dget W k = some v → keyOk k = true →
      (∃ items, wkOf B v = some ⟨items, [], none⟩ ∧ wS (forL (asgT (.tu (.cons (.nm 3) (.cons (.nm 4) .nil)))) [] (fun F' A' => sx (callF pg N n) N (.seq (.ite (.cmp .eq (.var 3) (.var 1)) (.seq (.ret (.tup (.cons (.var 2) (.cons (.var 4) .nil)))) .skip) .skip) .skip) F' A') items [some (wD w u), some (.str s), some k, b, c] B) Pn Pb Pc Pr) →
      wS (sx (callF pg N n) N (.seq (.for (.tu (.cons (.nm 3) (.cons (.nm 4) .nil))) (.wk (.ix (.ix (.var 0) (.int 0)) (.var 2))) (.seq (.ite (.cmp .eq (.var 3) (.var 1)) (.seq (.ret (.tup (.cons (.var 2) (.cons (.var 4) .nil)))) .skip) .skip) .skip)) .skip) [some (wD w u), some (.str s), some k, b, c] B) Pn Pb Pc Pr := by
    intro k v a b c Pn Pb Pc Pr h1 hk ⟨items, h2, h3⟩
    rw [wS_seq, wS_for, wR_wk, wR_ix, wR_tix (x := .ref w) rfl rfl, wR_v2, lk_get hl hk, h1, wR_some, h2, wR_some]
    dsimp only
    exact h3.mono (fun F A h => by rw [wS_skip]; exact h) (fun _ _ h => h) (fun _ _ h => h) (fun _ _ h => h)
  have none' : ∀ (k : D) (items : List D) (b c : Option D) {Pn Pb Pc : Fr → AH → Prop} {Pr : D → AH → Prop}, (∃ b' c', forL (asgT (.tu (.cons (.nm 3) (.cons (.nm 4) .nil)))) [] (fun F' A' => sx (callF pg N n) N (.seq (.ite (.cmp .eq (.var 3) (.var 1)) (.seq (.ret (.tup (.cons (.var 2) (.cons (.var 4) .nil)))) .skip) .skip) .skip) F' A') items [some (wD w u), some (.str s), some k, b, c] B = .nx [some (wD w u), some (.str s), some k, b', c'] B) → (∀ b' c', Pn [some (wD w u), some (.str s), some k, b', c'] B) →
      wS (forL (asgT (.tu (.cons (.nm 3) (.cons (.nm 4) .nil)))) [] (fun F' A' => sx (callF pg N n) N (.seq (.ite (.cmp .eq (.var 3) (.var 1)) (.seq (.ret (.tup (.cons (.var 2) (.cons (.var 4) .nil)))) .skip) .skip) .skip) F' A') items [some (wD w u), some (.str s), some k, b, c] B) Pn Pb Pc Pr := by
    intro k items b c Pn Pb Pc Pr ⟨b', c', e⟩ h
    rw [e, wS_nx]
    exact h b' c'
  have hm : s = "No" ∨ s = "Red" ∨ s = "Blue" ∨ s = "Dot" ∨ s = "Line" ∨ s = "Box" ∨ s = "Odd" := by
    rcases hs with rfl | ⟨c, rfl⟩
    · exact .inl rfl
    · cases c <;> simp [Cn.s]
  have st : ∀ (k : Kd) (a b c : Option D) {Pn Pb Pc : Fr → AH → Prop} {Pr : D → AH → Prop}, k ≠ .int → (tyS s = k.s → Pr (conD s) B) → (tyS s ≠ k.s → ∀ b' c', Pn [some (wD w u), some (.str s), some (.str k.s), b', c'] B) →
      wS (sx (callF pg N n) N (.seq (.for (.tu (.cons (.nm 3) (.cons (.nm 4) .nil))) (.wk (.ix (.ix (.var 0) (.int 0)) (.var 2))) (.seq (.ite (.cmp .eq (.var 3) (.var 1)) (.seq (.ret (.tup (.cons (.var 2) (.cons (.var 4) .nil)))) .skip) .skip) .skip)) .skip) [some (wD w u), some (.str s), some (.str k.s), b, c] B) Pn Pb Pc Pr := by
    intro k a b c Pn Pb Pc Pr hk h1 h2
    cases k with
    | int => exact absurd rfl hk
    | color =>
      apply step (.str "color") (.tup ((cases .color).map cD)) none b c rfl rfl
      refine ⟨_, rfl, ?_⟩
      rcases hm with rfl | rfl | rfl | rfl | rfl | rfl | rfl
      all_goals first
        | exact wS_of_eq (by kernel_rfl) (h1 rfl)
        | exact none' _ _ _ _ ⟨some (.str "Blue"), some (.tup []), by kernel_rfl⟩ (h2 (by decide))
    | shape =>
      apply step (.str "shape") (.tup ((cases .shape).map cD)) none b c rfl rfl
      refine ⟨_, rfl, ?_⟩
      rcases hm with rfl | rfl | rfl | rfl | rfl | rfl | rfl
      all_goals first
        | exact wS_of_eq (by kernel_rfl) (h1 rfl)
        | exact none' _ _ _ _ ⟨some (.str "Box"), some (.tup (kDs [.color, .shape])), by kernel_rfl⟩ (h2 (by decide))
    | odd =>
      apply step (.str "odd") (.tup ((cases .odd).map cD)) none b c rfl rfl
      refine ⟨_, rfl, ?_⟩
      rcases hm with rfl | rfl | rfl | rfl | rfl | rfl | rfl
      all_goals first
        | exact wS_of_eq (by kernel_rfl) (h1 rfl)
        | exact none' _ _ _ _ ⟨some (.str "Odd"), some (.tup (kDs [.int, .color])), by kernel_rfl⟩ (h2 (by decide))
  show wS (forL _ _ _ [.str "color", .str "shape", .str "odd"] _ B) _ _ _ _
  refine forS_cons (F' := [some (wD w u), some (.str s), some (.str "color"), none, none]) hg rfl ?_
  apply st .color none _ _ (by decide)
  · intro _
    exact ⟨rfl, hu⟩
  intro n1 b1 c1
  refine forS_cons (F' := [some (wD w u), some (.str s), some (.str "shape"), b1, c1]) hg rfl ?_
  apply st .shape none _ _ (by decide)
  · intro _
    exact ⟨rfl, hu⟩
  intro n2 b2 c2
  refine forS_cons (F' := [some (wD w u), some (.str s), some (.str "odd"), b2, c2]) hg rfl ?_
  apply st .odd none _ _ (by decide)
  · intro _
    exact ⟨rfl, hu⟩
  intro n3 b3 c3
  apply forS_nil hg
  rw [hu, wS_seq, wS_ret, wR_non]
  refine ⟨?_, rfl⟩
  rcases hm with rfl | rfl | rfl | rfl | rfl | rfl | rfl
  · rfl
  · exact absurd rfl n1
  · exact absurd rfl n1
  · exact absurd rfl n2
  · exact absurd rfl n2
  · exact absurd rfl n2
  · exact absurd rfl n3
theorem con_of (hw : A[w]? = some (.dct W)) (c : Cn) : callF pg N (n + 1) "constructor" [wD w u, .str c.s] A = .ok (.tup [.str c.typ.s, .tup (kDs c.args)]) A := by
  obtain ⟨a, A', e, e1, e2⟩ := eq_of_wR (con_spec (N := N) (n := n) (u := u) hw (.inr ⟨c, rfl⟩))
  rw [e, e1, e2]
  cases c <;> rfl
theorem con_no (hw : A[w]? = some (.dct W)) : callF pg N (n + 1) "constructor" [wD w u, .str "No"] A = .ok .non A := by
  obtain ⟨a, A', e, e1, e2⟩ := eq_of_wR (con_spec (N := N) (n := n) (u := u) hw (.inl rfl))
  rw [e, e1, e2]
  rfl
/-- constructors(world, name) -/
theorem cons_of (hw : A[w]? = some (.dct W)) {k : Kd} (hk : k ≠ .int) : callF pg N (n + 1) "constructors" [wD w u, .str k.s] A = .ok (.ref A.length) (A ++ [.lst ((cases k).map fun c => .tup [.str c.s, .int c.args.length])]) := by
  have : wR (callF pg N (n + 1) "constructors" [wD w u, .str k.s] A) (fun r A' => r = .ref A.length ∧ A' = A ++ [.lst ((cases k).map fun c => .tup [.str c.s, .int c.args.length])]) := by
    rw [wR_call (fd := fn_5) rfl rfl]
    show wS (sx _ N (.seq (.ret (.lc _ (.wk (.ix (.ix (.var 0) (.int 0)) (.var 1))) .nil _ _)) .skip) [some (wD w u), some (.str k.s), none, none] A) _ _ _ _
    rw [wS_seq, wS_ret]
    have get : ev (callF pg N n) (.ix (.ix (.var 0) (.int 0)) (.var 1)) [some (wD w u), some (.str k.s), none, none] A = .ok (.tup ((cases k).map cD)) A := by
      apply ev_eq
      rw [wR_ix, wR_tix (x := .ref w) rfl rfl, wR_v1, dct_get hw rfl]
      cases k with
      | int => exact absurd rfl hk
      | color => exact wR_some.mpr ⟨rfl, rfl⟩
      | shape => exact wR_some.mpr ⟨rfl, rfl⟩
      | odd => exact wR_some.mpr ⟨rfl, rfl⟩
    apply lc_pure (fun d => match d with
      | .tup [a, .tup ks] => some (.tup [a, .int ks.length])
      | _ => none) get (items := (cases k).map cD) (g := []) rfl rfl (by cases k <;> decide)
    · intro x hx
      obtain ⟨c, _, rfl⟩ := List.mem_map.mp hx
      refine ⟨[some (wD w u), some (.str k.s), some (.str c.s), some (.tup (kDs c.args))], rfl, ?_⟩
      cases c <;> kernel_rfl
    · refine ⟨rfl, ?_⟩
      cases k with
      | int => exact absurd rfl hk
      | color => rfl
      | shape => rfl
      | odd => rfl
  obtain ⟨a, A', e, e1, e2⟩ := eq_of_wR this
  rw [e, e1, e2]
/-- _law_world() -/
theorem world_of : callF pg N (n + 1) "_law_world" [] A = .ok (wD A.length (A.length + 1)) (A ++ [.dct W, .dct []]) := by
  have e : callF pg N (n + 1) "_law_world" [] A = .ok (.tup [.ref A.length, .ref (A ++ [AO.dct W]).length]) ((A ++ [AO.dct W]) ++ [.dct []]) := by kernel_rfl
  rw [e, List.append_assoc, List.length_append]
  rfl
end
end K26

/-! ## K26E -/
/-! K26E: matched, _law_match. -/
namespace K26
open Ev
mutual
/-- what the one name stands for -/
def matx : Pt → Vl → Option (Option Vl)
  | .any, _ => some none
  | .nm _, v => some (some v)
  | .con _ _, .other => none
  | .con c ps, .con d vs => if c = d.s then matsx ps vs none else none
def matsx : List Pt → List Vl → Option Vl → Option (Option Vl)
  | [], _, a => some a
  | _ :: _, [], a => some a
  | p :: ps, v :: vs, a => match matx p v with
    | none => none
    | some b => matsx ps vs (b <|> a)
end
mutual
theorem matx_mt : ∀ (p : Pt) (v : Vl), (matx p v).isSome = mt p v
  | .any, _ => by simp [matx, mt]
  | .nm _, v => by simp [matx, mt]
  | .con _ _, .other => by simp [matx, mt]
  | .con c ps, .con d vs => by
    unfold matx mt
    by_cases h : c = d.s
    · rw [if_pos h, matsx_mts ps vs none]; simp [h]
    · rw [if_neg h]; simp [h]
theorem matsx_mts : ∀ (ps : List Pt) (vs : List Vl) (a : Option Vl), (matsx ps vs a).isSome = mts ps vs
  | [], _, a => by simp [matsx, mts]
  | _ :: _, [], a => by simp [matsx, mts]
  | p :: ps, v :: vs, a => by
    have := matx_mt p v
    unfold matsx mts
    cases e : matx p v with
    | none => rw [e] at this; simp [← this]
    | some b => rw [e] at this; simp [← this, matsx_mts ps vs]
end
mutual
/-- all names are x -/
def nmx : Pt → Bool
  | .any => true
  | .nm x => x == "x"
  | .con _ ps => nmxs ps
def nmxs : List Pt → Bool
  | [] => true
  | p :: ps => nmx p && nmxs ps
end
mutual
def ph : Pt → Nat
  | .any => 0
  | .nm _ => 0
  | .con _ ps => phs ps + 1
def phs : List Pt → Nat
  | [] => 0
  | p :: ps => max (ph p) (phs ps)
end
def xd : Option Vl → List (D × D)
  | none => []
  | some v => [(.str "x", vD v)]
theorem xd_merge (a b : Option Vl) : dmerge (xd a) (xd b) = xd (b <|> a) := by cases a <;> cases b <;> rfl
theorem xd_len (a : Option Vl) : (xd a).length ≤ 1 := by cases a <;> simp [xd]
def MR (A A' : AH) (o : Option (Option Vl)) (r : D) : Prop := Kp A A' ∧ match o with
  | none => r = .non
  | some o => ∃ a, r = .ref a ∧ A[a]? = none ∧ A'[a]? = some (.dct (xd o))
section
variable {N : Nat}
def MS (N : Nat) (f : String) (p : Pt) (n : Nat) : Prop := ∀ (v : Vl) (A : AH), wR (callF pg N n f [pD p, vD v] A) (fun r A' => MR A A' (matx p v) r)
theorem update_x {A : AH} {a b : Nat} {o q : Option Vl} (h1 : A[a]? = some (.dct (xd o))) (h2 : A[b]? = some (.dct (xd q))) (hn : b ≠ a) : mtF A true "update" (.ref a) [.ref b] = .ok .non (A.set a (.dct (xd (q <|> o)))) := by
  show mtUpdate A a [.ref b] = _
  have : (xd o).length + (xd q).length ≤ PySem.sizeLine := by
    have := xd_len o
    have := xd_len q
    rw [ev_sz]; omega
  simp only [mtUpdate, if_neg hn, h1, h2, if_pos this, xd_merge]
theorem mkM_x {A : AH} {a : Nat} {o : Option Vl} (h : A[a]? = some (.dct (xd o))) : mkM A "update" (.ref a) = some true := by
  have : mkD A (.ref a) = some true := by simp [mkD, h]
  have h2 : (mtG true "update").isSome = true := rfl
  simp only [mkM, this, if_pos h2]
abbrev mBody : Sm := .seq (.set 5 (.call "matched" (.cons (.var 3) (.cons (.var 4) .nil)))) (.seq (.ite (.cmp .is (.var 5) .non) (.seq (.ret .non) .skip) .skip) (.seq (.ex (.mth "update" (.var 2) (.cons (.var 5) .nil))) .skip))
theorem is_non {A : AH} : opC A .is .non .non = some true := rfl
theorem is_ref {A : AH} {a : Nat} : opC A .is (.ref a) .non = some false := rfl
theorem mloop {n : Nat} {p0 v0 : D} {b : Nat} {A0 : AH} {Pn Pb Pc : Fr → AH → Prop} {Pr : D → AH → Prop} : ∀ (ps : List Pt) (vs : List Vl) (a : Option Vl) (A : AH) (x3 x4 x5 : Option D), (∀ p ∈ ps, MS N "matched" p n) → Kp A0 A → A0[b]? = none → A[b]? = some (.dct (xd a)) →
    (match matsx ps vs a with
      | none => ∀ A', Kp A0 A' → Pr .non A'
      | some o => ∀ A' y3 y4 y5, Kp A0 A' → A'[b]? = some (.dct (xd o)) → Pn [some p0, some v0, some (.ref b), y3, y4, y5] A') →
    wS (forL (asgT (.tu (.cons (.nm 3) (.cons (.nm 4) .nil)))) [] (fun F' A' => sx (callF pg N n) N mBody F' A') (zipD (pDs ps) (vDs vs)) [some p0, some v0, some (.ref b), x3, x4, x5] A) Pn Pb Pc Pr
  | [], vs, a, A, x3, x4, x5, _, k, hb, ha, h => by
    apply forS_nil rfl
    unfold matsx at h
    exact h A x3 x4 x5 k ha
  | p :: ps, [], a, A, x3, x4, x5, _, k, hb, ha, h => by
    apply forS_nil rfl
    unfold matsx at h
    exact h A x3 x4 x5 k ha
  | p :: ps, v :: vs, a, A, x3, x4, x5, ih, k, hb, ha, h => by
    show wS (forL _ _ _ (.tup [pD p, vD v] :: zipD (pDs ps) (vDs vs)) _ _) _ _ _ _
    refine forS_cons (F' := [some p0, some v0, some (.ref b), some (pD p), some (vD v), x5]) rfl rfl ?_
    rw [wS_seq, wS_set, wR_cl, wR_cons, wR_v3, wR_cons, wR_v4, wR_nil]
    refine (ih p List.mem_cons_self v A).mono fun r A' ⟨k1, hr⟩ => ?_
    show wS (sx _ N (.seq (.ite (.cmp .is (.var 5) .non) _ .skip) _) [some p0, some v0, some (.ref b), some (pD p), some (vD v), some r] A') _ _ _ _
    rw [wS_seq, wS_ite, wR_tru, wR_cmp, wR_v5, wR_non]
    unfold matsx at h
    cases e : matx p v with
    | none =>
      rw [e] at h hr
      dsimp only at h hr
      subst hr
      rw [is_non]
      show wR (ofO (some (D.bl true)) A') _
      rw [wR_some, truth_bl, wR_some, if_pos rfl, wS_seq, wS_ret, wR_non]
      exact h A' (k.trans k1)
    | some q =>
      rw [e] at h hr
      dsimp only at h hr
      obtain ⟨c, rfl, hc, hc'⟩ := hr
      have hne : c ≠ b := fun z => by
        rw [z] at hc
        rw [hc] at ha
        cases ha
      have ha' := k1 _ _ ha
      rw [is_ref]
      show wR (ofO (some (D.bl false)) A') _
      rw [wR_some, truth_bl, wR_some, if_neg (by decide), wS_skip, wS_seq, wS_ex, wR_mth, wR_v2, mkM_x ha', wR_some, wR_cons, wR_v5, wR_nil, update_x ha' hc' hne, wR_ok, wS_skip]
      exact mloop ps vs (q <|> a) _ _ _ _ (fun p hp => ih p (List.mem_cons_of_mem _ hp)) ((k.trans k1).set hb) hb (set_at ha') h
theorem mem_phs {p : Pt} : ∀ {ps : List Pt}, p ∈ ps → ph p ≤ phs ps
  | q :: ps, h => by
    unfold phs
    rcases List.mem_cons.mp h with rfl | h
    · omega
    · have := mem_phs h; omega
theorem nmx_mem {p : Pt} : ∀ {ps : List Pt}, nmxs ps = true → p ∈ ps → nmx p = true
  | q :: ps, h, hp => by
    unfold nmxs at h
    rw [Bool.and_eq_true] at h
    rcases List.mem_cons.mp hp with rfl | hp
    · exact h.1
    · exact nmx_mem h.2 hp
theorem vnew {A : AH} {v : Vl} {o : Option Vl} : MR A (A ++ [.dct (xd o)]) (some o) (.ref A.length) := ⟨Kp.refl.app, A.length, rfl, new_none, new_at⟩
theorem matched_spec : ∀ (n : Nat) (p : Pt), ph p < n → nmx p = true → MS N "matched" p n
  | 0, p, h, _ => by omega
  | n + 1, .any, h, _ => fun v A => by
    refine wR_eq (a := .ref A.length) (A := A ++ [.dct (xd none)]) (by kernel_rfl) ?_
    unfold matx
    exact vnew (v := .other)
  | n + 1, .nm x, h, hx => fun v A => by
    have : x = "x" := by simpa [nmx] using hx
    subst this
    refine wR_eq (a := .ref A.length) (A := A ++ [.dct (xd (some v))]) (by kernel_rfl) ?_
    unfold matx
    exact vnew (v := .other)
  | n + 1, .con c ps, h, hx => fun v A => by
    have h : phs ps + 1 < n + 1 := h
    cases v with
    | other =>
      refine wR_eq (a := .non) (A := A) (by kernel_rfl) ?_
      unfold matx
      exact ⟨.refl, rfl⟩
    | con d vs =>
      rw [wR_call (fd := fn_9) rfl rfl]
      have e1 : sx (callF pg N n) N fn_9.body [some (pD (.con c ps)), some (vD (.con d vs)), none, none, none, none] A = sx (callF pg N n) N (drp 2 fn_9.body) [some (pD (.con c ps)), some (vD (.con d vs)), none, none, none, none] A := by kernel_rfl
      show wS (sx _ N fn_9.body [some (pD (.con c ps)), some (vD (.con d vs)), none, none, none, none] A) _ _ _ _
      rw [e1]
      show wS (sx _ N (.seq (.ite (.or (.cmp .ne (.ix (.var 1) (.int 0)) (.str "con")) (.cmp .ne (.ix (.var 1) (.int 1)) (.ix (.var 0) (.int 1)))) _ .skip) _) _ A) _ _ _ _
      have ne_str : ∀ {x y : String}, opC A .ne (.str x) (.str y) = some (!decide (x = y)) := fun {x y} => by
        have := eq_str (A := A) (x := x) (y := y)
        show (opC A .eq (.str x) (.str y)).map (!·) = _
        rw [this]; rfl
      rw [wS_seq, wS_ite, wR_tru, wR_or, wR_cmp, wR_tix (x := .str "con") rfl rfl, wR_str, ne_str]
      show wR (ofO (some (D.bl false)) A) _
      rw [wR_some, truth_bl, wR_some, if_neg (by decide), wR_cmp, wR_tix (x := .str d.s) rfl rfl, wR_tix (x := .str c) rfl rfl, ne_str]
      show wR (ofO (some (D.bl (!decide (d.s = c)))) A) _
      rw [wR_some, truth_bl, wR_some]
      unfold matx
      by_cases hc : c = d.s
      · subst hc
        rw [if_neg (by simp), if_pos rfl, wS_skip]
        show wS (sx _ N (.seq (.set 2 (.dct .nil)) (.seq (.for (.tu (.cons (.nm 3) (.cons (.nm 4) .nil))) (.zip (.ix (.var 0) (.int 2)) (.ix (.var 1) (.int 2))) mBody) (.seq (.ret (.var 2)) .skip))) _ A) _ _ _ _
        rw [wS_seq, wS_set]
        refine wR_eq (a := .ref A.length) (A := A ++ [.dct (xd none)]) (by kernel_rfl) ?_
        show wS (sx _ N (.seq (.for (.tu (.cons (.nm 3) (.cons (.nm 4) .nil))) (.zip (.ix (.var 0) (.int 2)) (.ix (.var 1) (.int 2))) mBody) (.seq (.ret (.var 2)) .skip)) [some (pD (.con d.s ps)), some (vD (.con d vs)), some (.ref A.length), none, none, none] (A ++ [.dct (xd none)])) _ _ _ _
        rw [wS_seq, wS_for]
        refine wR_eq (a := ⟨zipD (pDs ps) (vDs vs), [], none⟩) (A := A ++ [.dct (xd none)]) (by kernel_rfl) ?_
        dsimp only
        refine mloop (A0 := A) ps vs none _ _ _ _ (fun p hp => matched_spec n p (by have := mem_phs hp; omega) (nmx_mem hx hp)) Kp.refl.app new_none new_at ?_
        cases e : matsx ps vs none with
        | none => exact fun A' k => ⟨k, rfl⟩
        | some o =>
          intro A' y3 y4 y5 k hb
          rw [wS_seq, wS_ret, wR_v2]
          exact ⟨k, A.length, rfl, new_none, hb⟩
      · rw [if_pos (by simp; exact fun z => hc z.symm), if_neg hc, wS_seq, wS_ret, wR_non]
        exact ⟨.refl, rfl⟩
end
end K26

/-! ## K26F -/
/-! K26F: _law_match, first_match. -/
namespace K26
open Ev
section
variable {N : Nat}
abbrev lBody : Sm := .seq (.set 5 (.call "_law_match" (.cons (.var 3) (.cons (.var 4) .nil)))) (.seq (.ite (.or (.cmp .is (.var 5) .non) (.cmp .is (.var 2) .non)) (.seq (.set 2 .non) .skip) (.seq (.ex (.mth "update" (.var 2) (.cons (.var 5) .nil))) .skip)) .skip)
/-- once it is none -/
theorem lloop0 {n : Nat} {p0 v0 : D} {A0 : AH} {Pn Pb Pc : Fr → AH → Prop} {Pr : D → AH → Prop} : ∀ (ps : List Pt) (vs : List Vl) (A : AH) (x3 x4 x5 : Option D), (∀ p ∈ ps, MS N "_law_match" p n) → Kp A0 A →
    (∀ A' y3 y4 y5, Kp A0 A' → Pn [some p0, some v0, some .non, y3, y4, y5] A') →
    wS (forL (asgT (.tu (.cons (.nm 3) (.cons (.nm 4) .nil)))) [] (fun F' A' => sx (callF pg N n) N lBody F' A') (zipD (pDs ps) (vDs vs)) [some p0, some v0, some .non, x3, x4, x5] A) Pn Pb Pc Pr
  | [], vs, A, x3, x4, x5, _, k, h => by
    apply forS_nil rfl
    exact h A x3 x4 x5 k
  | p :: ps, [], A, x3, x4, x5, _, k, h => by
    apply forS_nil rfl
    exact h A x3 x4 x5 k
  | p :: ps, v :: vs, A, x3, x4, x5, ih, k, h => by
    show wS (forL _ _ _ (.tup [pD p, vD v] :: zipD (pDs ps) (vDs vs)) _ _) _ _ _ _
    refine forS_cons (F' := [some p0, some v0, some .non, some (pD p), some (vD v), x5]) rfl rfl ?_
    rw [wS_seq, wS_set, wR_cl, wR_cons, wR_v3, wR_cons, wR_v4, wR_nil]
    refine (ih p List.mem_cons_self v A).mono fun r A' ⟨k1, hr⟩ => ?_
    show wS (sx _ N (.seq (.ite (.or (.cmp .is (.var 5) .non) (.cmp .is (.var 2) .non)) _ _) _) [some p0, some v0, some .non, some (pD p), some (vD v), some r] A') _ _ _ _
    have go : wS (sx (callF pg N n) N (.seq (.set 2 .non) .skip) [some p0, some v0, some .non, some (pD p), some (vD v), some r] A') (fun F A => wS (sx (callF pg N n) N .skip F A) (fun F A => wS (forL (asgT (.tu (.cons (.nm 3) (.cons (.nm 4) .nil)))) [] (fun F' A' => sx (callF pg N n) N lBody F' A') (zipD (pDs ps) (vDs vs)) F A) Pn Pb Pc Pr) Pn (fun F A => wS (forL (asgT (.tu (.cons (.nm 3) (.cons (.nm 4) .nil)))) [] (fun F' A' => sx (callF pg N n) N lBody F' A') (zipD (pDs ps) (vDs vs)) F A) Pn Pb Pc Pr) Pr) Pn (fun F A => wS (forL (asgT (.tu (.cons (.nm 3) (.cons (.nm 4) .nil)))) [] (fun F' A' => sx (callF pg N n) N lBody F' A') (zipD (pDs ps) (vDs vs)) F A) Pn Pb Pc Pr) Pr := by
      rw [wS_seq, wS_set, wR_non, wS_skip, wS_skip]
      exact lloop0 ps vs _ _ _ _ (fun p hp => ih p (List.mem_cons_of_mem _ hp)) (k.trans k1) h
    rw [wS_seq, wS_ite, wR_tru, wR_or, wR_cmp, wR_v5, wR_non]
    cases e : matx p v with
    | none =>
      rw [e] at hr
      dsimp only at hr
      subst hr
      rw [is_non]
      show wR (ofO (some (D.bl true)) A') _
      rw [wR_some, truth_bl, wR_some, if_pos rfl, truth_bl, wR_some, if_pos rfl]
      exact go
    | some q =>
      rw [e] at hr
      dsimp only at hr
      obtain ⟨c, rfl, hc, hc'⟩ := hr
      rw [is_ref]
      show wR (ofO (some (D.bl false)) A') _
      rw [wR_some, truth_bl, wR_some, if_neg (by decide), wR_cmp, wR_v2, wR_non, is_non]
      show wR (ofO (some (D.bl true)) A') _
      rw [wR_some, truth_bl, wR_some, if_pos rfl]
      exact go
theorem lloop {n : Nat} {p0 v0 : D} {b : Nat} {A0 : AH} {Pn Pb Pc : Fr → AH → Prop} {Pr : D → AH → Prop} : ∀ (ps : List Pt) (vs : List Vl) (a : Option Vl) (A : AH) (x3 x4 x5 : Option D), (∀ p ∈ ps, MS N "_law_match" p n) → Kp A0 A → A0[b]? = none → A[b]? = some (.dct (xd a)) →
    (match matsx ps vs a with
      | none => ∀ A' y3 y4 y5, Kp A0 A' → Pn [some p0, some v0, some .non, y3, y4, y5] A'
      | some o => ∀ A' y3 y4 y5, Kp A0 A' → A'[b]? = some (.dct (xd o)) → Pn [some p0, some v0, some (.ref b), y3, y4, y5] A') →
    wS (forL (asgT (.tu (.cons (.nm 3) (.cons (.nm 4) .nil)))) [] (fun F' A' => sx (callF pg N n) N lBody F' A') (zipD (pDs ps) (vDs vs)) [some p0, some v0, some (.ref b), x3, x4, x5] A) Pn Pb Pc Pr
  | [], vs, a, A, x3, x4, x5, _, k, hb, ha, h => by
    apply forS_nil rfl
    unfold matsx at h
    exact h A x3 x4 x5 k ha
  | p :: ps, [], a, A, x3, x4, x5, _, k, hb, ha, h => by
    apply forS_nil rfl
    unfold matsx at h
    exact h A x3 x4 x5 k ha
  | p :: ps, v :: vs, a, A, x3, x4, x5, ih, k, hb, ha, h => by
    show wS (forL _ _ _ (.tup [pD p, vD v] :: zipD (pDs ps) (vDs vs)) _ _) _ _ _ _
    refine forS_cons (F' := [some p0, some v0, some (.ref b), some (pD p), some (vD v), x5]) rfl rfl ?_
    rw [wS_seq, wS_set, wR_cl, wR_cons, wR_v3, wR_cons, wR_v4, wR_nil]
    refine (ih p List.mem_cons_self v A).mono fun r A' ⟨k1, hr⟩ => ?_
    show wS (sx _ N (.seq (.ite (.or (.cmp .is (.var 5) .non) (.cmp .is (.var 2) .non)) _ _) _) [some p0, some v0, some (.ref b), some (pD p), some (vD v), some r] A') _ _ _ _
    rw [wS_seq, wS_ite, wR_tru, wR_or, wR_cmp, wR_v5, wR_non]
    unfold matsx at h
    cases e : matx p v with
    | none =>
      rw [e] at h hr
      dsimp only at h hr
      subst hr
      rw [is_non]
      show wR (ofO (some (D.bl true)) A') _
      rw [wR_some, truth_bl, wR_some, if_pos rfl, truth_bl, wR_some, if_pos rfl, wS_seq, wS_set, wR_non, wS_skip, wS_skip]
      exact lloop0 ps vs _ _ _ _ (fun p hp => ih p (List.mem_cons_of_mem _ hp)) (k.trans k1) h
    | some q =>
      rw [e] at h hr
      dsimp only at h hr
      obtain ⟨c, rfl, hc, hc'⟩ := hr
      have hne : c ≠ b := fun z => by
        rw [z] at hc
        rw [hc] at ha
        cases ha
      have ha' := k1 _ _ ha
      rw [is_ref]
      show wR (ofO (some (D.bl false)) A') _
      rw [wR_some, truth_bl, wR_some, if_neg (by decide), wR_cmp, wR_v2, wR_non, is_ref]
      show wR (ofO (some (D.bl false)) A') _
      rw [wR_some, truth_bl, wR_some, if_neg (by decide), wS_seq, wS_ex, wR_mth, wR_v2, mkM_x ha', wR_some, wR_cons, wR_v5, wR_nil, update_x ha' hc' hne, wR_ok, wS_skip, wS_skip]
      exact lloop ps vs (q <|> a) _ _ _ _ (fun p hp => ih p (List.mem_cons_of_mem _ hp)) ((k.trans k1).set hb) hb (set_at ha') h
theorem law_match_spec : ∀ (n : Nat) (p : Pt), ph p < n → nmx p = true → MS N "_law_match" p n
  | 0, p, h, _ => by omega
  | n + 1, .any, h, _ => fun v A => by
    refine wR_eq (a := .ref A.length) (A := A ++ [.dct (xd none)]) (by kernel_rfl) ?_
    unfold matx
    exact vnew (v := .other)
  | n + 1, .nm x, h, hx => fun v A => by
    have : x = "x" := by simpa [nmx] using hx
    subst this
    refine wR_eq (a := .ref A.length) (A := A ++ [.dct (xd (some v))]) (by kernel_rfl) ?_
    unfold matx
    exact vnew (v := .other)
  | n + 1, .con c ps, h, hx => fun v A => by
    have h : phs ps + 1 < n + 1 := h
    cases v with
    | other =>
      refine wR_eq (a := .non) (A := A) (by kernel_rfl) ?_
      unfold matx
      exact ⟨.refl, rfl⟩
    | con d vs =>
      rw [wR_call (fd := fn_25) rfl rfl]
      have e1 : sx (callF pg N n) N fn_25.body [some (pD (.con c ps)), some (vD (.con d vs)), none, none, none, none] A = sx (callF pg N n) N (drp 2 fn_25.body) [some (pD (.con c ps)), some (vD (.con d vs)), none, none, none, none] A := by kernel_rfl
      show wS (sx _ N fn_25.body [some (pD (.con c ps)), some (vD (.con d vs)), none, none, none, none] A) _ _ _ _
      rw [e1]
      show wS (sx _ N (.seq (.ite (.or (.cmp .ne (.ix (.var 1) (.int 0)) (.str "con")) (.cmp .ne (.ix (.var 1) (.int 1)) (.ix (.var 0) (.int 1)))) _ .skip) _) _ A) _ _ _ _
      have ne_str : ∀ {x y : String}, opC A .ne (.str x) (.str y) = some (!decide (x = y)) := fun {x y} => by
        have := eq_str (A := A) (x := x) (y := y)
        show (opC A .eq (.str x) (.str y)).map (!·) = _
        rw [this]; rfl
      rw [wS_seq, wS_ite, wR_tru, wR_or, wR_cmp, wR_tix (x := .str "con") rfl rfl, wR_str, ne_str]
      show wR (ofO (some (D.bl false)) A) _
      rw [wR_some, truth_bl, wR_some, if_neg (by decide), wR_cmp, wR_tix (x := .str d.s) rfl rfl, wR_tix (x := .str c) rfl rfl, ne_str]
      show wR (ofO (some (D.bl (!decide (d.s = c)))) A) _
      rw [wR_some, truth_bl, wR_some]
      unfold matx
      by_cases hc : c = d.s
      · subst hc
        rw [if_neg (by simp), if_pos rfl, wS_skip]
        show wS (sx _ N (.seq (.set 2 (.dct .nil)) (.seq (.for (.tu (.cons (.nm 3) (.cons (.nm 4) .nil))) (.zip (.ix (.var 0) (.int 2)) (.ix (.var 1) (.int 2))) lBody) (.seq (.ret (.var 2)) .skip))) _ A) _ _ _ _
        rw [wS_seq, wS_set]
        refine wR_eq (a := .ref A.length) (A := A ++ [.dct (xd none)]) (by kernel_rfl) ?_
        show wS (sx _ N (.seq (.for (.tu (.cons (.nm 3) (.cons (.nm 4) .nil))) (.zip (.ix (.var 0) (.int 2)) (.ix (.var 1) (.int 2))) lBody) (.seq (.ret (.var 2)) .skip)) [some (pD (.con d.s ps)), some (vD (.con d vs)), some (.ref A.length), none, none, none] (A ++ [.dct (xd none)])) _ _ _ _
        rw [wS_seq, wS_for]
        refine wR_eq (a := ⟨zipD (pDs ps) (vDs vs), [], none⟩) (A := A ++ [.dct (xd none)]) (by kernel_rfl) ?_
        dsimp only
        refine lloop (A0 := A) ps vs none _ _ _ _ (fun p hp => law_match_spec n p (by have := mem_phs hp; omega) (nmx_mem hx hp)) Kp.refl.app new_none new_at ?_
        cases e : matsx ps vs none with
        | none =>
          intro A' y3 y4 y5 k
          rw [wS_seq, wS_ret, wR_v2]
          exact ⟨k, rfl⟩
        | some o =>
          intro A' y3 y4 y5 k hb
          rw [wS_seq, wS_ret, wR_v2]
          exact ⟨k, A.length, rfl, new_none, hb⟩
      · rw [if_pos (by simp; exact fun z => hc z.symm), if_neg hc, wS_seq, wS_ret, wR_non]
        exact ⟨.refl, rfl⟩
/-! ### first_match -/
/-- the first pattern that a value has -/
def fstm : Nat → List Pt → Vl → Option (Nat × Option Vl)
  | _, [], _ => none
  | i, p :: ps, v => match matx p v with
    | none => fstm (i + 1) ps v
    | some o => some (i, o)
def FR (A A' : AH) (o : Option (Nat × Option Vl)) (r : D) : Prop := Kp A A' ∧ match o with
  | none => r = .non
  | some (i, o) => ∃ a, r = .tup [.int (i : Nat), .ref a] ∧ A[a]? = none ∧ A'[a]? = some (.dct (xd o))
abbrev fBody : Sm := .seq (.set 4 (.call "matched" (.cons (.var 3) (.cons (.var 1) .nil)))) (.seq (.ite (.cmp .isnt (.var 4) .non) (.seq (.ret (.tup (.cons (.var 2) (.cons (.var 4) .nil)))) .skip) .skip) .skip)
theorem isnt_non {A : AH} : opC A .isnt .non .non = some false := rfl
theorem isnt_ref {A : AH} {a : Nat} : opC A .isnt (.ref a) .non = some true := rfl
theorem floop {n a : Nat} {l : List D} {p0 : D} {v : Vl} {A0 : AH} {Pn Pb Pc : Fr → AH → Prop} {Pr : D → AH → Prop} (h0 : A0[a]? = some (.lst l)) : ∀ (ps : List Pt) (i : Nat) (A : AH) (x2 x3 x4 : Option D), (∀ p ∈ ps, MS N "matched" p n) → Kp A0 A →
    (match fstm i ps v with
      | none => ∀ A' y2 y3 y4, Kp A0 A' → Pn [some p0, some (vD v), y2, y3, y4] A'
      | some q => ∀ A' r, FR A0 A' (some q) r → Pr r A') →
    wS (forL (asgT (.tu (.cons (.nm 2) (.cons (.nm 3) .nil)))) [(a, .lst l)] (fun F' A' => sx (callF pg N n) N fBody F' A') (enumD i (pDs ps)) [some p0, some (vD v), x2, x3, x4] A) Pn Pb Pc Pr
  | [], i, A, x2, x3, x4, _, k, h => by
    apply forS_nil (gOk_one (k _ _ h0))
    exact h A x2 x3 x4 k
  | p :: ps, i, A, x2, x3, x4, ih, k, h => by
    show wS (forL _ _ _ (.tup [.int (i : Nat), pD p] :: enumD (i + 1) (pDs ps)) _ _) _ _ _ _
    refine forS_cons (F' := [some p0, some (vD v), some (.int (i : Nat)), some (pD p), x4]) (gOk_one (k _ _ h0)) rfl ?_
    rw [wS_seq, wS_set, wR_cl, wR_cons, wR_v3, wR_cons, wR_v1, wR_nil]
    refine (ih p List.mem_cons_self v A).mono fun r A' ⟨k1, hr⟩ => ?_
    show wS (sx _ N (.seq (.ite (.cmp .isnt (.var 4) .non) (.seq (.ret (.tup (.cons (.var 2) (.cons (.var 4) .nil)))) .skip) .skip) _) [some p0, some (vD v), some (.int (i : Nat)), some (pD p), some r] A') _ _ _ _
    rw [wS_seq, wS_ite, wR_tru, wR_cmp, wR_v4, wR_non]
    unfold fstm at h
    cases e : matx p v with
    | none =>
      rw [e] at h hr
      dsimp only at h hr
      subst hr
      rw [isnt_non]
      show wR (ofO (some (D.bl false)) A') _
      rw [wR_some, truth_bl, wR_some, if_neg (by decide), wS_skip, wS_skip]
      exact floop h0 ps (i + 1) _ _ _ _ (fun p hp => ih p (List.mem_cons_of_mem _ hp)) (k.trans k1) h
    | some q =>
      rw [e] at h hr
      dsimp only at h hr
      obtain ⟨c, rfl, hc, hc'⟩ := hr
      rw [isnt_ref]
      show wR (ofO (some (D.bl true)) A') _
      rw [wR_some, truth_bl, wR_some, if_pos rfl, wS_seq, wS_ret, wR_tup, wR_cons, wR_v2, wR_cons, wR_v4, wR_nil, wR_ifok (sz1 (by simp))]
      exact h _ _ ⟨k.trans k1, c, rfl, k.fresh hc, hc'⟩
theorem first_spec {n a : Nat} {A : AH} {ps : List Pt} {v : Vl} (hn : phs ps < n) (hx : nmxs ps = true) (h : A[a]? = some (.lst (pDs ps))) : wR (callF pg N (n + 1) "first_match" [.ref a, vD v] A) (fun r A' => FR A A' (fstm 0 ps v) r) := by
  rw [wR_call (fd := fn_10) rfl rfl]
  show wS (sx _ N (.seq (.for (.tu (.cons (.nm 2) (.cons (.nm 3) .nil))) (.enm (.var 0)) fBody) (.seq (.ret .non) .skip)) [some (.ref a), some (vD v), none, none, none] A) _ _ _ _
  have hw : wkEnum A (.ref a) = some ⟨enumD 0 (pDs ps), [(a, .lst (pDs ps))], none⟩ := by
    simp only [wkEnum, wkOf, h]
  rw [wS_seq, wS_for, wR_enm, wR_v0, hw, wR_some]
  dsimp only
  refine floop h ps 0 A _ _ _ (fun p hp => matched_spec n p (by have := mem_phs hp; omega) (nmx_mem hx hp)) .refl ?_
  cases e : fstm 0 ps v with
  | none =>
    intro A' y2 y3 y4 k
    rw [wS_seq, wS_ret, wR_non]
    exact ⟨k, rfl⟩
  | some q => exact fun A' r h => h
end
end K26

/-! ## K26G -/
/-! K26G: rows of patterns; opened. -/
namespace K26
open Ev PySem
theorem pDs_app : ∀ (ps qs : List Pt), pDs (ps ++ qs) = pDs ps ++ pDs qs
  | [], _ => rfl
  | p :: ps, qs => by
    show pD p :: pDs (ps ++ qs) = _
    rw [pDs_app ps qs]; rfl
theorem pDs_map : ∀ (ps : List Pt), pDs ps = ps.map pD
  | [] => rfl
  | p :: ps => by
    show pD p :: pDs ps = _
    rw [pDs_map ps]; rfl
theorem pDs_len (ps : List Pt) : (pDs ps).length = ps.length := by rw [pDs_map, List.length_map]
theorem pDs_take (ps : List Pt) (n : Nat) : pDs (ps.take n) = (pDs ps).take n := by rw [pDs_map, pDs_map, List.map_take]
theorem pDs_drop (ps : List Pt) (n : Nat) : pDs (ps.drop n) = (pDs ps).drop n := by rw [pDs_map, pDs_map, List.map_drop]
def rD (row : List Pt) : D := .tup (pDs row)
def tagS : Pt → String
  | .any => "any" | .nm _ => "name" | .con _ _ => "con"
theorem opI_tag {A : AH} {p : Pt} : opI A (pD p) (.int 0) = some (.str (tagS p)) := by cases p <;> rfl
theorem tag_con {p : Pt} : decide (tagS p = "con") = !nc p := by cases p <;> rfl
theorem atI_0 {x : D} {xs : List D} : L2.atI (x :: xs) 0 = some x := by
  have := atI_nat (xs := x :: xs) (i := 0)
  simpa using this
theorem opI_hd {A : AH} {p : Pt} {ps : List Pt} : opI A (rD (p :: ps)) (.int 0) = some (pD p) := atI_0
theorem ne_str {A : AH} {x y : String} : opC A .ne (.str x) (.str y) = some (!decide (x = y)) := by
  have := eq_str (A := A) (x := x) (y := y)
  show (opC A .eq (.str x) (.str y)).map (!·) = _
  rw [this]; rfl
theorem cut_from {xs : List D} {n : Nat} : cutD xs (some (n : Nat)) none = xs.drop n := by
  unfold cutD
  rw [HT.sIx_nat, HT.sIx_none]
  by_cases h : n ≤ xs.length
  · rw [Nat.min_eq_left h, List.take_of_length_le (by simp)]
  · rw [List.drop_eq_nil_of_le (by omega), List.drop_eq_nil_of_le (by omega)]
    simp
theorem cut_to {xs : List D} {n : Nat} : cutD xs none (some (n : Nat)) = xs.take n := by
  unfold cutD
  rw [HT.sIx_nat, HT.sIx_none]
  by_cases h : n ≤ xs.length
  · rw [Nat.min_eq_left h]; simp
  · rw [Nat.min_eq_right (by omega), List.take_of_length_le (by simp), List.take_of_length_le (by omega)]
    rfl
section
variable {cl : Cl0} {F : Fr} {A : AH} {P : D → AH → Prop}
theorem wR_tail {i : Nat} {x : D} {xs : List D} (h : F[i]? = some (some (.tup (x :: xs)))) : wR (ev cl (.sl (.var i) (.cons (.int 1) .nil) .nil) F A) P ↔ P (.tup xs) A := by
  rw [wR_sl, wR_var h]
  show wR (Res.ok (some 1) A) _ ↔ _
  rw [wR_ok]
  show wR (Res.ok none A) _ ↔ _
  rw [wR_ok]
  show wR (Res.ok (D.tup (cutD (x :: xs) (some 1) none)) A) _ ↔ _
  rw [wR_ok, cut_1]
theorem wR_from {i j n : Nat} {xs : List D} (h : F[i]? = some (some (.tup xs))) (hj : F[j]? = some (some (.int (n : Nat)))) : wR (ev cl (.sl (.var i) (.cons (.var j) .nil) .nil) F A) P ↔ P (.tup (xs.drop n)) A := by
  rw [wR_sl, wR_var h]
  have : evo cl (.cons (.var j) .nil) F A = .ok (some (n : Nat)) A := by
    show bnd (ev cl (.var j) F A) _ = _
    have e : ev cl (.var j) F A = .ok (.int (n : Nat)) A := ev_eq (by rw [wR_var hj]; exact ⟨rfl, rfl⟩)
    rw [e]; rfl
  rw [this, wR_ok]
  show wR (Res.ok none A) _ ↔ _
  rw [wR_ok]
  show wR (Res.ok (D.tup (cutD xs (some (n : Nat)) none)) A) _ ↔ _
  rw [wR_ok, cut_from]
theorem wR_upto {i j n : Nat} {xs : List D} (h : F[i]? = some (some (.tup xs))) (hj : F[j]? = some (some (.int (n : Nat)))) : wR (ev cl (.sl (.var i) .nil (.cons (.var j) .nil)) F A) P ↔ P (.tup (xs.take n)) A := by
  rw [wR_sl, wR_var h]
  have : evo cl (.cons (.var j) .nil) F A = .ok (some (n : Nat)) A := by
    show bnd (ev cl (.var j) F A) _ = _
    have e : ev cl (.var j) F A = .ok (.int (n : Nat)) A := ev_eq (by rw [wR_var hj]; exact ⟨rfl, rfl⟩)
    rw [e]; rfl
  show wR (Res.ok none A) _ ↔ _
  rw [wR_ok, this, wR_ok]
  show wR (Res.ok (D.tup (cutD xs none (some (n : Nat)))) A) _ ↔ _
  rw [wR_ok, cut_to]
end
theorem add_tup {A : AH} {xs ys : List D} (h : xs.length + ys.length ≤ 10000) : opB A .add (.tup xs) (.tup ys) = .ok (.tup (xs ++ ys)) A := by
  have : xs.length + ys.length ≤ PySem.sizeLine := by rw [ev_sz]; omega
  show (if xs.length + ys.length ≤ PySem.sizeLine then Res.ok (D.tup (xs ++ ys)) A else .no) = _
  rw [if_pos this]
theorem mul_any {A : AH} (c : Cn) : opB A .mul (.tup [.tup [.str "any"]]) (.int (c.args.length : Nat)) = .ok (.tup (pDs (List.replicate c.args.length .any))) A := by cases c <;> rfl
section
variable {N : Nat}
abbrev oBody : Sm := .seq (.set 5 (.ix (.var 4) (.int 0))) (.seq (.ite (.cmp .ne (.ix (.var 5) (.int 0)) (.str "con")) (.seq (.ex (.mth "append" (.var 3) (.cons (.op .add (.op .mul (.tup (.cons (.cst "ANY" (.tup [.str "any"])) .nil)) (.var 2)) (.sl (.var 4) (.cons (.int 1) .nil) .nil)) .nil))) .skip) (.seq (.ite (.cmp .eq (.ix (.var 5) (.int 1)) (.var 1)) (.seq (.ex (.mth "append" (.var 3) (.cons (.op .add (.ix (.var 5) (.int 2)) (.sl (.var 4) (.cons (.int 1) .nil) .nil)) .nil))) .skip) .skip) .skip)) .skip)
theorem oloop {n r b : Nat} {c : Cn} {l : List D} {A0 : AH} {Pn Pb Pc : Fr → AH → Prop} {Pr : D → AH → Prop} (h0 : A0[r]? = some (.lst l)) : ∀ (rows acc : List (List Pt)) (A : AH) (x4 x5 : Option D), (∀ row ∈ rows, row ≠ [] ∧ row.length ≤ 500 ∧ ∀ d ps, hd row = .con d ps → ps.length ≤ 500) → acc.length + rows.length ≤ 5000 → Kp A0 A → A0[b]? = none → A[b]? = some (.lst (acc.map rD)) →
    (∀ A' y4 y5, Kp A0 A' → A'[b]? = some (.lst ((acc ++ opn c.s c.args.length rows).map rD)) → Pn [some (.ref r), some (.str c.s), some (.int (c.args.length : Nat)), some (.ref b), y4, y5] A') →
    wS (forL (asgT (.nm 4)) [(r, .lst l)] (fun F' A' => sx (callF pg N n) N oBody F' A') (rows.map rD) [some (.ref r), some (.str c.s), some (.int (c.args.length : Nat)), some (.ref b), x4, x5] A) Pn Pb Pc Pr
  | [], acc, A, x4, x5, _, _, k, hb, ha, h => by
    apply forS_nil (gOk_one (k _ _ h0))
    exact h A x4 x5 k (by rw [show opn c.s c.args.length [] = [] from rfl, List.append_nil]; exact ha)
  | row :: rows, acc, A, x4, x5, hr, hz, k, hb, ha, h => by
    have hz : acc.length + (rows.length + 1) ≤ 5000 := hz
    obtain ⟨hne, hlen, hcon⟩ := hr row List.mem_cons_self
    obtain ⟨p, t, rfl⟩ : ∃ p t, row = p :: t := by
      cases row with
      | nil => exact absurd rfl hne
      | cons p t => exact ⟨p, t, rfl⟩
    have hlen : t.length + 1 ≤ 500 := hlen
    have ha2 : (acc.map rD).length < PySem.sizeLine := by rw [List.length_map, ev_sz]; omega
    show wS (forL _ _ _ (rD (p :: t) :: rows.map rD) _ _) _ _ _ _
    refine forS_cons (F' := [some (.ref r), some (.str c.s), some (.int (c.args.length : Nat)), some (.ref b), some (rD (p :: t)), x5]) (gOk_one (k _ _ h0)) rfl ?_
    rw [wS_seq, wS_set, wR_tix (xs := pDs (p :: t)) (x := pD p) rfl atI_0]
    show wS (sx _ N (.seq (.ite (.cmp .ne (.ix (.var 5) (.int 0)) (.str "con")) _ _) _) [some (.ref r), some (.str c.s), some (.int (c.args.length : Nat)), some (.ref b), some (rD (p :: t)), some (pD p)] A) _ _ _ _
    have fin : ∀ (q : List Pt), opn1 c.s c.args.length (p :: t) = some q → wS (forL (asgT (.nm 4)) [(r, .lst l)] (fun F' A' => sx (callF pg N n) N oBody F' A') (rows.map rD) [some (.ref r), some (.str c.s), some (.int (c.args.length : Nat)), some (.ref b), some (rD (p :: t)), some (pD p)] (A.set b (.lst (acc.map rD ++ [rD q])))) Pn Pb Pc Pr := fun q hq => by
      have e : acc.map rD ++ [rD q] = (acc ++ [q]).map rD := by simp
      rw [e]
      refine oloop h0 rows (acc ++ [q]) _ _ _ (fun row hrow => hr row (List.mem_cons_of_mem _ hrow)) (by simp; omega) (k.set hb) hb (set_at ha) ?_
      intro A' y4 y5 k' h'
      refine h A' y4 y5 k' ?_
      rw [h']
      have : opn c.s c.args.length ((p :: t) :: rows) = q :: opn c.s c.args.length rows := by simp [opn, hq]
      rw [this, List.append_assoc]
      rfl
    rw [wS_seq, wS_ite, wR_tru, wR_cmp, wR_ix, wR_v5, wR_int, opI_tag, wR_some, wR_str, ne_str, tag_con]
    show wR (ofO (some (D.bl _)) A) _
    rw [wR_some, truth_bl, wR_some]
    by_cases hnc : nc p = true
    · rw [if_pos (by simp [hnc]), wS_seq, wS_ex, wR_mth, wR_v3, mkM_lst ha rfl, wR_some, wR_cons, wR_op, wR_op, wR_tup, wR_cons, wR_cst, wR_nil, wR_ifok (sz1 (by simp)), wR_v2, mul_any, wR_ok, wR_tail (x := pD p) (xs := pDs t) rfl, add_tup (by rw [pDs_len, pDs_len, List.length_replicate]; cases c <;> simp [Cn.args] <;> omega), wR_ok, wR_nil, append_eq ha ha2, wR_ok, wS_skip, wS_skip]
      rw [← pDs_app]
      refine fin _ ?_
      cases p with
      | con d ps => cases hnc
      | any => rfl
      | nm x => rfl
    · cases p with
      | any => exact absurd rfl hnc
      | nm x => exact absurd rfl hnc
      | con d ps =>
        have hps := hcon d ps rfl
        rw [if_neg (by simp [nc]), wS_seq, wS_ite, wR_tru, wR_cmp, wR_tix (x := .str d) rfl rfl, wR_v1, eq_str]
        show wR (ofO (some (D.bl (decide (d = c.s)))) A) _
        rw [wR_some, truth_bl, wR_some]
        by_cases hd : d = c.s
        · rw [if_pos (by simp [hd]), wS_seq, wS_ex, wR_mth, wR_v3, mkM_lst ha rfl, wR_some, wR_cons, wR_op, wR_tix (x := .tup (pDs ps)) rfl rfl, wR_tail (x := pD (.con d ps)) (xs := pDs t) rfl, add_tup (by rw [pDs_len, pDs_len]; omega), wR_ok, wR_nil, append_eq ha ha2, wR_ok, wS_skip, wS_skip, wS_skip]
          rw [← pDs_app]
          exact fin _ (by simp [opn1, hd])
        · rw [if_neg (by simp [hd]), wS_skip, wS_skip, wS_skip]
          refine oloop h0 rows acc _ _ _ (fun row hrow => hr row (List.mem_cons_of_mem _ hrow)) (by omega) k hb ha ?_
          intro A' y4 y5 k' h'
          refine h A' y4 y5 k' ?_
          rw [h']
          have : opn c.s c.args.length ((Pt.con d ps :: t) :: rows) = opn c.s c.args.length rows := by simp [opn, opn1, hd]
          rw [this]
theorem opened_spec {n r : Nat} {c : Cn} {rows : List (List Pt)} {A : AH} (h : A[r]? = some (.lst (rows.map rD))) (hr : ∀ row ∈ rows, row ≠ [] ∧ row.length ≤ 500 ∧ ∀ d ps, hd row = .con d ps → ps.length ≤ 500) (hz : rows.length ≤ 5000) :
    FL A (callF pg N (n + 1) "opened" [.ref r, .str c.s, .int (c.args.length : Nat)] A) ((opn c.s c.args.length rows).map rD) := by
  unfold FL
  rw [wR_call (fd := fn_11) rfl rfl]
  show wS (sx _ N (.seq (.set 3 (.lst .nil)) (.seq (.for (.nm 4) (.wk (.var 0)) oBody) (.seq (.ret (.var 3)) .skip))) [some (.ref r), some (.str c.s), some (.int (c.args.length : Nat)), none, none, none] A) _ _ _ _
  rw [wS_seq, wS_set, wR_lst, wR_nil, wR_ifok (sz1 (by simp))]
  show wS (sx _ N (.seq (.for (.nm 4) (.wk (.var 0)) oBody) (.seq (.ret (.var 3)) .skip)) [some (.ref r), some (.str c.s), some (.int (c.args.length : Nat)), some (.ref A.length), none, none] (A ++ [.lst (([] : List (List Pt)).map rD)])) _ _ _ _
  have hw : wkOf (A ++ [.lst (([] : List (List Pt)).map rD)]) (.ref r) = some ⟨rows.map rD, [(r, .lst (rows.map rD))], none⟩ := by
    simp only [wkOf, app_at h]
  rw [wS_seq, wS_for, wR_wk, wR_v0, hw, wR_some]
  dsimp only
  refine oloop h rows [] _ _ _ hr (by simpa using hz) Kp.refl.app new_none new_at ?_
  intro A' y4 y5 k h'
  rw [wS_seq, wS_ret, wR_v3]
  exact ⟨A.length, rfl, k, new_none, h'⟩
end
end K26

/-! ## K26H -/
/-! K26H: missing, left_out. -/
namespace K26
open Ev PySem
def resD : Option (List Pt) → D
  | none => .non
  | some f => .tup (pDs f)
theorem rowOk {k : Kd} {h : Nat} {cs : Co} {row : List Pt} (w : WTs ((k, h) :: cs) row) (hl : cs.length ≤ 400) : row ≠ [] ∧ row.length ≤ 500 ∧ ∀ d ps, hd row = .con d ps → ps.length ≤ 500 := by
  have hlen := w.len
  cases row with
  | nil => simp [WTs] at w
  | cons p t =>
    refine ⟨by simp, by rw [hlen]; simp; omega, ?_⟩
    intro d ps e
    have e : p = .con d ps := e
    subst e
    have w1 := (show WT k h (.con d ps) ∧ WTs cs t from w).1
    cases h with
    | zero => simp [WT] at w1
    | succ h =>
      unfold WT at w1
      obtain ⟨d', _, _, w2⟩ := w1
      rw [w2.len, List.length_map]
      cases d' <;> simp [Cn.args]
theorem len_Wc : ∀ (cs : Co), cs.length ≤ Wc cs
  | [] => Nat.le_refl _
  | (k, h) :: cs => by
    have := len_Wc cs
    have := wc_pos k h
    simp [Wc]; omega
def conF : D → Option D
  | .tup (.tup (.str s :: _) :: _) => some (.bl (decide (s = "con")))
  | _ => none
theorem conF_row {p : Pt} {t : List Pt} : conF (rD (p :: t)) = some (.bl (!nc p)) := by cases p <;> rfl
theorem conF_map : ∀ {rows : List (List Pt)}, (∀ row ∈ rows, row ≠ []) → (rows.map rD).filterMap conF = rows.map fun row => D.bl (!nc (hd row))
  | [], _ => rfl
  | [] :: rows, h => absurd rfl (h [] List.mem_cons_self)
  | (p :: t) :: rows, h => by
    rw [List.map_cons, List.filterMap_cons, conF_row]
    dsimp only
    rw [conF_map fun row hr => h row (List.mem_cons_of_mem _ hr)]
    rfl
theorem bls_map {α : Type} (f : α → Bool) : ∀ (l : List α), blsOf (l.map fun x => D.bl (f x)) = some (l.map f)
  | [] => rfl
  | a :: l => by
    show (blsOf (l.map fun x => D.bl (f x))).map (f a :: ·) = _
    rw [bls_map f l]; rfl
theorem any_not : ∀ rows : List (List Pt), (rows.map fun row => !nc (hd row)).any id = !allNc rows
  | [] => rfl
  | row :: rows => by
    have := any_not rows
    rw [List.map_cons, List.any_cons, this]
    unfold allNc
    rw [List.all_cons, Bool.not_and]
    rfl
def tlF : D → Option D
  | .tup (.tup (.str s :: _) :: t) => if s = "con" then none else some (.tup t)
  | _ => none
theorem tlF_row {p : Pt} {t : List Pt} : tlF (rD (p :: t)) = if nc p then some (rD t) else none := by cases p <;> rfl
theorem tlF_map : ∀ {rows : List (List Pt)}, (∀ row ∈ rows, row ≠ []) → (rows.map rD).filterMap tlF = ((rows.filter fun row => nc (hd row)).map List.tail).map rD
  | [], _ => rfl
  | [] :: rows, h => absurd rfl (h [] List.mem_cons_self)
  | (p :: t) :: rows, h => by
    have ih := tlF_map (rows := rows) fun row hr => h row (List.mem_cons_of_mem _ hr)
    rw [List.map_cons, List.filterMap_cons, tlF_row]
    have e : nc (hd (p :: t)) = nc p := rfl
    cases hp : nc p with
    | true =>
      rw [if_pos rfl, List.filter_cons_of_pos (by rw [e, hp]), List.map_cons, List.map_cons, ← ih]
      rfl
    | false =>
      rw [if_neg (by decide), List.filter_cons_of_neg (by rw [e, hp]; decide), ← ih]
section
variable {N : Nat} {cl : Cl0} {A : AH} {r i : Nat} {F : Fr} {F' : D → Fr} {rows : List (List Pt)}
theorem var_ok {i : Nat} {d : D} (h : F[i]? = some (some d)) : ev cl (.var i) F A = .ok d A := ev_eq (by rw [wR_var h]; exact ⟨rfl, rfl⟩)
theorem wk_lst {A : AH} {r : Nat} {xs : List D} (h : A[r]? = some (.lst xs)) : wkOf A (.ref r) = some ⟨xs, [(r, .lst xs)], none⟩ := by
  simp only [wkOf, h]
/-- the first one's word is con -/
theorem tst_con {o : COp} {b : Bool} {p : Pt} {t : List Pt} {F : Fr} (hv : F[i]? = some (some (rD (p :: t)))) (hb : ∀ A : AH, opC A o (.str (tagS p)) (.str "con") = some b) : ev cl (.cmp o (.ix (.ix (.var i) (.int 0)) (.int 0)) (.str "con")) F A = .ok (.bl b) A := by
  apply ev_eq
  rw [wR_cmp, wR_ix, wR_ix, wR_var hv, wR_int, opI_hd, wR_some, wR_int, opI_tag, wR_some, wR_str, hb]
  exact wR_some.mpr ⟨rfl, rfl⟩
theorem any_con {P : D → AH → Prop} (hF : F[1]? = some (some (.ref r))) (hr : A[r]? = some (.lst (rows.map rD))) (hi : ∀ d, asgT (.nm i) d (wipeF F [i]) = some (F' d)) (hv : ∀ d, (F' d)[i]? = some (some d)) (hne : ∀ row ∈ rows, row ≠ []) (hz : rows.length ≤ 1000)
    (p : ∀ A', Kp A A' → P (.bl (!allNc rows)) A') : wR (ev cl (.bi "any" (.cons (.lc (.nm i) (.wk (.var 1)) .nil (.cmp .eq (.ix (.ix (.var i) (.int 0)) (.int 0)) (.str "con")) [i]) .nil)) F A) P := by
  rw [wR_bi, wR_cons]
  apply lc_pure conF (var_ok hF) (wk_lst hr) (gOk_one hr) (by simpa using hz)
  · intro x hx
    obtain ⟨row, hrow, rfl⟩ := List.mem_map.mp hx
    have := hne row hrow
    obtain ⟨p, t, rfl⟩ : ∃ p t, row = p :: t := by
      cases row with
      | nil => exact absurd rfl this
      | cons p t => exact ⟨p, t, rfl⟩
    refine ⟨F' (rD (p :: t)), hi _, ?_⟩
    rw [conF_row]
    exact lcB_0 (tst_con (hv _) fun A => by rw [eq_str, tag_con])
  · rw [wR_nil, conF_map hne]
    have : biF (A ++ [AO.lst (rows.map fun row => D.bl (!nc (hd row)))]) "any" [.ref A.length] = .ok (.bl (!allNc rows)) (A ++ [AO.lst (rows.map fun row => D.bl (!nc (hd row)))]) := by
      show biAny _ [.ref A.length] = _
      have h1 : (seqL (A ++ [AO.lst (rows.map fun row => D.bl (!nc (hd row)))]) A.length).bind blsOf = some (rows.map fun row => !nc (hd row)) := by
        rw [seqL_of new_at]
        exact bls_map (fun row => !nc (hd row)) rows
      simp only [biAny, h1]
      rw [any_not rows]
    rw [this, wR_ok]
    exact p _ Kp.refl.app
/-- the rows without a constructor ahead, behind their first -/
theorem rest_rows {P : D → AH → Prop} (hF : F[1]? = some (some (.ref r))) (hr : A[r]? = some (.lst (rows.map rD))) (hi : ∀ d, asgT (.nm i) d (wipeF F [i]) = some (F' d)) (hv : ∀ d, (F' d)[i]? = some (some d)) (hne : ∀ row ∈ rows, row ≠ []) (hz : rows.length ≤ 1000)
    (p : ∀ a A', Kp A A' → A'[a]? = some (.lst (((rows.filter fun row => nc (hd row)).map List.tail).map rD)) → P (.ref a) A') :
    wR (ev cl (.lc (.nm i) (.wk (.var 1)) (.cons (.cmp .ne (.ix (.ix (.var i) (.int 0)) (.int 0)) (.str "con")) .nil) (.sl (.var i) (.cons (.int 1) .nil) .nil) [i]) F A) P := by
  apply lc_pure tlF (var_ok hF) (wk_lst hr) (gOk_one hr) (by simpa using hz)
  · intro x hx
    obtain ⟨row, hrow, rfl⟩ := List.mem_map.mp hx
    have := hne row hrow
    obtain ⟨p, t, rfl⟩ : ∃ p t, row = p :: t := by
      cases row with
      | nil => exact absurd rfl this
      | cons p t => exact ⟨p, t, rfl⟩
    refine ⟨F' (rD (p :: t)), hi _, ?_⟩
    rw [tlF_row]
    refine lcB_1 (tru_eq ?_) fun _ => ev_eq ?_
    · rw [wR_tru, tst_con (b := nc p) (hv _) fun A => by rw [ne_str, tag_con]; simp, wR_ok, truth_bl, wR_some]
      exact ⟨rfl, rfl⟩
    · have hv' : (F' (rD (p :: t)))[i]? = some (some (.tup (pD p :: pDs t))) := hv _
      rw [wR_tail hv']
      exact ⟨rfl, rfl⟩
  · rw [tlF_map hne]
    exact p _ _ Kp.refl.app new_at
end
def cnD (c : Cn) : D := .tup [.str c.s, .int (c.args.length : Nat)]
section
variable {N w u : Nat}
def MI (N w u : Nat) (n : Nat) : Prop := ∀ (cs : Co) (rows : List (List Pt)) (A : AH) (r : Nat), A[w]? = some (.dct W) → A[r]? = some (.lst (rows.map rD)) → rows.length ≤ 1000 → Wc cs < n → Wc cs ≤ 400 → (∀ row ∈ rows, WTs cs row) →
  wR (callF pg N (n + 2) "missing" [wD w u, .ref r, .tup (kDs (kds cs))] A) (fun d A' => d = resD (miss n rows (kds cs)) ∧ Kp A A')
abbrev miBody : Sm := .seq (.set 7 (.ix (.call "constructor" (.cons (.var 0) (.cons (.var 5) .nil))) (.int 1))) (.seq (.set 4 (.call "missing" (.cons (.var 0) (.cons (.call "opened" (.cons (.var 1) (.cons (.var 5) (.cons (.var 6) .nil)))) (.cons (.op .add (.var 7) (.sl (.var 2) (.cons (.int 1) .nil) .nil)) .nil))))) (.seq (.ite (.cmp .isnt (.var 4) .non) (.seq (.ret (.op .add (.tup (.cons (.tup (.cons (.str "con") (.cons (.var 5) (.cons (.sl (.var 4) .nil (.cons (.var 6) .nil)) .nil)))) .nil)) (.sl (.var 4) (.cons (.var 6) .nil) .nil))) .skip) .skip) .skip))
def missC (n : Nat) (rows : List (List Pt)) (ks : List Kd) (c : Cn) : Option (List Pt) := (miss n (opn c.s c.args.length rows) (c.args ++ ks)).map fun f => .con c.s (f.take c.args.length) :: f.drop c.args.length
theorem kDs_app (a b : List Kd) : kDs (a ++ b) = kDs a ++ kDs b := List.map_append
theorem opn_len {c : String} {n : Nat} {rows : List (List Pt)} : (opn c n rows).length ≤ rows.length := List.length_filterMap_le _ _
theorem isnt_tup {A : AH} {xs : List D} : opC A .isnt (.tup xs) .non = some true := rfl
theorem is_tup {A : AH} {xs : List D} : opC A .is (.tup xs) .non = some false := rfl
theorem miloop {n r a : Nat} {k : Kd} {h : Nat} {cs : Co} {rows : List (List Pt)} {L : List D} {A0 : AH} {x3 : Option D} {Pn Pb Pc : Fr → AH → Prop} {Pr : D → AH → Prop} (ih : MI N w u n) (hW : A0[w]? = some (.dct W)) (h0 : A0[r]? = some (.lst (rows.map rD))) (hz : rows.length ≤ 1000) (hc : Wc ((k, h + 1) :: cs) < n + 1) (hc4 : Wc ((k, h + 1) :: cs) ≤ 400) (ht : ∀ row ∈ rows, WTs ((k, h + 1) :: cs) row) :
    ∀ (l : List Cn) (A : AH) (x4 x5 x6 x7 x8 : Option D), (∀ c ∈ l, c ∈ cases k) → Kp A0 A → A[a]? = some (.lst L) →
    (match l.findSome? (missC n rows (kds cs)) with
      | none => ∀ A' y4 y5 y6 y7 y8, Kp A0 A' → A'[a]? = some (.lst L) → Pn [some (wD w u), some (.ref r), some (.tup (kDs (kds ((k, h + 1) :: cs)))), x3, y4, y5, y6, y7, y8] A'
      | some f => ∀ A', Kp A0 A' → Pr (.tup (pDs f)) A') →
    wS (forL (asgT (.tu (.cons (.nm 5) (.cons (.nm 6) .nil)))) [(a, .lst L)] (fun F' A' => sx (callF pg N (n + 2)) N miBody F' A') (l.map cnD) [some (wD w u), some (.ref r), some (.tup (kDs (kds ((k, h + 1) :: cs)))), x3, x4, x5, x6, x7, x8] A) Pn Pb Pc Pr
  | [], A, x4, x5, x6, x7, x8, _, kp, ha, h => by
    apply forS_nil (gOk_one ha)
    exact h A x4 x5 x6 x7 x8 kp ha
  | c :: l, A, x4, x5, x6, x7, x8, hl, kp, ha, hh => by
    have hcm := hl c List.mem_cons_self
    have hlen : cs.length + 1 ≤ 400 := by have := len_Wc ((k, h + 1) :: cs); simp at this; omega
    have hz2 : (kDs (kds cs)).length = cs.length := by simp [kDs, kds]
    show wS (forL _ _ _ (cnD c :: l.map cnD) _ _) _ _ _ _
    refine forS_cons (F' := [some (wD w u), some (.ref r), some (.tup (kDs (kds ((k, h + 1) :: cs)))), x3, x4, some (.str c.s), some (.int (c.args.length : Nat)), x7, x8]) (gOk_one ha) rfl ?_
    rw [wS_seq, wS_set, wR_ix, wR_cl, wR_cons, wR_v0, wR_cons, wR_v5, wR_nil, con_of (kp _ _ hW), wR_ok, wR_int]
    show wR (ofO (some (D.tup (kDs c.args))) A) _
    rw [wR_some]
    show wS (sx _ N (.seq (.set 4 (.call "missing" _)) _) [some (wD w u), some (.ref r), some (.tup (kD k :: kDs (kds cs))), x3, x4, some (.str c.s), some (.int (c.args.length : Nat)), some (.tup (kDs c.args)), x8] A) _ _ _ _
    rw [wS_seq, wS_set, wR_cl, wR_cons, wR_v0, wR_cons, wR_cl, wR_cons, wR_v1, wR_cons, wR_v5, wR_cons, wR_v6, wR_nil]
    have op := opened_spec (N := N) (n := n + 1) (c := c) (kp _ _ h0) (fun row hr => rowOk (ht row hr) (by omega)) (by omega)
    unfold FL at op
    refine op.mono fun d A1 ⟨b, eb, k1, hb, hb'⟩ => ?_
    subst eb
    rw [wR_cons, wR_op, wR_v7, wR_tail (x := kD k) (xs := kDs (kds cs)) rfl, add_tup (by rw [hz2]; cases c <;> simp [Cn.args, kDs] <;> omega), wR_ok, wR_nil]
    have wa := wc_args (h := h) hcm
    have hWc : Wc ((k, h + 1) :: cs) = wc k (h + 1) + Wc cs := rfl
    have := ih (c.args.map (fun a => (a, h)) ++ cs) (opn c.s c.args.length rows) A1 b (k1 _ _ (kp _ _ hW)) hb' (by have := opn_len (c := c.s) (n := c.args.length) (rows := rows); omega) (by rw [Wc_app]; omega) (by rw [Wc_app]; omega) (fun row hr => by
      obtain ⟨row', hr', e⟩ := List.mem_filterMap.mp hr
      exact opn1_typ (ht row' hr') e)
    rw [kds_args, kDs_app] at this
    refine this.mono fun d A2 ⟨ed, k2⟩ => ?_
    subst ed
    have kp2 := kp.trans (k1.trans k2)
    show wS (sx _ N (.seq (.ite (.cmp .isnt (.var 4) .non) _ .skip) _) [some (wD w u), some (.ref r), some (.tup (kD k :: kDs (kds cs))), x3, some (resD (miss n (opn c.s c.args.length rows) (c.args ++ kds cs))), some (.str c.s), some (.int (c.args.length : Nat)), some (.tup (kDs c.args)), x8] A2) _ _ _ _
    rw [wS_seq, wS_ite, wR_tru, wR_cmp, wR_v4, wR_non]
    rw [List.findSome?_cons] at hh
    unfold missC at hh
    cases e : miss n (opn c.s c.args.length rows) (c.args ++ kds cs) with
    | none =>
      rw [e] at hh
      show wR (ofO (some (D.bl false)) A2) _
      rw [wR_some, truth_bl, wR_some, if_neg (by decide), wS_skip, wS_skip]
      exact miloop ih hW h0 hz hc hc4 ht l A2 _ _ _ _ _ (fun c h => hl c (List.mem_cons_of_mem _ h)) kp2 (k2 _ _ (k1 _ _ ha)) hh
    | some f =>
      rw [e] at hh
      show wR (ofO (some (D.bl true)) A2) _
      rw [wR_some, truth_bl, wR_some, if_pos rfl, wS_seq, wS_ret, wR_op, wR_tup, wR_cons, wR_tup, wR_cons, wR_str, wR_cons, wR_v5, wR_cons, wR_upto (i := 4) (j := 6) (xs := pDs f) (n := c.args.length) rfl rfl, wR_nil, wR_ifok (sz1 (by simp)), wR_nil, wR_ifok (sz1 (by simp)), wR_from (i := 4) (j := 6) (xs := pDs f) (n := c.args.length) rfl rfl]
      have mo := miss_ok n (c.args.map (fun a => (a, h)) ++ cs) (opn c.s c.args.length rows) (by rw [Wc_app]; omega) (fun row hr => by
        obtain ⟨row', hr', e⟩ := List.mem_filterMap.mp hr
        exact opn1_typ (ht row' hr') e)
      rw [kds_args, e] at mo
      have fl := mo.1.len
      have : f.length ≤ 402 := by
        rw [fl, List.length_append, List.length_map]
        cases c <;> simp [Cn.args] <;> omega
      rw [add_tup (by simp [pDs_len]; omega), wR_ok]
      have hh := hh A2 kp2
      have e3 : D.tup (pDs (Pt.con c.s (f.take c.args.length) :: f.drop c.args.length)) = .tup ([.tup [.str "con", .str c.s, .tup ((pDs f).take c.args.length)]] ++ (pDs f).drop c.args.length) := by
        rw [← pDs_take, ← pDs_drop]; rfl
      rw [← e3]
      exact hh
end
end K26

/-! ## K26I -/
/-! K26I: missing, left_out: the walk. -/
namespace K26
open Ev PySem
section
variable {N w u : Nat}
theorem truth_lst {A : AH} {r : Nat} {xs : List D} (h : A[r]? = some (.lst xs)) : truth A (.ref r) = some (!xs.isEmpty) := by
  simp only [truth, h]
theorem kD_tag {k : Kd} (hk : k ≠ .int) : kD k = .tup [.str "data", .str k.s] := by cases k <;> first | rfl | exact absurd rfl hk
theorem missing_spec : ∀ n, MI N w u n
  | 0 => fun cs rows A r hW hr hz hc => by omega
  | n + 1 => fun cs rows A r hW hr hz hc hc4 ht => by
    rw [wR_call (fd := fn_12) rfl rfl]
    show wS (sx _ N (.seq (.ite (.not (.var 2)) (.seq (.ret (.ite (.var 1) .non (.tup .nil))) .skip) .skip) (drp 1 fn_12.body)) [some (wD w u), some (.ref r), some (.tup (kDs (kds cs))), none, none, none, none, none, none] A) _ _ _ _
    rw [wS_seq, wS_ite, wR_tru, wR_not, wR_v2]
    cases cs with
    | nil =>
      show wR (ofO (some (D.bl true)) A) _
      rw [wR_some, truth_bl, wR_some, if_pos rfl, wS_seq, wS_ret, wR_ite, wR_v1, truth_lst hr, wR_some]
      cases rows with
      | nil =>
        rw [if_neg (by decide), wR_tup, wR_nil, wR_ifok (sz1 (by simp))]
        exact ⟨rfl, .refl⟩
      | cons a l =>
        rw [if_pos (by simp), wR_non]
        exact ⟨rfl, .refl⟩
    | cons kh cs =>
      obtain ⟨k, h⟩ := kh
      show wR (ofO (some (D.bl false)) A) _
      rw [wR_some, truth_bl, wR_some, if_neg (by decide), wS_skip]
      have hlen : cs.length + 1 ≤ 400 := by have := len_Wc ((k, h) :: cs); simp at this; omega
      have hWc : Wc ((k, h) :: cs) = wc k h + Wc cs := rfl
      have hwp := wc_pos k h
      have hne : ∀ row ∈ rows, row ≠ [] := fun row hr => (rowOk (ht row hr) (by omega)).1
      show wS (sx _ N (.seq (.set 3 (.ix (.var 2) (.int 0))) (drp 2 fn_12.body)) _ A) _ _ _ _
      rw [wS_seq, wS_set, wR_tix (xs := kDs (kds ((k, h) :: cs))) (x := kD k) rfl atI_0]
      show wS (sx _ N (.seq (.ite (.or (.cmp .ne (.ix (.var 3) (.int 0)) (.str "data")) (.not (.bi "any" (.cons (.lc (.nm 8) (.wk (.var 1)) .nil (.cmp .eq (.ix (.ix (.var 8) (.int 0)) (.int 0)) (.str "con")) [8]) .nil)))) (.seq (.set 4 (.call "missing" (.cons (.var 0) (.cons (.lc (.nm 8) (.wk (.var 1)) (.cons (.cmp .ne (.ix (.ix (.var 8) (.int 0)) (.int 0)) (.str "con")) .nil) (.sl (.var 8) (.cons (.int 1) .nil) .nil) [8]) (.cons (.sl (.var 2) (.cons (.int 1) .nil) .nil) .nil))))) _) .skip) (drp 3 fn_12.body)) [some (wD w u), some (.ref r), some (.tup (kD k :: kDs (kds cs))), some (kD k), none, none, none, none, none] A) _ _ _ _
      have rest : ∀ {A1 : AH} {Pn : Fr → AH → Prop}, Kp A A1 → miss (n + 1) rows (kds ((k, h) :: cs)) = (miss n ((rows.filter fun row => nc (hd row)).map List.tail) (kds cs)).map (Pt.any :: ·) → wS (sx (callF pg N (n + 2)) N (.seq (.set 4 (.call "missing" (.cons (.var 0) (.cons (.lc (.nm 8) (.wk (.var 1)) (.cons (.cmp .ne (.ix (.ix (.var 8) (.int 0)) (.int 0)) (.str "con")) .nil) (.sl (.var 8) (.cons (.int 1) .nil) .nil) [8]) (.cons (.sl (.var 2) (.cons (.int 1) .nil) .nil) .nil))))) (.seq (.ret (.ite (.cmp .is (.var 4) .non) .non (.op .add (.tup (.cons (.cst "ANY" (.tup [.str "any"])) .nil)) (.var 4)))) .skip)) [some (wD w u), some (.ref r), some (.tup (kD k :: kDs (kds cs))), some (kD k), none, none, none, none, none] A1) Pn (fun _ _ => False) (fun _ _ => False) (fun d A' => d = resD (miss (n + 1) rows (kds ((k, h) :: cs))) ∧ Kp A A') := by
        intro A1 Pn k1 em
        rw [wS_seq, wS_set, wR_cl, wR_cons, wR_v0, wR_cons]
        apply rest_rows (F' := fun d => [some (wD w u), some (.ref r), some (.tup (kD k :: kDs (kds cs))), some (kD k), none, none, none, none, some d]) rfl (k1 _ _ hr) (fun d => rfl) (fun d => rfl) hne hz
        intro a A2 k2 ha
        rw [wR_cons, wR_tail (x := kD k) (xs := kDs (kds cs)) rfl, wR_nil]
        have hz2 : ((rows.filter fun row => nc (hd row)).map List.tail).length ≤ 1000 := by
          rw [List.length_map]
          exact Nat.le_trans (List.length_filter_le _ _) hz
        have mo := miss_ok n cs ((rows.filter fun row => nc (hd row)).map List.tail) (by omega) (tails_typ ht)
        refine (missing_spec n cs _ A2 a (k2 _ _ (k1 _ _ hW)) ha hz2 (by omega) (by omega) (tails_typ ht)).mono fun d A3 ⟨ed, k3⟩ => ?_
        subst ed
        rw [em]
        show wS (sx _ N (.seq (.ret (.ite (.cmp .is (.var 4) .non) .non _)) .skip) [some (wD w u), some (.ref r), some (.tup (kD k :: kDs (kds cs))), some (kD k), some (resD (miss n ((rows.filter fun row => nc (hd row)).map List.tail) (kds cs))), none, none, none, none] A3) _ _ _ _
        rw [wS_seq, wS_ret, wR_ite, wR_cmp, wR_v4, wR_non]
        cases e : miss n ((rows.filter fun row => nc (hd row)).map List.tail) (kds cs) with
        | none =>
          show wR (ofO (some (D.bl true)) A3) _
          rw [wR_some, truth_bl, wR_some, if_pos rfl, wR_non]
          exact ⟨rfl, k1.trans (k2.trans k3)⟩
        | some f =>
          rw [e] at mo
          have fl : f.length ≤ 400 := by rw [mo.1.len]; omega
          show wR (ofO (some (D.bl false)) A3) _
          rw [wR_some, truth_bl, wR_some, if_neg (by decide), wR_op, wR_tup, wR_cons, wR_cst, wR_nil, wR_ifok (sz1 (by simp)), wR_var (d := .tup (pDs f)) rfl, add_tup (by simp [pDs_len]; omega), wR_ok]
          exact ⟨rfl, k1.trans (k2.trans k3)⟩
      have em : miss (n + 1) rows (kds ((k, h) :: cs)) = if k = .int ∨ allNc rows = true then (miss n ((rows.filter fun row => nc (hd row)).map List.tail) (kds cs)).map (Pt.any :: ·) else (cases k).findSome? (missC n rows (kds cs)) := rfl
      rw [wS_seq, wS_ite, wR_tru, wR_or, wR_cmp]
      by_cases hk : k = .int
      · rw [wR_tix (x := .str "int") (by rw [hk]; rfl) rfl, wR_str, ne_str]
        show wR (ofO (some (D.bl true)) A) _
        rw [wR_some, truth_bl, wR_some, if_pos rfl, truth_bl, wR_some, if_pos rfl]
        exact rest .refl (by rw [em, if_pos (.inl hk)])
      rw [wR_tix (x := .str "data") (by rw [kD_tag hk]; rfl) rfl, wR_str, ne_str]
      show wR (ofO (some (D.bl false)) A) _
      rw [wR_some, truth_bl, wR_some, if_neg (by decide), wR_not]
      apply any_con (F' := fun d => [some (wD w u), some (.ref r), some (.tup (kD k :: kDs (kds cs))), some (kD k), none, none, none, none, some d]) rfl hr (fun d => rfl) (fun d => rfl) hne hz
      intro A1 k1
      rw [truth_bl]
      show wR (ofO (some (D.bl (!!allNc rows))) A1) _
      rw [wR_some, truth_bl, wR_some]
      by_cases hall : allNc rows = true
      · rw [if_pos (by simp [hall])]
        exact rest k1 (by rw [em, if_pos (.inr hall)])
      rw [if_neg (by simpa using hall), wS_skip]
      rw [em, if_neg (fun z => z.elim hk hall)]
      have hex : ∃ row ∈ rows, nc (hd row) = false := by
        have : allNc rows = false := by
          cases e : allNc rows with
          | true => exact absurd e hall
          | false => rfl
        unfold allNc at this
        rw [List.all_eq_false] at this
        obtain ⟨row, hr, h'⟩ := this
        exact ⟨row, hr, by simpa using h'⟩
      have hh : ∃ h', h = h' + 1 := by
        obtain ⟨row, hr, hnc⟩ := hex
        have wr := ht row hr
        cases row with
        | nil => cases hnc
        | cons p t =>
          have w1 := (show WT k h p ∧ WTs cs t from wr).1
          cases p with
          | con d ps =>
            cases h with
            | zero => simp [WT] at w1
            | succ h => exact ⟨h, rfl⟩
          | any => cases hnc
          | nm x => cases hnc
      obtain ⟨h, rfl⟩ := hh
      show wS (sx _ N (.seq (.for (.tu (.cons (.nm 5) (.cons (.nm 6) .nil))) (.wk (.call "constructors" (.cons (.var 0) (.cons (.ix (.var 3) (.int 1)) .nil)))) miBody) (.seq (.ret .non) .skip)) _ A1) _ _ _ _
      rw [wS_seq, wS_for, wR_wk, wR_cl, wR_cons, wR_v0, wR_cons, wR_tix (x := .str k.s) (by rw [kD_tag hk]; rfl) rfl, wR_nil, cons_of (k1 _ _ hW) hk, wR_ok]
      have hL : (A1 ++ [AO.lst ((cases k).map cnD)])[A1.length]? = some (.lst ((cases k).map cnD)) := new_at
      show wR (ofO (wkOf (A1 ++ [AO.lst ((cases k).map cnD)]) (.ref A1.length)) _) _
      rw [wk_lst hL, wR_some]
      dsimp only
      refine miloop (missing_spec n) hW hr hz hc hc4 ht (cases k) _ _ _ _ _ _ (fun c h => h) k1.app hL ?_
      cases e : (cases k).findSome? (missC n rows (kds cs)) with
      | some f => exact fun A' k => ⟨rfl, k⟩
      | none =>
        intro A' y4 y5 y6 y7 y8 k2 _
        rw [wS_seq, wS_ret, wR_non]
        exact ⟨rfl, k2⟩
/-- left_out -/
def leftO (n : Nat) (ps : List Pt) (k : Kd) : Option Pt := (miss n (ps.map fun p => [p]) [k]).map hd
def optD : Option Pt → D
  | none => .non
  | some p => pD p
theorem ones_typ {k : Kd} {h : Nat} {ps : List Pt} (w : ∀ p ∈ ps, WT k h p) : ∀ row ∈ ps.map fun p => [p], WTs [(k, h)] row := by
  intro row hr
  obtain ⟨p, hp, rfl⟩ := List.mem_map.mp hr
  exact ⟨w p hp, rfl⟩
theorem ones_D : ∀ ps : List Pt, (ps.map pD).filterMap (fun d => some (D.tup [d])) = (ps.map fun p => [p]).map rD
  | [] => rfl
  | p :: ps => by
    rw [List.map_cons, List.filterMap_cons]
    dsimp only
    rw [ones_D ps]
    rfl
theorem left_spec {n a h : Nat} {k : Kd} {ps : List Pt} {A : AH} (hW : A[w]? = some (.dct W)) (ha : A[a]? = some (.lst (pDs ps))) (hz : ps.length ≤ 1000) (hn : wc k h < n) (h4 : wc k h ≤ 400) (ht : ∀ p ∈ ps, WT k h p) :
    wR (callF pg N (n + 3) "left_out" [wD w u, .ref a, kD k] A) (fun d A' => d = optD (leftO n ps k) ∧ Kp A A') := by
  rw [wR_call (fd := fn_13) rfl rfl]
  show wS (sx _ N (.seq (.set 3 (.call "missing" (.cons (.var 0) (.cons (.lc (.nm 4) (.wk (.var 1)) .nil (.tup (.cons (.var 4) .nil)) [4]) (.cons (.tup (.cons (.var 2) .nil)) .nil))))) (.seq (.ret (.ite (.cmp .is (.var 3) .non) .non (.ix (.var 3) (.int 0)))) .skip)) [some (wD w u), some (.ref a), some (kD k), none, none] A) _ _ _ _
  rw [wS_seq, wS_set, wR_cl, wR_cons, wR_v0, wR_cons]
  apply lc_pure (fun d => some (.tup [d])) (var_ok rfl) (wk_lst ha) (gOk_one ha) (by rw [pDs_len]; exact hz)
  · intro x hx
    refine ⟨[some (wD w u), some (.ref a), some (kD k), none, some x], rfl, lcB_0 (by kernel_rfl)⟩
  rw [wR_cons, wR_tup, wR_cons, wR_v2, wR_nil, wR_ifok (sz1 (by simp)), wR_nil]
  have e : (pDs ps).filterMap (fun d => some (D.tup [d])) = (ps.map fun p => [p]).map rD := by
    rw [pDs_map]
    exact ones_D ps
  rw [e]
  refine (missing_spec (N := N) (w := w) (u := u) n [(k, h)] _ _ A.length (app_at hW) new_at (by simpa using hz) hn h4 (ones_typ ht)).mono fun d A2 ⟨ed, k2⟩ => ?_
  subst ed
  show wS (sx _ N (.seq (.ret (.ite (.cmp .is (.var 3) .non) .non (.ix (.var 3) (.int 0)))) .skip) [some (wD w u), some (.ref a), some (kD k), some (resD (miss n (ps.map fun p => [p]) [k])), none] A2) _ _ _ _
  have kk : Kp A A2 := Kp.trans Kp.refl.app k2
  have mo := miss_ok n [(k, h)] (ps.map fun p => [p]) hn (ones_typ ht)
  rw [wS_seq, wS_ret, wR_ite, wR_cmp, wR_v3, wR_non]
  unfold leftO
  cases e : miss n (ps.map fun p => [p]) [k] with
  | none =>
    show wR (ofO (some (D.bl true)) A2) _
    rw [wR_some, truth_bl, wR_some, if_pos rfl, wR_non]
    exact ⟨rfl, kk⟩
  | some f =>
    rw [show kds [(k, h)] = [k] from rfl, e] at mo
    have := mo.1
    cases f with
    | nil => simp [WTs] at this
    | cons p t =>
      show wR (ofO (some (D.bl false)) A2) _
      rw [wR_some, truth_bl, wR_some, if_neg (by decide), wR_tix (xs := pDs (p :: t)) (x := pD p) rfl atI_0]
      exact ⟨rfl, kk⟩
end
end K26

/-! ## K26J -/
/-! K26J: is_useful. -/
namespace K26
open Ev PySem
theorem lc_pure2 {cl : Cl0} {F : Fr} {A A1 : AH} {t : Tg} {e c b : Ex} {own : List Nat} {d : D} {items : List D} {g : Guard} {P : D → AH → Prop} (f : D → Option D) (he : ev cl e F A = .ok d A1) (hw : wkOf A1 d = some ⟨items, g, none⟩) (hg : gOk A1 g = true) (hl : items.length ≤ 1000)
    (h : ∀ x ∈ items, ∃ F', asgT t x (wipeF F own) = some F' ∧ lcB cl c b F' A1 = .ok (f x) A1) (p : P (.ref A1.length) (A1 ++ [.lst (items.filterMap f)])) : wR (ev cl (.lc t (.wk e) c b own) F A) P := by
  rw [wR_lc, wR_wk, he, wR_ok, hw, wR_some]
  have e1 := lcG (asg := asgT t) (g := g) (body := lcB cl c b) (F := wipeF F own) f hg items [] h (by simpa using hl)
  have e3 : lcL (asgT t) g (lcB cl c b) (wipeF F own) items [] (lockA A1 none) = .ok (items.filterMap f) A1 := e1
  dsimp only
  rw [e3]
  show wR (Res.ok (D.ref A1.length) (A1 ++ [.lst (items.filterMap f)])) P
  rw [wR_ok]
  exact p
def tl2 : D → Option D
  | .tup (_ :: t) => some (.tup t)
  | _ => none
theorem tl2_row {p : Pt} {t : List Pt} : tl2 (rD (p :: t)) = some (rD t) := rfl
theorem tl2_map : ∀ {rows : List (List Pt)}, (∀ row ∈ rows, row ≠ []) → (rows.map rD).filterMap tl2 = (rows.map List.tail).map rD
  | [], _ => rfl
  | [] :: rows, h => absurd rfl (h [] List.mem_cons_self)
  | (p :: t) :: rows, h => by
    rw [List.map_cons, List.filterMap_cons, tl2_row]
    dsimp only
    rw [tl2_map fun row hr => h row (List.mem_cons_of_mem _ hr)]
    rfl
section
variable {N : Nat} {cl : Cl0} {A : AH} {r i : Nat} {F : Fr} {F' : D → Fr} {rows : List (List Pt)}
theorem all_tails {P : D → AH → Prop} (hF : F[1]? = some (some (.ref r))) (hr : A[r]? = some (.lst (rows.map rD))) (hi : ∀ d, asgT (.nm i) d (wipeF F [i]) = some (F' d)) (hv : ∀ d, (F' d)[i]? = some (some d)) (hne : ∀ row ∈ rows, row ≠ []) (hz : rows.length ≤ 1000)
    (p : ∀ a A', Kp A A' → A'[a]? = some (.lst ((rows.map List.tail).map rD)) → P (.ref a) A') :
    wR (ev cl (.lc (.nm i) (.wk (.var 1)) .nil (.sl (.var i) (.cons (.int 1) .nil) .nil) [i]) F A) P := by
  apply lc_pure tl2 (var_ok hF) (wk_lst hr) (gOk_one hr) (by simpa using hz)
  · intro x hx
    obtain ⟨row, hrow, rfl⟩ := List.mem_map.mp hx
    have := hne row hrow
    obtain ⟨p, t, rfl⟩ : ∃ p t, row = p :: t := by
      cases row with
      | nil => exact absurd rfl this
      | cons p t => exact ⟨p, t, rfl⟩
    refine ⟨F' (rD (p :: t)), hi _, ?_⟩
    rw [tl2_row]
    refine lcB_0 (ev_eq ?_)
    have hv' : (F' (rD (p :: t)))[i]? = some (some (.tup (pD p :: pDs t))) := hv _
    rw [wR_tail hv']
    exact ⟨rfl, rfl⟩
  · rw [tl2_map hne]
    exact p _ _ Kp.refl.app new_at
end
section
variable {N w u : Nat}
def UI (N w u : Nat) (n : Nat) : Prop := ∀ (cs : Co) (rows : List (List Pt)) (row : List Pt) (A : AH) (r : Nat), A[w]? = some (.dct W) → A[r]? = some (.lst (rows.map rD)) → rows.length ≤ 1000 → Wc cs < n → Wc cs ≤ 400 → (∀ row ∈ rows, WTs cs row) → WTs cs row →
  wR (callF pg N (n + 2) "is_useful" [wD w u, .ref r, rD row, .tup (kDs (kds cs))] A) (fun d A' => d = .bl (useful n rows row (kds cs)) ∧ Kp A A')
abbrev uiBody : Sm := .seq (.set 9 (.ix (.call "constructor" (.cons (.var 0) (.cons (.var 7) .nil))) (.int 1))) (.seq (.set 10 (.ix (.call "opened" (.cons (.lst (.cons (.var 2) .nil)) (.cons (.var 7) (.cons (.var 8) .nil)))) (.int 0))) (.seq (.ite (.call "is_useful" (.cons (.var 0) (.cons (.call "opened" (.cons (.var 1) (.cons (.var 7) (.cons (.var 8) .nil)))) (.cons (.var 10) (.cons (.op .add (.var 9) (.sl (.var 3) (.cons (.int 1) .nil) .nil)) .nil))))) (.seq (.ret (.bl true)) .skip) .skip) .skip))
def usC (n : Nat) (rows : List (List Pt)) (row : List Pt) (ks : List Kd) (c : Cn) : Bool := useful n (opn c.s c.args.length rows) ((opn1 c.s c.args.length row).getD []) (c.args ++ ks)
theorem uiloop {n r a : Nat} {k : Kd} {h : Nat} {cs : Co} {rows : List (List Pt)} {row : List Pt} {L : List D} {A0 : AH} {x4 x5 x6 : Option D} {Pn Pb Pc : Fr → AH → Prop} {Pr : D → AH → Prop} (ih : UI N w u n) (hW : A0[w]? = some (.dct W)) (h0 : A0[r]? = some (.lst (rows.map rD))) (hz : rows.length ≤ 1000) (hc : Wc ((k, h + 1) :: cs) < n + 1) (hc4 : Wc ((k, h + 1) :: cs) ≤ 400) (ht : ∀ row ∈ rows, WTs ((k, h + 1) :: cs) row) (hrow : WTs ((k, h + 1) :: cs) row) :
    ∀ (l : List Cn) (A : AH) (x7 x8 x9 x10 x11 : Option D), (∀ c ∈ l, c ∈ casesOf (hd row) k) → Kp A0 A → A[a]? = some (.lst L) →
    (match l.any (usC n rows row (kds cs)) with
      | false => ∀ A' y7 y8 y9 y10 y11, Kp A0 A' → A'[a]? = some (.lst L) → Pn [some (wD w u), some (.ref r), some (rD row), some (.tup (kDs (kds ((k, h + 1) :: cs)))), x4, x5, x6, y7, y8, y9, y10, y11] A'
      | true => ∀ A', Kp A0 A' → Pr (.bl true) A') →
    wS (forL (asgT (.tu (.cons (.nm 7) (.cons (.nm 8) .nil)))) [(a, .lst L)] (fun F' A' => sx (callF pg N (n + 2)) N uiBody F' A') (l.map cnD) [some (wD w u), some (.ref r), some (rD row), some (.tup (kDs (kds ((k, h + 1) :: cs)))), x4, x5, x6, x7, x8, x9, x10, x11] A) Pn Pb Pc Pr
  | [], A, x7, x8, x9, x10, x11, _, kp, ha, h => by
    apply forS_nil (gOk_one ha)
    exact h A x7 x8 x9 x10 x11 kp ha
  | c :: l, A, x7, x8, x9, x10, x11, hl, kp, ha, hh => by
    have hco := hl c List.mem_cons_self
    have hcm := casesOf_sub hco
    have hlen : cs.length + 1 ≤ 400 := by have := len_Wc ((k, h + 1) :: cs); simp at this; omega
    have hz2 : (kDs (kds cs)).length = cs.length := by simp [kDs, kds]
    obtain ⟨own, eo⟩ := own_opn hrow hco
    have town := opn1_typ hrow eo
    show wS (forL _ _ _ (cnD c :: l.map cnD) _ _) _ _ _ _
    refine forS_cons (F' := [some (wD w u), some (.ref r), some (rD row), some (.tup (kDs (kds ((k, h + 1) :: cs)))), x4, x5, x6, some (.str c.s), some (.int (c.args.length : Nat)), x9, x10, x11]) (gOk_one ha) rfl ?_
    rw [wS_seq, wS_set, wR_ix, wR_cl, wR_cons, wR_v0, wR_cons, wR_v7, wR_nil, con_of (kp _ _ hW), wR_ok, wR_int]
    show wR (ofO (some (D.tup (kDs c.args))) A) _
    rw [wR_some]
    show wS (sx _ N (.seq (.set 10 (.ix (.call "opened" (.cons (.lst (.cons (.var 2) .nil)) (.cons (.var 7) (.cons (.var 8) .nil)))) (.int 0))) _) [some (wD w u), some (.ref r), some (rD row), some (.tup (kD k :: kDs (kds cs))), x4, x5, x6, some (.str c.s), some (.int (c.args.length : Nat)), some (.tup (kDs c.args)), x10, x11] A) _ _ _ _
    rw [wS_seq, wS_set, wR_ix, wR_cl, wR_cons, wR_lst, wR_cons, wR_v2, wR_nil, wR_ifok (sz1 (by simp)), wR_cons, wR_v7, wR_cons, wR_v8, wR_nil]
    have op := opened_spec (N := N) (n := n + 1) (c := c) (A := A ++ [.lst [rD row]]) (r := A.length) (rows := [row]) new_at (fun q hq => by
      rw [List.mem_singleton.mp hq]
      exact rowOk hrow (by omega)) (by simp)
    have eone : opn c.s c.args.length [row] = [own] := by simp [opn, eo]
    unfold FL at op
    rw [eone] at op
    refine op.mono fun d A1 ⟨b, eb, k1, hb, hb'⟩ => ?_
    subst eb
    have k1 : Kp A A1 := Kp.trans Kp.refl.app k1
    rw [wR_int, opI_lst hb']
    show wR (ofO (L2.atI (rD own :: []) 0) A1) _
    rw [atI_0, wR_some]
    show wS (sx _ N (.seq (.ite (.call "is_useful" _) _ .skip) .skip) [some (wD w u), some (.ref r), some (rD row), some (.tup (kD k :: kDs (kds cs))), x4, x5, x6, some (.str c.s), some (.int (c.args.length : Nat)), some (.tup (kDs c.args)), some (rD own), x11] A1) _ _ _ _
    rw [wS_seq, wS_ite, wR_tru, wR_cl, wR_cons, wR_v0, wR_cons, wR_cl, wR_cons, wR_v1, wR_cons, wR_v7, wR_cons, wR_v8, wR_nil]
    have op := opened_spec (N := N) (n := n + 1) (c := c) (k1 _ _ (kp _ _ h0)) (fun row hr => rowOk (ht row hr) (by omega)) (by omega)
    unfold FL at op
    refine op.mono fun d A2 ⟨b, eb, k2, hb, hb'⟩ => ?_
    subst eb
    rw [wR_cons, wR_var (d := rD own) rfl, wR_cons, wR_op, wR_var (d := .tup (kDs c.args)) rfl, wR_tail (x := kD k) (xs := kDs (kds cs)) rfl, add_tup (by rw [hz2]; cases c <;> simp [Cn.args, kDs] <;> omega), wR_ok, wR_nil]
    have wa := wc_args (h := h) hcm
    have hWc : Wc ((k, h + 1) :: cs) = wc k (h + 1) + Wc cs := rfl
    have := ih (c.args.map (fun a => (a, h)) ++ cs) (opn c.s c.args.length rows) own A2 b (k2 _ _ (k1 _ _ (kp _ _ hW))) hb' (by have := opn_len (c := c.s) (n := c.args.length) (rows := rows); omega) (by rw [Wc_app]; omega) (by rw [Wc_app]; omega) (fun row hr => by
      obtain ⟨row', hr', e⟩ := List.mem_filterMap.mp hr
      exact opn1_typ (ht row' hr') e) town
    rw [kds_args, kDs_app] at this
    refine this.mono fun d A3 ⟨ed, k3⟩ => ?_
    subst ed
    have kp3 := kp.trans (k1.trans (k2.trans k3))
    have euse : usC n rows row (kds cs) c = useful n (opn c.s c.args.length rows) own (c.args ++ kds cs) := by
      unfold usC
      rw [eo]; rfl
    rw [List.any_cons, euse] at hh
    rw [truth_bl, wR_some]
    cases e : useful n (opn c.s c.args.length rows) own (c.args ++ kds cs) with
    | false =>
      rw [e, Bool.false_or] at hh
      rw [if_neg (by decide), wS_skip, wS_skip]
      exact uiloop ih hW h0 hz hc hc4 ht hrow l A3 _ _ _ _ _ (fun c h => hl c (List.mem_cons_of_mem _ h)) kp3 (k3 _ _ (k2 _ _ (k1 _ _ ha))) hh
    | true =>
      rw [e, Bool.true_or] at hh
      rw [if_pos rfl, wS_seq, wS_ret, wR_bl]
      exact hh A3 kp3
theorem cases_one {c : Cn} {k : Kd} (h : c ∈ cases k) : (cases k).filter (fun d => decide (c.s = d.s)) = [c] := by
  have := mem_cases.mp h
  subst this
  cases c <;> decide
theorem useful_spec : ∀ n, UI N w u n
  | 0 => fun cs rows row A r hW hr hz hc => by omega
  | n + 1 => fun cs rows row A r hW hr hz hc hc4 ht hrow => by
    rw [wR_call (fd := fn_14) rfl rfl]
    show wS (sx _ N (.seq (.ite (.not (.var 3)) (.seq (.ret (.not (.var 1))) .skip) .skip) (drp 1 fn_14.body)) [some (wD w u), some (.ref r), some (rD row), some (.tup (kDs (kds cs))), none, none, none, none, none, none, none, none] A) _ _ _ _
    rw [wS_seq, wS_ite, wR_tru, wR_not, wR_v3]
    cases cs with
    | nil =>
      show wR (ofO (some (D.bl true)) A) _
      rw [wR_some, truth_bl, wR_some, if_pos rfl, wS_seq, wS_ret, wR_not, wR_v1, truth_lst hr]
      cases rows with
      | nil => exact wR_some.mpr ⟨rfl, .refl⟩
      | cons a l => exact wR_some.mpr ⟨rfl, .refl⟩
    | cons kh cs =>
      obtain ⟨k, h⟩ := kh
      show wR (ofO (some (D.bl false)) A) _
      rw [wR_some, truth_bl, wR_some, if_neg (by decide), wS_skip]
      have hlen : cs.length + 1 ≤ 400 := by have := len_Wc ((k, h) :: cs); simp at this; omega
      have hWc : Wc ((k, h) :: cs) = wc k h + Wc cs := rfl
      have hwp := wc_pos k h
      have hne : ∀ row ∈ rows, row ≠ [] := fun row hr => (rowOk (ht row hr) (by omega)).1
      obtain ⟨p, t, rfl⟩ : ∃ p t, row = p :: t := by
        cases row with
        | nil => simp [WTs] at hrow
        | cons p t => exact ⟨p, t, rfl⟩
      have wp := (show WT k h p ∧ WTs cs t from hrow)
      show wS (sx _ N (.seq (.asg (.tu (.cons (.nm 4) (.cons (.nm 5) .nil))) (.tup (.cons (.ix (.var 3) (.int 0)) (.cons (.ix (.var 2) (.int 0)) .nil)))) (drp 2 fn_14.body)) _ A) _ _ _ _
      rw [wS_seq, wS_asg, wR_tup, wR_cons, wR_tix (xs := kDs (kds ((k, h) :: cs))) (x := kD k) rfl atI_0, wR_cons, wR_tix (xs := pDs (p :: t)) (x := pD p) rfl atI_0, wR_nil, wR_ifok (sz1 (by simp))]
      refine ⟨[some (wD w u), some (.ref r), some (rD (p :: t)), some (.tup (kD k :: kDs (kds cs))), some (kD k), some (pD p), none, none, none, none, none, none], rfl, ?_⟩
      show wS (sx _ N (.seq (.ite (.or (.cmp .ne (.ix (.var 4) (.int 0)) (.str "data")) (.and (.cmp .ne (.ix (.var 5) (.int 0)) (.str "con")) (.not (.bi "any" (.cons (.lc (.nm 11) (.wk (.var 1)) .nil (.cmp .eq (.ix (.ix (.var 11) (.int 0)) (.int 0)) (.str "con")) [11]) .nil))))) (.seq (.ret (.call "is_useful" (.cons (.var 0) (.cons (.lc (.nm 11) (.wk (.var 1)) .nil (.sl (.var 11) (.cons (.int 1) .nil) .nil) [11]) (.cons (.sl (.var 2) (.cons (.int 1) .nil) .nil) (.cons (.sl (.var 3) (.cons (.int 1) .nil) .nil) .nil)))))) .skip) .skip) (drp 3 fn_14.body)) _ A) _ _ _ _
      have rest : ∀ {A1 : AH} {Pn : Fr → AH → Prop}, Kp A A1 → useful (n + 1) rows (p :: t) (kds ((k, h) :: cs)) = useful n (rows.map List.tail) t (kds cs) → wS (sx (callF pg N (n + 2)) N (.seq (.ret (.call "is_useful" (.cons (.var 0) (.cons (.lc (.nm 11) (.wk (.var 1)) .nil (.sl (.var 11) (.cons (.int 1) .nil) .nil) [11]) (.cons (.sl (.var 2) (.cons (.int 1) .nil) .nil) (.cons (.sl (.var 3) (.cons (.int 1) .nil) .nil) .nil)))))) .skip) [some (wD w u), some (.ref r), some (rD (p :: t)), some (.tup (kD k :: kDs (kds cs))), some (kD k), some (pD p), none, none, none, none, none, none] A1) Pn (fun _ _ => False) (fun _ _ => False) (fun d A' => d = .bl (useful (n + 1) rows (p :: t) (kds ((k, h) :: cs))) ∧ Kp A A') := by
        intro A1 Pn k1 em
        rw [wS_seq, wS_ret, wR_cl, wR_cons, wR_v0, wR_cons]
        apply all_tails (F' := fun d => [some (wD w u), some (.ref r), some (rD (p :: t)), some (.tup (kD k :: kDs (kds cs))), some (kD k), some (pD p), none, none, none, none, none, some d]) rfl (k1 _ _ hr) (fun d => rfl) (fun d => rfl) hne hz
        intro a A2 k2 ha
        rw [wR_cons, wR_tail (x := pD p) (xs := pDs t) rfl, wR_cons, wR_tail (x := kD k) (xs := kDs (kds cs)) rfl, wR_nil]
        refine (useful_spec n cs _ t A2 a (k2 _ _ (k1 _ _ hW)) ha (by simpa using hz) (by omega) (by omega) (tails_typ2 ht) wp.2).mono fun d A3 ⟨ed, k3⟩ => ?_
        rw [em]
        exact ⟨ed, k1.trans (k2.trans k3)⟩
      have em : useful (n + 1) rows (p :: t) (kds ((k, h) :: cs)) = if k = .int ∨ (nc p = true ∧ allNc rows = true) then useful n (rows.map List.tail) t (kds cs) else (casesOf p k).any (usC n rows (p :: t) (kds cs)) := rfl
      -- the walk through the cases
      have walk : ∀ {A1 : AH} {Pn : Fr → AH → Prop}, Kp A A1 → k ≠ .int → ¬ (nc p = true ∧ allNc rows = true) → wS (sx (callF pg N (n + 2)) N (drp 3 fn_14.body) [some (wD w u), some (.ref r), some (rD (p :: t)), some (.tup (kD k :: kDs (kds cs))), some (kD k), some (pD p), none, none, none, none, none, none] A1) Pn (fun _ _ => False) (fun _ _ => False) (fun d A' => d = .bl (useful (n + 1) rows (p :: t) (kds ((k, h) :: cs))) ∧ Kp A A') := by
        intro A1 Pn k1 hk hn
        have hh : ∃ h', h = h' + 1 := by
          have con_h : ∀ {r : List Pt}, WTs ((k, h) :: cs) r → nc (hd r) = false → ∃ h', h = h' + 1 := fun {r} wr hnc => by
            cases r with
            | nil => cases hnc
            | cons p t =>
              have w1 := (show WT k h p ∧ WTs cs t from wr).1
              cases p with
              | con d ps =>
                cases h with
                | zero => simp [WT] at w1
                | succ h => exact ⟨h, rfl⟩
              | any => cases hnc
              | nm x => cases hnc
          cases e1 : nc p with
          | false => exact con_h hrow e1
          | true =>
            have e2 : allNc rows = false := by
              cases e2 : allNc rows with
              | true => exact absurd ⟨e1, e2⟩ hn
              | false => rfl
            unfold allNc at e2
            rw [List.all_eq_false] at e2
            obtain ⟨r, hr, h'⟩ := e2
            exact con_h (ht r hr) (by simpa using h')
        obtain ⟨h, rfl⟩ := hh
        rw [em, if_neg (fun z => z.elim hk hn)]
        have fin : ∀ {a : Nat} {A2 : AH}, Kp A A2 → A2[a]? = some (.lst ((casesOf p k).map cnD)) → wS (sx (callF pg N (n + 2)) N (.seq (.for (.tu (.cons (.nm 7) (.cons (.nm 8) .nil))) (.wk (.var 6)) uiBody) (.seq (.ret (.bl false)) .skip)) [some (wD w u), some (.ref r), some (rD (p :: t)), some (.tup (kD k :: kDs (kds cs))), some (kD k), some (pD p), some (.ref a), none, none, none, none, none] A2) Pn (fun _ _ => False) (fun _ _ => False) (fun d A' => d = .bl ((casesOf p k).any (usC n rows (p :: t) (kds cs))) ∧ Kp A A') := by
          intro a A2 k2 ha
          rw [wS_seq, wS_for, wR_wk, wR_v6, wk_lst ha, wR_some]
          dsimp only
          refine uiloop (useful_spec n) hW hr hz hc hc4 ht hrow (casesOf p k) _ _ _ _ _ _ (fun c h => h) k2 ha ?_
          cases e : (casesOf p k).any (usC n rows (p :: t) (kds cs)) with
          | true => exact fun A' k => ⟨rfl, k⟩
          | false =>
            intro A' y7 y8 y9 y10 y11 k3 _
            rw [wS_seq, wS_ret, wR_bl]
            exact ⟨rfl, k3⟩
        show wS (sx _ N (.seq (.set 6 (.call "constructors" (.cons (.var 0) (.cons (.ix (.var 4) (.int 1)) .nil)))) (.seq (.ite (.cmp .eq (.ix (.var 5) (.int 0)) (.str "con")) (.seq (.set 6 (.lst (.cons (.tup (.cons (.ix (.var 5) (.int 1)) (.cons (.bi "len" (.cons (.ix (.var 5) (.int 2)) .nil)) .nil))) .nil))) .skip) .skip) (.seq (.for (.tu (.cons (.nm 7) (.cons (.nm 8) .nil))) (.wk (.var 6)) uiBody) (.seq (.ret (.bl false)) .skip)))) _ A1) _ _ _ _
        rw [wS_seq, wS_set, wR_cl, wR_cons, wR_v0, wR_cons, wR_tix (x := .str k.s) (by rw [kD_tag hk]; rfl) rfl, wR_nil, cons_of (k1 _ _ hW) hk, wR_ok]
        have hL : (A1 ++ [AO.lst ((cases k).map cnD)])[A1.length]? = some (.lst ((cases k).map cnD)) := new_at
        show wS (sx _ N (.seq (.ite (.cmp .eq (.ix (.var 5) (.int 0)) (.str "con")) (.seq (.set 6 (.lst (.cons (.tup (.cons (.ix (.var 5) (.int 1)) (.cons (.bi "len" (.cons (.ix (.var 5) (.int 2)) .nil)) .nil))) .nil))) .skip) .skip) (.seq (.for (.tu (.cons (.nm 7) (.cons (.nm 8) .nil))) (.wk (.var 6)) uiBody) (.seq (.ret (.bl false)) .skip))) [some (wD w u), some (.ref r), some (rD (p :: t)), some (.tup (kD k :: kDs (kds cs))), some (kD k), some (pD p), some (.ref A1.length), none, none, none, none, none] (A1 ++ [AO.lst ((cases k).map cnD)])) _ _ _ _
        rw [wS_seq, wS_ite, wR_tru, wR_cmp, wR_ix, wR_v5, wR_int, opI_tag, wR_some, wR_str, eq_str, tag_con]
        show wR (ofO (some (D.bl (!nc p))) _) _
        rw [wR_some, truth_bl, wR_some]
        cases p with
        | any =>
          rw [if_neg (by decide), wS_skip]
          exact fin k1.app hL
        | nm x =>
          rw [if_neg (by simp [nc]), wS_skip]
          exact fin k1.app hL
        | con d ps =>
          have w1 := wp.1
          unfold WT at w1
          obtain ⟨c, rfl, hcm, w2⟩ := w1
          have hl : ps.length = c.args.length := by rw [w2.len, List.length_map]
          have ec : casesOf (.con c.s ps) k = [c] := cases_one hcm
          rw [if_pos (by simp [nc]), wS_seq, wS_set, wR_lst, wR_cons, wR_tup, wR_cons, wR_tix (x := .str c.s) rfl rfl, wR_cons, wR_bi, wR_cons, wR_tix (x := .tup (pDs ps)) rfl rfl, wR_nil, len_tup, wR_ok, wR_nil, wR_ifok (sz1 (by simp)), wR_nil, wR_ifok (sz1 (by simp)), wS_skip]
          have hL2 : ((A1 ++ [AO.lst ((cases k).map cnD)]) ++ [AO.lst [.tup [.str c.s, .int ((pDs ps).length : Nat)]]])[(A1 ++ [AO.lst ((cases k).map cnD)]).length]? = some (.lst ((casesOf (.con c.s ps) k).map cnD)) := by
            rw [new_at, ec, pDs_len, hl]
            rfl
          exact fin k1.app.app hL2
      rw [wS_seq, wS_ite, wR_tru, wR_or, wR_cmp]
      by_cases hk : k = .int
      · rw [wR_tix (x := .str "int") (by rw [hk]; rfl) rfl, wR_str, ne_str]
        show wR (ofO (some (D.bl true)) A) _
        rw [wR_some, truth_bl, wR_some, if_pos rfl, truth_bl, wR_some, if_pos rfl]
        exact rest .refl (by rw [em, if_pos (.inl hk)])
      rw [wR_tix (x := .str "data") (by rw [kD_tag hk]; rfl) rfl, wR_str, ne_str]
      show wR (ofO (some (D.bl false)) A) _
      rw [wR_some, truth_bl, wR_some, if_neg (by decide), wR_and, wR_cmp, wR_ix, wR_v5, wR_int, opI_tag, wR_some, wR_str, ne_str, tag_con]
      show wR (ofO (some (D.bl _)) A) _
      rw [wR_some, truth_bl, wR_some]
      by_cases hp : nc p = true
      · rw [if_pos (by simp [hp]), wR_not]
        apply any_con (F' := fun d => [some (wD w u), some (.ref r), some (rD (p :: t)), some (.tup (kD k :: kDs (kds cs))), some (kD k), some (pD p), none, none, none, none, none, some d]) rfl hr (fun d => rfl) (fun d => rfl) hne hz
        intro A1 k1
        rw [truth_bl]
        show wR (ofO (some (D.bl (!!allNc rows))) A1) _
        rw [wR_some, truth_bl, wR_some]
        by_cases hall : allNc rows = true
        · rw [if_pos (by simp [hall])]
          exact rest k1 (by rw [em, if_pos (.inr ⟨hp, hall⟩)])
        · rw [if_neg (by simpa using hall), wS_skip]
          exact walk k1 hk (fun z => hall z.2)
      · rw [if_neg (by simpa using hp), truth_bl, wR_some, if_neg (by simpa using hp), wS_skip]
        exact walk .refl hk (fun z => hp z.1)
end
end K26

/-! ## K26K -/
/-! K26K: useless. -/
namespace K26
open Ev PySem
def usl (n : Nat) (k : Kd) : List Pt → List Pt → List Nat
  | _, [] => []
  | ahead, p :: ps => if useful n (ahead.map fun q => [q]) [p] [k] = true then usl n k (ahead ++ [p]) ps else ahead.length :: usl n k (ahead ++ [p]) ps
def iD (i : Nat) : D := .int (i : Nat)
section
variable {N w u : Nat}
theorem sl_lst {cl : Cl0} {F : Fr} {A : AH} {i j a n : Nat} {xs : List D} (h : F[i]? = some (some (.ref a))) (ha : A[a]? = some (.lst xs)) (hj : F[j]? = some (some (iD n))) : ev cl (.sl (.var i) .nil (.cons (.var j) .nil)) F A = .ok (.ref A.length) (A ++ [.lst (xs.take n)]) := by
  have : wR (ev cl (.sl (.var i) .nil (.cons (.var j) .nil)) F A) (fun d B => d = .ref A.length ∧ B = A ++ [.lst (xs.take n)]) := by
    rw [wR_sl, wR_var h]
    have : evo cl (.cons (.var j) .nil) F A = .ok (some (n : Nat)) A := by
      show bnd (ev cl (.var j) F A) _ = _
      rw [var_ok hj]; rfl
    show wR (Res.ok none A) _
    rw [wR_ok, this, wR_ok]
    have e : opS A (.ref a) none (some (n : Nat)) = .ok (.ref A.length) (A ++ [.lst (cutD xs none (some (n : Nat)))]) := by
      simp only [opS, seqL_of ha]
    rw [e, wR_ok, cut_to]
    exact ⟨rfl, rfl⟩
  obtain ⟨x, B, e, e1, e2⟩ := eq_of_wR this
  rw [e, e1, e2]
abbrev ulBody : Sm := .seq (.set 6 (.lc (.nm 7) (.wk (.sl (.var 1) .nil (.cons (.var 4) .nil))) .nil (.tup (.cons (.var 7) .nil)) [7])) (.seq (.ite (.not (.call "is_useful" (.cons (.var 0) (.cons (.var 6) (.cons (.tup (.cons (.var 5) .nil)) (.cons (.tup (.cons (.var 2) .nil)) .nil)))))) (.seq (.ex (.mth "append" (.var 3) (.cons (.var 4) .nil))) .skip) .skip) .skip)
theorem ulloop {n h a b : Nat} {k : Kd} {all : List Pt} {A0 : AH} {Pn Pb Pc : Fr → AH → Prop} {Pr : D → AH → Prop} (hW : A0[w]? = some (.dct W)) (ha : A0[a]? = some (.lst (pDs all))) (hz : all.length ≤ 1000) (hn : wc k h < n) (h4 : wc k h ≤ 400) (ht : ∀ p ∈ all, WT k h p) :
    ∀ (ps ahead : List Pt) (acc : List Nat) (A : AH) (x4 x5 x6 x7 : Option D), all = ahead ++ ps → acc.length ≤ ahead.length → Kp A0 A → A0[b]? = none → A[b]? = some (.lst (acc.map iD)) →
    (∀ A' y4 y5 y6 y7, Kp A0 A' → A'[b]? = some (.lst ((acc ++ usl n k ahead ps).map iD)) → Pn [some (wD w u), some (.ref a), some (kD k), some (.ref b), y4, y5, y6, y7] A') →
    wS (forL (asgT (.tu (.cons (.nm 4) (.cons (.nm 5) .nil)))) [(a, .lst (pDs all))] (fun F' A' => sx (callF pg N (n + 2)) N ulBody F' A') (enumD ahead.length (pDs ps)) [some (wD w u), some (.ref a), some (kD k), some (.ref b), x4, x5, x6, x7] A) Pn Pb Pc Pr
  | [], ahead, acc, A, x4, x5, x6, x7, _, _, kp, hb, hb', h => by
    apply forS_nil (gOk_one (kp _ _ ha))
    exact h A x4 x5 x6 x7 kp (by rw [show usl n k ahead [] = [] from rfl, List.append_nil]; exact hb')
  | p :: ps, ahead, acc, A, x4, x5, x6, x7, e, hac, kp, hb, hb', hh => by
    have hah : ahead.length ≤ 1000 := by rw [e, List.length_append] at hz; omega
    show wS (forL _ _ _ (.tup [iD ahead.length, pD p] :: enumD (ahead.length + 1) (pDs ps)) _ _) _ _ _ _
    refine forS_cons (F' := [some (wD w u), some (.ref a), some (kD k), some (.ref b), some (iD ahead.length), some (pD p), x6, x7]) (gOk_one (kp _ _ ha)) rfl ?_
    have et : (pDs all).take ahead.length = pDs ahead := by
      rw [← pDs_take, e, List.take_left]
    have sl := sl_lst (cl := callF pg N (n + 2)) (F := [some (wD w u), some (.ref a), some (kD k), some (.ref b), some (iD ahead.length), some (pD p), x6, x7]) (A := A) (i := 1) (j := 4) (n := ahead.length) rfl (kp _ _ ha) rfl
    rw [et] at sl
    rw [wS_seq, wS_set]
    apply lc_pure2 (fun d => some (.tup [d])) sl (wk_lst new_at) (gOk_one new_at) (by rw [pDs_len]; exact hah)
    · intro x hx
      refine ⟨[some (wD w u), some (.ref a), some (kD k), some (.ref b), some (iD ahead.length), some (pD p), x6, some x], rfl, lcB_0 (by kernel_rfl)⟩
    rw [pDs_map ahead, ones_D]
    have hL : ((A ++ [AO.lst (ahead.map pD)]) ++ [AO.lst ((ahead.map fun p => [p]).map rD)])[(A ++ [AO.lst (ahead.map pD)]).length]? = some (.lst ((ahead.map fun p => [p]).map rD)) := new_at
    have k1 : Kp A ((A ++ [AO.lst (ahead.map pD)]) ++ [AO.lst ((ahead.map fun p => [p]).map rD)]) := Kp.refl.app.app
    generalize (A ++ [AO.lst (ahead.map pD)]).length = c at hL
    generalize (A ++ [AO.lst (ahead.map pD)]) ++ [AO.lst ((ahead.map fun p => [p]).map rD)] = A1 at hL k1
    show wS (sx _ N (.seq (.ite (.not (.call "is_useful" (.cons (.var 0) (.cons (.var 6) (.cons (.tup (.cons (.var 5) .nil)) (.cons (.tup (.cons (.var 2) .nil)) .nil)))))) _ .skip) .skip) [some (wD w u), some (.ref a), some (kD k), some (.ref b), some (iD ahead.length), some (pD p), some (.ref c), x7] A1) _ _ _ _
    rw [wS_seq, wS_ite, wR_tru, wR_not, wR_cl, wR_cons, wR_v0, wR_cons, wR_v6, wR_cons, wR_tup, wR_cons, wR_v5, wR_nil, wR_ifok (sz1 (by simp)), wR_cons, wR_tup, wR_cons, wR_v2, wR_nil, wR_ifok (sz1 (by simp)), wR_nil]
    have hpa : p ∈ all := by rw [e]; simp
    refine (useful_spec (N := N) (w := w) (u := u) n [(k, h)] (ahead.map fun p => [p]) [p] A1 c (k1 _ _ (kp _ _ hW)) hL (by simpa using hah) hn h4 (ones_typ fun q hq => ht q (by rw [e]; exact List.mem_append_left _ hq)) ⟨ht p hpa, rfl⟩).mono fun d A2 ⟨ed, k2⟩ => ?_
    subst ed
    rw [truth_bl]
    show wR (ofO (some (D.bl (!useful n (ahead.map fun p => [p]) [p] [k]))) A2) _
    rw [wR_some, truth_bl, wR_some]
    have kp2 := kp.trans (k1.trans k2)
    have hb2 := k2 _ _ (k1 _ _ hb')
    have e' : all = (ahead ++ [p]) ++ ps := by rw [e, List.append_assoc]; rfl
    have el : ahead.length + 1 = (ahead ++ [p]).length := by simp
    unfold usl at hh
    cases eu : useful n (ahead.map fun p => [p]) [p] [k] with
    | true =>
      rw [eu, if_pos rfl] at hh
      rw [if_neg (by decide), wS_skip, wS_skip, el]
      exact ulloop hW ha hz hn h4 ht ps (ahead ++ [p]) acc A2 _ _ _ _ e' (by simp; omega) kp2 hb hb2 hh
    | false =>
      rw [eu, if_neg (by decide)] at hh
      rw [if_pos (by decide), wS_seq, wS_ex, wR_mth, wR_v3, mkM_lst hb2 rfl, wR_some, wR_cons, wR_v4, wR_nil, append_eq hb2 (by rw [List.length_map, ev_sz]; omega), wR_ok, wS_skip, wS_skip, el]
      have e3 : acc.map iD ++ [iD ahead.length] = (acc ++ [ahead.length]).map iD := by simp
      rw [e3]
      refine ulloop hW ha hz hn h4 ht ps (ahead ++ [p]) (acc ++ [ahead.length]) _ _ _ _ _ e' (by simp; omega) (kp2.set hb) hb (set_at hb2) ?_
      intro A' y4 y5 y6 y7 k' h'
      refine hh A' y4 y5 y6 y7 k' ?_
      rw [h', List.append_assoc]
      rfl
theorem useless_spec {n h a : Nat} {k : Kd} {ps : List Pt} {A : AH} (hW : A[w]? = some (.dct W)) (ha : A[a]? = some (.lst (pDs ps))) (hz : ps.length ≤ 1000) (hn : wc k h < n) (h4 : wc k h ≤ 400) (ht : ∀ p ∈ ps, WT k h p) :
    FL A (callF pg N (n + 3) "useless" [wD w u, .ref a, kD k] A) ((usl n k [] ps).map iD) := by
  unfold FL
  rw [wR_call (fd := fn_15) rfl rfl]
  show wS (sx _ N (.seq (.set 3 (.lst .nil)) (.seq (.for (.tu (.cons (.nm 4) (.cons (.nm 5) .nil))) (.enm (.var 1)) ulBody) (.seq (.ret (.var 3)) .skip))) [some (wD w u), some (.ref a), some (kD k), none, none, none, none, none] A) _ _ _ _
  rw [wS_seq, wS_set, wR_lst, wR_nil, wR_ifok (sz1 (by simp))]
  show wS (sx _ N (.seq (.for (.tu (.cons (.nm 4) (.cons (.nm 5) .nil))) (.enm (.var 1)) ulBody) (.seq (.ret (.var 3)) .skip)) [some (wD w u), some (.ref a), some (kD k), some (.ref A.length), none, none, none, none] (A ++ [.lst (([] : List Nat).map iD)])) _ _ _ _
  have hw : wkEnum (A ++ [.lst (([] : List Nat).map iD)]) (.ref a) = some ⟨enumD 0 (pDs ps), [(a, .lst (pDs ps))], none⟩ := by
    simp only [wkEnum, wk_lst (app_at ha)]
  rw [wS_seq, wS_for, wR_enm, wR_v1, hw, wR_some]
  dsimp only
  refine ulloop hW ha hz hn h4 ht ps [] [] _ _ _ _ _ rfl (Nat.le_refl _) Kp.refl.app new_none new_at ?_
  intro A' y4 y5 y6 y7 k h'
  rw [wS_seq, wS_ret, wR_v3]
  exact ⟨A.length, rfl, k, new_none, h'⟩
end
end K26

/-! ## K26L -/
/-! K26L: check_pattern. -/
namespace K26
open Ev PySem
inductive CR where
  | ok (b : Bool) | bad (w : String) (path : List Nat)
def fnd (c : String) : Option Cn := [Cn.red, .blue, .dot, .line, .box, .odd].find? fun d => decide (c = d.s)
theorem fnd_s (c : Cn) : fnd c.s = some c := by cases c <;> decide
mutual
/-- the names of a pattern (is x among them), or what is wrong -/
def chk : Pt → Kd → List Nat → CR
  | .any, _, _ => .ok false
  | .nm _, _, _ => .ok true
  | .con c ps, k, path => match fnd c with
    | none => .bad "pattern" path
    | some d => if d.typ = k ∧ d.args.length = ps.length then chks ps d.args 0 path false else .bad "pattern" path
def chks : List Pt → List Kd → Nat → List Nat → Bool → CR
  | [], _, _, _, b => .ok b
  | _ :: _, [], _, _, b => .ok b
  | p :: ps, k :: ks, i, path, b => match chk p k (path ++ [i]) with
    | .bad w q => .bad w q
    | .ok c => if (c && b) = true then .bad "twice" path else chks ps ks (i + 1) path (c || b)
end
def xl (b : Bool) : List D := if b then [.str "x"] else []

mutual
def knw : Pt → Prop
  | .any => True
  | .nm _ => True
  | .con c ps => (c = "No" ∨ ∃ d : Cn, c = d.s) ∧ knws ps
def knws : List Pt → Prop
  | [] => True
  | p :: ps => knw p ∧ knws ps
end
def pth (path : List Nat) : D := .tup (path.map iD)
def tpx (w : String) (path : List Nat) : Xc := ⟨"TypeProblem", [("code", .str w), ("path", pth path)]⟩
theorem wT_forE {cl : Cl0} {N : Nat} {F : Fr} {A : AH} {P : PX} {t : Tg} {e : Ex} {b : Sm} (h : wE (ev cl e F A) (fun x A1 => ∃ items g, wkOf A1 x = some ⟨items, g, none⟩ ∧ wT (forL (asgT t) g (fun F' A' => sx cl N b F' A') items F A1) P) (fun x A => P.ex x F A)) : wT (sx cl N (.for t (.wk e) b) F A) P := by
  show wT (bns F (bnd (ev cl e F A) fun x A1 => ofO (wkOf A1 x) A1) fun w A1 => unlS w.lock (forL (asgT t) w.g (fun F' A' => sx cl N b F' A') w.items F (lockA A1 w.lock))) P
  rw [wT_bns, wE_bnd]
  refine h.mono ?_ (fun _ _ h => h)
  intro x A1 ⟨items, g, e, h⟩
  rw [e, wE_some]
  exact h
section
variable {N w u : Nat}
def CK (N w u : Nat) (p : Pt) (n : Nat) : Prop := ∀ (k : Kd) (path : List Nat) (A : AH), A[w]? = some (.dct W) → path.length + ph p ≤ 900 →
  wE (callF pg N n "check_pattern" [wD w u, pD p, kD k, pth path] A)
    (fun r A' => ∃ b, chk p k path = .ok b ∧ ∃ a, r = .ref a ∧ Kp A A' ∧ A[a]? = none ∧ A'[a]? = some (.lst (xl b)))
    (fun x A' => ∃ v q, chk p k path = .bad v q ∧ x = tpx v q ∧ Kp A A')
abbrev ckIn : Sm := .seq (.ite (.cmp .mem (.var 8) (.var 5)) (.seq (.rs2 "TypeProblem" (.cons (.str "twice") (.cons (.var 3) .nil))) .skip) .skip) (.seq (.ex (.mth "append" (.var 5) (.cons (.var 8) .nil))) .skip)
abbrev ckBody : Sm := .seq (.for (.nm 8) (.wk (.call "check_pattern" (.cons (.var 0) (.cons (.var 7) (.cons (.ix (.ix (.var 4) (.int 1)) (.var 6)) (.cons (.op .add (.var 3) (.tup (.cons (.var 6) .nil))) .nil)))))) ckIn) .skip
theorem mem_xl {A : AH} {b : Nat} {c : Bool} (h : A[b]? = some (.lst (xl c))) : opC A .mem (.str "x") (.ref b) = some c := by
  show memD A (.str "x") (.ref b) = some c
  have h1 : dctL A b = none := by simp [dctL, h]
  have h2 : seqL A b = some (xl c) := seqL_of h
  simp only [memD, h1, h2]
  cases c <;> rfl
theorem ckloop {n b : Nat} {pd kd : D} {d : Cn} {path : List Nat} {A0 : AH} {P : PX} (hW : A0[w]? = some (.dct W)) (hb : A0[b]? = none) (hp : path.length ≤ 900) (tail : List Kd) : ∀ (ps : List Pt) (i : Nat) (c : Bool) (A : AH) (x6 x7 x8 : Option D), (∀ p ∈ ps, CK N w u p n ∧ path.length + 1 + ph p ≤ 900) → d.args.drop i = tail → tail.length = ps.length → Kp A0 A → A[b]? = some (.lst (xl c)) →
    (match chks ps tail i path c with
      | .ok e => ∀ A' y6 y7 y8, Kp A0 A' → A'[b]? = some (.lst (xl e)) → P.nx [some (wD w u), some pd, some kd, some (pth path), some (.tup [.str d.typ.s, .tup (kDs d.args)]), some (.ref b), y6, y7, y8] A'
      | .bad v q => ∀ A' F', Kp A0 A' → P.ex (tpx v q) F' A') →
    wT (forL (asgT (.tu (.cons (.nm 6) (.cons (.nm 7) .nil)))) [] (fun F' A' => sx (callF pg N n) N ckBody F' A') (enumD i (pDs ps)) [some (wD w u), some pd, some kd, some (pth path), some (.tup [.str d.typ.s, .tup (kDs d.args)]), some (.ref b), x6, x7, x8] A) P := by
  intro ps
  induction ps generalizing tail with
  | nil =>
    intro i c A x6 x7 x8 _ ht hl kp hb' h
    have : tail = [] := List.eq_nil_of_length_eq_zero hl
    subst this
    apply forU_nil rfl
    exact h A x6 x7 x8 kp hb'
  | cons p ps IH =>
    intro i c A x6 x7 x8 ih ht hl kp hb' h
    obtain ⟨k, ks, rfl⟩ : ∃ k ks, tail = k :: ks := by
      cases tail with
      | nil => cases hl
      | cons k ks => exact ⟨k, ks, rfl⟩
    have hk : d.args[i]? = some k := by
      have := congrArg (·[0]?) ht
      simpa using this
    have hi : i < d.args.length := (List.getElem?_eq_some_iff.mp hk).1
    have hd2 : d.args.length ≤ 2 := by cases d <;> simp [Cn.args]
    have hi2 : i ≤ 2 := by omega
    have ht' : d.args.drop (i + 1) = ks := by
      rw [← List.drop_drop, ht]; rfl
    show wT (forL _ _ _ (.tup [iD i, pD p] :: enumD (i + 1) (pDs ps)) _ _) _
    refine forU_cons (F' := [some (wD w u), some pd, some kd, some (pth path), some (.tup [.str d.typ.s, .tup (kDs d.args)]), some (.ref b), some (iD i), some (pD p), x8]) rfl rfl ?_
    rw [wT_seq]
    apply wT_forE
    apply wE_cl
    have get : opI A (.tup (kDs d.args)) (iD i) = some (kD k) := by
      show L2.atI (kDs d.args) (i : Nat) = _
      rw [atI_nat]
      unfold kDs
      rw [List.getElem?_map, hk]; rfl
    rw [wR_cons, wR_v0, wR_cons, wR_v7, wR_cons, wR_ix, wR_tix (x := .tup (kDs d.args)) rfl rfl, wR_v6, get, wR_some, wR_cons, wR_op, wR_v3, wR_tup, wR_cons, wR_v6, wR_nil, wR_ifok (sz1 (by simp))]
    show wR (opB A .add (.tup (path.map iD)) (.tup [iD i])) _
    rw [add_tup (by simp; omega), wR_ok, wR_nil]
    have e1 : path.map iD ++ [iD i] = (path ++ [i]).map iD := by simp
    rw [e1]
    obtain ⟨ihp, hph⟩ := ih p List.mem_cons_self
    unfold chks at h
    refine (ihp k (path ++ [i]) A (kp _ _ hW) (by simp; omega)).mono ?_ ?_
    · intro r A1 ⟨e, ee, a, er, k1, ha, ha'⟩
      subst er
      rw [ee] at h
      dsimp only at h
      have hb1 := k1 _ _ hb'
      have hne : b ≠ a := fun z => by
        rw [z, ha] at hb'
        cases hb'
      refine ⟨xl e, _, wk_lst ha', ?_⟩
      cases e with
      | false =>
        refine forU_nil (gOk_one ha') ?_
        dsimp only
        rw [wT_skip]
        dsimp only
        rw [Bool.false_and, if_neg (by decide), Bool.false_or] at h
        exact IH ks (i + 1) c A1 _ _ _ (fun p hp => ih p (List.mem_cons_of_mem _ hp)) ht' (by simpa using hl) (kp.trans k1) hb1 h
      | true =>
        rw [Bool.true_and, Bool.true_or] at h
        show wT (forL _ _ _ [.str "x"] _ _) _
        refine forU_cons (F' := [some (wD w u), some pd, some kd, some (pth path), some (.tup [.str d.typ.s, .tup (kDs d.args)]), some (.ref b), some (iD i), some (pD p), some (.str "x")]) (gOk_one ha') rfl ?_
        rw [wT_seq]
        apply wT_if
        rw [wR_cmp, wR_v8, wR_v5, mem_xl hb1]
        show wR (ofO (some (D.bl c)) A1) _
        rw [wR_some, truth_bl, wR_some]
        cases c with
        | true =>
          rw [if_pos rfl] at h
          rw [if_pos rfl, wT_seq]
          apply wT_rs2
          rw [wR_cons, wR_str, wR_cons, wR_v3, wR_nil]
          exact ⟨_, _, rfl, h A1 _ (kp.trans k1)⟩
        | false =>
          rw [if_neg (by decide)] at h
          rw [if_neg (by decide), wT_skip]
          dsimp only
          rw [wT_seq, wT_ex]
          apply wE_of
          rw [wR_mth, wR_v5, mkM_lst hb1 rfl, wR_some, wR_cons, wR_v8, wR_nil, append_eq hb1 (by rw [ev_sz]; simp [xl]), wR_ok]
          dsimp only
          rw [wT_skip]
          dsimp only
          refine forU_nil (gOk_one (set_ne ha' hne)) ?_
          dsimp only
          rw [wT_skip]
          dsimp only
          exact IH ks (i + 1) true _ _ _ _ (fun p hp => ih p (List.mem_cons_of_mem _ hp)) ht' (by simpa using hl) ((kp.trans k1).set hb) (set_at hb1) h
    · intro x A1 ⟨v, q, ee, ex, k1⟩
      rw [ee] at h
      dsimp only at h
      rw [ex]
      exact h A1 _ (kp.trans k1)
theorem knw_mem {p : Pt} : ∀ {ps : List Pt}, knws ps → p ∈ ps → knw p
  | q :: ps, h, hp => by
    unfold knws at h
    rcases List.mem_cons.mp hp with rfl | hp
    · exact h.1
    · exact knw_mem h.2 hp
theorem ne_kind {A : AH} {d : Cn} {k : Kd} : opC A .ne (.tup [.str "data", .str d.typ.s]) (kD k) = some (!decide (d.typ = k)) := by cases d <;> cases k <;> kernel_rfl
theorem ne_int {A : AH} {i j : Nat} : opC A .ne (.int (i : Nat)) (.int (j : Nat)) = some (!decide (i = j)) := by
  show (opC A .eq (.int i) (.int j)).map (!·) = _
  rw [eq_int]
  show some (!decide ((i : Int) = j)) = _
  by_cases h : i = j
  · rw [decide_eq_true h, decide_eq_true (by omega)]
  · rw [decide_eq_false h, decide_eq_false (by omega)]
theorem check_spec : ∀ (n : Nat) (p : Pt), ph p + 1 < n → nmx p = true → knw p → CK N w u p n
  | 0, p, h, _, _ => by omega
  | 1, p, h, _, _ => by omega
  | n + 2, .any, h, _, _ => fun k path A hW hp => by
    apply wE_of
    refine wR_eq (a := .ref A.length) (A := A ++ [.lst (xl false)]) (by kernel_rfl) ?_
    exact ⟨false, by simp [chk], A.length, rfl, Kp.refl.app, new_none, new_at⟩
  | n + 2, .nm x, h, hx, _ => fun k path A hW hp => by
    have : x = "x" := by simpa [nmx] using hx
    subst this
    apply wE_of
    refine wR_eq (a := .ref A.length) (A := A ++ [.lst (xl true)]) (by kernel_rfl) ?_
    exact ⟨true, by simp [chk], A.length, rfl, Kp.refl.app, new_none, new_at⟩
  | n + 2, .con c ps, h, hx, hkn => fun k path A hW hp => by
    have h : phs ps + 1 + 1 < n + 2 := h
    have hp : path.length + (phs ps + 1) ≤ 900 := hp
    unfold knw at hkn
    rw [wE_call (fd := fn_8) rfl rfl]
    show wT (sx _ N fn_8.body [some (wD w u), some (pD (.con c ps)), some (kD k), some (pth path), none, none, none, none, none] A) _
    have e1 : sx (callF pg N (n + 1)) N fn_8.body [some (wD w u), some (pD (.con c ps)), some (kD k), some (pth path), none, none, none, none, none] A = sx (callF pg N (n + 1)) N (drp 2 fn_8.body) [some (wD w u), some (pD (.con c ps)), some (kD k), some (pth path), none, none, none, none, none] A := by kernel_rfl
    rw [e1]
    show wT (sx _ N (.seq (.set 4 (.call "constructor" (.cons (.var 0) (.cons (.ix (.var 1) (.int 1)) .nil)))) (drp 3 fn_8.body)) _ A) _
    rw [wT_seq]
    apply wT_setR
    rw [wR_cl, wR_cons, wR_v0, wR_cons, wR_tix (x := .str c) rfl rfl, wR_nil]
    rcases hkn.1 with rfl | ⟨d, rfl⟩
    · rw [con_no hW, wR_ok]
      dsimp only
      show wT (sx _ N (.seq (.ite (.or (.cmp .is (.var 4) .non) _) (.seq (.rs2 "TypeProblem" (.cons (.str "pattern") (.cons (.var 3) .nil))) .skip) .skip) _) [some (wD w u), some (pD (.con "No" ps)), some (kD k), some (pth path), some .non, none, none, none, none] A) _
      rw [wT_seq]
      apply wT_if
      rw [wR_or, wR_cmp, wR_v4, wR_non, is_non]
      show wR (ofO (some (D.bl true)) A) _
      rw [wR_some, truth_bl, wR_some, if_pos rfl, truth_bl, wR_some, if_pos rfl, wT_seq]
      apply wT_rs2
      rw [wR_cons, wR_str, wR_cons, wR_v3, wR_nil]
      refine ⟨_, _, rfl, "pattern", path, ?_, rfl, .refl⟩
      unfold chk
      rw [show fnd "No" = none by decide]
    · rw [con_of hW, wR_ok]
      dsimp only
      show wT (sx _ N (.seq (.ite (.or (.cmp .is (.var 4) .non) (.or (.cmp .ne (.tup (.cons (.str "data") (.cons (.ix (.var 4) (.int 0)) .nil))) (.var 2)) (.cmp .ne (.bi "len" (.cons (.ix (.var 4) (.int 1)) .nil)) (.bi "len" (.cons (.ix (.var 1) (.int 2)) .nil))))) (.seq (.rs2 "TypeProblem" (.cons (.str "pattern") (.cons (.var 3) .nil))) .skip) .skip) (drp 4 fn_8.body)) [some (wD w u), some (pD (.con d.s ps)), some (kD k), some (pth path), some (.tup [.str d.typ.s, .tup (kDs d.args)]), none, none, none, none] A) _
      have ec : chk (.con d.s ps) k path = if d.typ = k ∧ d.args.length = ps.length then chks ps d.args 0 path false else .bad "pattern" path := by
        simp only [chk, fnd_s]
      have bad : ¬ (d.typ = k ∧ d.args.length = ps.length) → ∀ {A1 : AH} {P : PX}, Kp A A1 → (∀ F', P.ex = (fun x _ A' => ∃ v q, chk (.con d.s ps) k path = .bad v q ∧ x = tpx v q ∧ Kp A A') → P.ex (tpx "pattern" path) F' A1) := fun hn A1 P k1 F' e => by
        rw [e]
        exact ⟨"pattern", path, by rw [ec, if_neg hn], rfl, k1⟩
      rw [wT_seq]
      apply wT_if
      rw [wR_or, wR_cmp, wR_v4, wR_non, is_tup]
      show wR (ofO (some (D.bl false)) A) _
      rw [wR_some, truth_bl, wR_some, if_neg (by decide), wR_or, wR_cmp, wR_tup, wR_cons, wR_str, wR_cons, wR_tix (x := .str d.typ.s) rfl rfl, wR_nil, wR_ifok (sz1 (by simp)), wR_v2, ne_kind]
      show wR (ofO (some (D.bl (!decide (d.typ = k)))) A) _
      rw [wR_some, truth_bl, wR_some]
      by_cases ht : d.typ = k
      · rw [if_neg (by simp [ht]), wR_cmp, wR_bi, wR_cons, wR_tix (x := .tup (kDs d.args)) rfl rfl, wR_nil, len_tup, wR_ok, wR_bi, wR_cons, wR_tix (x := .tup (pDs ps)) rfl rfl, wR_nil, len_tup, wR_ok, ne_int, pDs_len, show (kDs d.args).length = d.args.length from List.length_map _]
        show wR (ofO (some (D.bl (!decide (d.args.length = ps.length)))) A) _
        rw [wR_some, truth_bl, wR_some]
        by_cases hl : d.args.length = ps.length
        · rw [if_neg (by simp [hl]), wT_skip]
          dsimp only
          show wT (sx _ N (.seq (.set 5 (.lst .nil)) (.seq (.for (.tu (.cons (.nm 6) (.cons (.nm 7) .nil))) (.enm (.ix (.var 1) (.int 2))) ckBody) (.seq (.ret (.var 5)) .skip))) _ A) _
          rw [wT_seq]
          apply wT_setR
          rw [wR_lst, wR_nil, wR_ifok (sz1 (by simp))]
          dsimp only
          show wT (sx _ N (.seq (.for (.tu (.cons (.nm 6) (.cons (.nm 7) .nil))) (.enm (.ix (.var 1) (.int 2))) ckBody) (.seq (.ret (.var 5)) .skip)) [some (wD w u), some (pD (.con d.s ps)), some (kD k), some (pth path), some (.tup [.str d.typ.s, .tup (kDs d.args)]), some (.ref A.length), none, none, none] (A ++ [.lst (xl false)])) _
          rw [wT_seq]
          apply wT_for
          rw [wR_enm, wR_tix (x := .tup (pDs ps)) rfl rfl]
          show wR (ofO (some (Wk.mk (enumD 0 (pDs ps)) [] none)) (A ++ [.lst (xl false)])) _
          rw [wR_some]
          refine ⟨rfl, ?_⟩
          dsimp only
          refine ckloop (A0 := A) hW new_none (by omega) d.args ps 0 false _ _ _ _ (fun p hp' => ⟨check_spec (n + 1) p (by have := mem_phs hp'; omega) (nmx_mem hx hp') (knw_mem hkn.2 hp'), by have := mem_phs hp'; omega⟩) rfl hl Kp.refl.app new_at ?_
          have ec2 : chk (.con d.s ps) k path = chks ps d.args 0 path false := by rw [ec, if_pos ⟨ht, hl⟩]
          cases e : chks ps d.args 0 path false with
          | ok b =>
            intro A' y6 y7 y8 k1 hb
            dsimp only
            rw [wT_seq]
            apply wT_retR
            rw [wR_v5]
            exact ⟨b, by rw [ec2, e], A.length, rfl, k1, new_none, hb⟩
          | bad v q =>
            intro A' F' k1
            exact ⟨v, q, by rw [ec2, e], rfl, k1⟩
        · rw [if_pos (by simp [hl]), wT_seq]
          apply wT_rs2
          rw [wR_cons, wR_str, wR_cons, wR_v3, wR_nil]
          refine ⟨_, _, rfl, ?_⟩
          exact ⟨"pattern", path, by rw [ec, if_neg (fun z => hl z.2)], rfl, .refl⟩
      · rw [if_pos (by simp [ht]), truth_bl, wR_some, if_pos (by simp [ht]), wT_seq]
        apply wT_rs2
        rw [wR_cons, wR_str, wR_cons, wR_v3, wR_nil]
        exact ⟨_, _, rfl, "pattern", path, by rw [ec, if_neg (fun z => ht z.1)], rfl, .refl⟩
end
end K26

/-! ## K26M -/
/-! K26M: _law_names, _law_told. -/
namespace K26
open Ev PySem
section
variable {N : Nat}
theorem ok_of {α : Type} {r : Res α} {a : α} {A : AH} (h : wR r fun d B => d = a ∧ B = A) : r = .ok a A := by
  obtain ⟨x, B, e, e1, e2⟩ := eq_of_wR h
  rw [e, e1, e2]
abbrev caE : Ex := .ite (.cmp .eq (.ix (.var 1) (.int 0)) (.str "data")) (.ix (.ix (.call "_law_world" .nil) (.int 0)) (.ix (.var 1) (.int 1))) (.tup .nil)
def wJ (k : Kd) : AH := if k = .int then [] else [.dct W, .dct []]
theorem dget_W {k : Kd} (hk : k ≠ .int) : dget W (.str k.s) = some (.tup ((cases k).map cD)) := by cases k <;> first | rfl | exact absurd rfl hk
theorem cases_ev {n : Nat} {F : Fr} {A : AH} {k : Kd} (h1 : F[1]? = some (some (kD k))) : ev (callF pg N (n + 1)) caE F A = .ok (.tup ((cases k).map cD)) (A ++ wJ k) := by
  apply ok_of
  rw [wR_ite, wR_cmp]
  by_cases hk : k = .int
  · subst hk
    rw [wR_tix (x := .str "int") h1 rfl, wR_str, eq_str]
    show wR (ofO (some (D.bl false)) A) _
    rw [wR_some, truth_bl, wR_some, if_neg (by decide), wR_tup, wR_nil, wR_ifok (sz1 (by simp))]
    exact ⟨rfl, by simp [wJ]⟩
  · rw [wR_tix (x := .str "data") (by rw [h1, kD_tag hk]) rfl, wR_str, eq_str]
    show wR (ofO (some (D.bl true)) A) _
    rw [wR_some, truth_bl, wR_some, if_pos rfl, wR_ix, wR_ix, wR_cl, wR_nil, world_of, wR_ok, wR_int]
    show wR (ofO (some (D.ref A.length)) _) _
    have hw : (A ++ [AO.dct W, .dct []])[A.length]? = some (.dct W) := by simp
    rw [wR_some, wR_tix (x := .str k.s) (by rw [h1, kD_tag hk]) rfl, dct_get hw rfl, dget_W hk, wR_some]
    exact ⟨rfl, by simp [wJ, hk]⟩
def shF (c : String) : D → Option D
  | .tup [.str s, ks] => if s = c then some ks else none
  | _ => none
theorem sh_no (k : Kd) : ((cases k).map cD).filterMap (shF "No") = [] := by cases k <;> rfl
theorem sh_of (d : Cn) (k : Kd) : ((cases k).map cD).filterMap (shF d.s) = if d.typ = k then [.tup (kDs d.args)] else [] := by cases d <;> cases k <;> rfl
theorem eq_ll {A : AH} {a b : Nat} {xs : List D} {ps : List PyData} (ha : A[a]? = some (.lst xs)) (hb : A[b]? = some (.lst [])) (hx : toPds xs = some ps) (hs : SeqAt.shaped (.list ps) = true) (he : PyData.eqv (.list ps) (.list []) = xs.isEmpty) : opC A .eq (.ref a) (.ref b) = some xs.isEmpty := by
  show eqO A (.ref a) (.ref b) = _
  have h1 : dctO A (.ref a) = none := by simp [dctO, ha]
  have h3 : toP A (.ref a) = some (.list ps) := by simp [toP, seqL_of ha, hx]
  have h4 : toP A (.ref b) = some (.list []) := by simp [toP, seqL_of hb, toPds]
  have hs2 : SeqAt.shaped (.list ([] : List PyData)) = true := by decide
  simp only [eqO, h1, eqD, h3, h4, hs, hs2, Bool.and_self, if_true, he]
theorem eq_none {A : AH} {a b : Nat} (ha : A[a]? = some (.lst [])) (hb : A[b]? = some (.lst [])) : opC A .eq (.ref a) (.ref b) = some true := eq_ll (ps := []) ha hb rfl (by decide) (by decide)
theorem eq_args {A : AH} {a b : Nat} {d : Cn} (ha : A[a]? = some (.lst [.tup (kDs d.args)])) (hb : A[b]? = some (.lst [])) : opC A .eq (.ref a) (.ref b) = some false := by
  cases d <;> exact eq_ll ha hb rfl (by kernel_rfl) (by kernel_rfl)
theorem xl_app {c e : Bool} (h : (e && c) = false) : xl c ++ xl e = xl (e || c) := by cases c <;> cases e <;> first | rfl | cases h
theorem xl_len {c : Bool} : (xl c).length ≤ 1 := by cases c <;> simp [xl]
def LR (A A' : AH) (o : CR) (r : D) : Prop := Kp A A' ∧ match o with
  | .ok b => ∃ a, r = .tup [.str "ok", .ref a] ∧ A'[a]? = some (.lst (xl b))
  | .bad v q => r = .tup [.str "bad", .str v, pth q]
def LN (N : Nat) (p : Pt) (n : Nat) : Prop := ∀ (k : Kd) (path : List Nat) (A : AH), path.length + ph p ≤ 900 → wR (callF pg N n "_law_names" [pD p, kD k, pth path] A) (fun r A' => LR A A' (chk p k path) r)
abbrev nmBody : Sm := .seq (.set 6 (.call "_law_names" (.cons (.ix (.ix (.var 0) (.int 2)) (.var 5)) (.cons (.ix (.ix (.var 3) (.int 0)) (.var 5)) (.cons (.op .add (.var 2) (.tup (.cons (.var 5) .nil))) .nil))))) (.seq (.ite (.cmp .eq (.ix (.var 6) (.int 0)) (.str "bad")) (.seq (.ret (.var 6)) .skip) .skip) (.seq (.ite (.bi "any" (.cons (.lc (.nm 9) (.wk (.ix (.var 6) (.int 1))) .nil (.cmp .mem (.var 9) (.var 4)) [9]) .nil)) (.seq (.ret (.tup (.cons (.str "bad") (.cons (.str "twice") (.cons (.var 2) .nil))))) .skip) .skip) (.seq (.set 4 (.op .add (.var 4) (.ix (.var 6) (.int 1)))) .skip)))
theorem at_pD {A : AH} {ps : List Pt} {i : Nat} {p : Pt} (h : ps[i]? = some p) : opI A (.tup (pDs ps)) (.int (i : Nat)) = some (pD p) := by
  show L2.atI (pDs ps) (i : Nat) = _
  rw [atI_nat, pDs_map, List.getElem?_map, h]; rfl
theorem at_kD {A : AH} {ks : List Kd} {i : Nat} {k : Kd} (h : ks[i]? = some k) : opI A (.tup (kDs ks)) (.int (i : Nat)) = some (kD k) := by
  show L2.atI (kDs ks) (i : Nat) = _
  rw [atI_nat]
  unfold kDs
  rw [List.getElem?_map, h]; rfl
theorem any_mem {n : Nat} {F : Fr} {A : AH} {P : D → AH → Prop} {b a : Nat} {c e : Bool} {s : D} {F' : D → Fr} (h4 : F[4]? = some (some (.ref b))) (h6 : F[6]? = some (some (.tup [s, .ref a]))) (hb : A[b]? = some (.lst (xl c))) (ha : A[a]? = some (.lst (xl e))) (hi : ∀ d, asgT (.nm 9) d (wipeF F [9]) = some (F' d)) (hv : ∀ d, (F' d)[9]? = some (some d)) (hv4 : ∀ d, (F' d)[4]? = some (some (.ref b)))
    (p : ∀ A', Kp A A' → P (.bl (e && c)) A') : wR (ev (callF pg N n) (.bi "any" (.cons (.lc (.nm 9) (.wk (.ix (.var 6) (.int 1))) .nil (.cmp .mem (.var 9) (.var 4)) [9]) .nil)) F A) P := by
  rw [wR_bi, wR_cons]
  have he : ev (callF pg N n) (.ix (.var 6) (.int 1)) F A = .ok (.ref a) A := ok_of (by rw [wR_tix (x := .ref a) h6 rfl]; exact ⟨rfl, rfl⟩)
  apply lc_pure (fun _ => some (.bl c)) he (wk_lst ha) (gOk_one ha) (by have := xl_len (c := e); omega)
  · intro x hx
    have : x = .str "x" := by
      cases e with
      | true => simpa [xl] using hx
      | false => simp [xl] at hx
    subst this
    refine ⟨F' (.str "x"), hi _, lcB_0 (ok_of ?_)⟩
    rw [wR_cmp, wR_var (hv _), wR_var (hv4 _), mem_xl hb]
    exact wR_some.mpr ⟨rfl, rfl⟩
  · rw [wR_nil]
    have e1 : (xl e).filterMap (fun _ => some (D.bl c)) = if e then [D.bl c] else [] := by cases e <;> rfl
    rw [e1]
    have : biF (A ++ [AO.lst (if e then [D.bl c] else [])]) "any" [.ref A.length] = .ok (.bl (e && c)) (A ++ [AO.lst (if e then [D.bl c] else [])]) := by
      show biAny _ [.ref A.length] = _
      have h1 : (seqL (A ++ [AO.lst (if e then [D.bl c] else [])]) A.length).bind blsOf = some (if e then [c] else []) := by
        rw [seqL_of new_at]
        cases e <;> rfl
      simp only [biAny, h1]
      cases e <;> cases c <;> rfl
    rw [this, wR_ok]
    exact p _ Kp.refl.app
theorem chks_step {ps : List Pt} {ks : List Kd} {i : Nat} {path : List Nat} {c : Bool} {p : Pt} {k : Kd} (hp : ps[i]? = some p) (hk : ks[i]? = some k) : chks (ps.drop i) (ks.drop i) i path c = match chk p k (path ++ [i]) with
    | .bad w q => .bad w q
    | .ok e => if (e && c) = true then .bad "twice" path else chks (ps.drop (i + 1)) (ks.drop (i + 1)) (i + 1) path (e || c) := by
  rw [List.drop_eq_getElem_cons (List.getElem?_eq_some_iff.mp hp).1, List.drop_eq_getElem_cons (List.getElem?_eq_some_iff.mp hk).1, (List.getElem?_eq_some_iff.mp hp).2, (List.getElem?_eq_some_iff.mp hk).2]
  simp only [chks]
  all_goals (cases chk p k (path ++ [i]) <;> rfl)
theorem names_spec : ∀ (n : Nat) (p : Pt), ph p + 1 < n → nmx p = true → knw p → LN N p n
  | 0, p, h, _, _ => by omega
  | 1, p, h, _, _ => by omega
  | n + 2, .any, h, _, _ => fun k path A hp => by
    refine wR_eq (a := .tup [.str "ok", .ref A.length]) (A := A ++ [.lst (xl false)]) (by kernel_rfl) ?_
    refine ⟨Kp.refl.app, ?_⟩
    simp only [chk]
    exact ⟨A.length, rfl, new_at⟩
  | n + 2, .nm x, h, hx, _ => fun k path A hp => by
    have : x = "x" := by simpa [nmx] using hx
    subst this
    refine wR_eq (a := .tup [.str "ok", .ref A.length]) (A := A ++ [.lst (xl true)]) (by kernel_rfl) ?_
    refine ⟨Kp.refl.app, ?_⟩
    simp only [chk]
    exact ⟨A.length, rfl, new_at⟩
  | n + 2, .con c ps, h, hx, hkn => fun k path A hp => by
    have h : phs ps + 1 + 1 < n + 2 := h
    have hp : path.length + (phs ps + 1) ≤ 900 := hp
    unfold knw at hkn
    rw [wR_call (fd := fn_26) rfl rfl]
    show wS (sx _ N fn_26.body [some (pD (.con c ps)), some (kD k), some (pth path), none, none, none, none, none, none, none] A) _ _ _ _
    have e1 : sx (callF pg N (n + 1)) N fn_26.body [some (pD (.con c ps)), some (kD k), some (pth path), none, none, none, none, none, none, none] A = sx (callF pg N (n + 1)) N (drp 2 fn_26.body) [some (pD (.con c ps)), some (kD k), some (pth path), none, none, none, none, none, none, none] A := by kernel_rfl
    rw [e1]
    show wS (sx _ N (.seq (.set 3 (.lc (.tu (.cons (.nm 7) (.cons (.nm 8) .nil))) (.wk caE) (.cons (.cmp .eq (.var 7) (.ix (.var 0) (.int 1))) .nil) (.var 8) [7, 8])) (drp 3 fn_26.body)) _ A) _ _ _ _
    rw [wS_seq, wS_set]
    apply lc_pure2 (shF c) (cases_ev rfl) rfl rfl (by cases k <;> decide)
    · intro x hx
      obtain ⟨d, _, rfl⟩ := List.mem_map.mp hx
      refine ⟨[some (pD (.con c ps)), some (kD k), some (pth path), none, none, none, none, some (.str d.s), some (.tup (kDs d.args)), none], rfl, ?_⟩
      have : shF c (cD d) = if (decide (d.s = c)) = true then some (.tup (kDs d.args)) else none := by simp [shF, cD]
      rw [this]
      refine lcB_1 (tru_eq ?_) fun _ => ev_eq ?_
      · rw [wR_tru, wR_cmp, wR_v7, wR_tix (x := .str c) rfl rfl, eq_str]
        show wR (ofO (some (D.bl (decide (d.s = c)))) _) _
        rw [wR_some, truth_bl, wR_some]
        exact ⟨rfl, rfl⟩
      · rw [wR_v8]
        exact ⟨rfl, rfl⟩
    have kA : ∀ L, Kp A ((A ++ wJ k) ++ [AO.lst L]) := fun L => Kp.refl.app.app
    have bad : ∀ {A1 : AH} {x3 : D} {Pn : Fr → AH → Prop}, Kp A A1 → chk (.con c ps) k path = .bad "pattern" path → wS (sx (callF pg N (n + 1)) N (.seq (.ret (.tup (.cons (.str "bad") (.cons (.str "pattern") (.cons (.var 2) .nil))))) .skip) [some (pD (.con c ps)), some (kD k), some (pth path), some x3, none, none, none, none, none, none] A1) Pn (fun _ _ => False) (fun _ _ => False) (fun r A' => LR A A' (chk (.con c ps) k path) r) := by
      intro A1 x3 Pn k1 e
      rw [wS_seq, wS_ret, wR_tup, wR_cons, wR_str, wR_cons, wR_str, wR_cons, wR_v2, wR_nil, wR_ifok (sz1 (by simp)), e]
      exact ⟨k1, rfl⟩
    have emp : ∀ {A1 : AH} {a : Nat}, Kp A A1 → A1[a]? = some (.lst []) → chk (.con c ps) k path = .bad "pattern" path → wS (sx (callF pg N (n + 1)) N (drp 3 fn_26.body) [some (pD (.con c ps)), some (kD k), some (pth path), some (.ref a), none, none, none, none, none, none] A1) (fun _ _ => False) (fun _ _ => False) (fun _ _ => False) (fun r A' => LR A A' (chk (.con c ps) k path) r) := by
      intro A1 a k1 ha e
      show wS (sx _ N (.seq (.ite (.or (.cmp .eq (.var 3) (.lst .nil)) _) (.seq (.ret (.tup (.cons (.str "bad") (.cons (.str "pattern") (.cons (.var 2) .nil))))) .skip) .skip) _) _ A1) _ _ _ _
      rw [wS_seq, wS_ite, wR_tru, wR_or, wR_cmp, wR_v3, wR_lst, wR_nil, wR_ifok (sz1 (by simp)), eq_none (app_at ha) new_at]
      show wR (ofO (some (D.bl true)) _) _
      rw [wR_some, truth_bl, wR_some, if_pos rfl, truth_bl, wR_some, if_pos rfl]
      exact (bad k1.app e).mono (fun _ _ z => z) (fun _ _ z => z) (fun _ _ z => z) (fun _ _ z => z)
    have low : ∀ {r : SR} {Pn : Fr → AH → Prop}, wS r (fun _ _ => False) (fun _ _ => False) (fun _ _ => False) (fun r A' => LR A A' (chk (.con c ps) k path) r) → wS r Pn (fun _ _ => False) (fun _ _ => False) (fun r A' => LR A A' (chk (.con c ps) k path) r) := fun h => h.mono (fun _ _ z => z.elim) (fun _ _ z => z) (fun _ _ z => z) (fun _ _ z => z)
    rcases hkn.1 with rfl | ⟨d, rfl⟩
    · rw [sh_no]
      exact low (emp (kA _) new_at (by simp only [chk]; rw [show fnd "No" = none by decide]))
    have ec : chk (.con d.s ps) k path = if d.typ = k ∧ d.args.length = ps.length then chks ps d.args 0 path false else .bad "pattern" path := by
      simp only [chk, fnd_s]
    rw [sh_of]
    by_cases ht : d.typ = k
    · rw [if_pos ht]
      have h3 : ((A ++ wJ k) ++ [AO.lst [.tup (kDs d.args)]])[(A ++ wJ k).length]? = some (.lst [.tup (kDs d.args)]) := new_at
      have k1 := kA [.tup (kDs d.args)]
      generalize (A ++ wJ k).length = a3 at h3
      generalize (A ++ wJ k) ++ [AO.lst [.tup (kDs d.args)]] = A1 at h3 k1
      apply low
      show wS (sx _ N (.seq (.ite (.or (.cmp .eq (.var 3) (.lst .nil)) (.cmp .ne (.bi "len" (.cons (.ix (.var 3) (.int 0)) .nil)) (.bi "len" (.cons (.ix (.var 0) (.int 2)) .nil)))) (.seq (.ret (.tup (.cons (.str "bad") (.cons (.str "pattern") (.cons (.var 2) .nil))))) .skip) .skip) (drp 4 fn_26.body)) [some (pD (.con d.s ps)), some (kD k), some (pth path), some (.ref a3), none, none, none, none, none, none] A1) _ _ _ _
      have k2 : Kp A (A1 ++ [AO.lst []]) := k1.app
      have h3' : (A1 ++ [AO.lst []])[a3]? = some (.lst [.tup (kDs d.args)]) := app_at h3
      rw [wS_seq, wS_ite, wR_tru, wR_or, wR_cmp, wR_v3, wR_lst, wR_nil, wR_ifok (sz1 (by simp)), eq_args h3' new_at]
      generalize A1 ++ [AO.lst []] = A2 at k2 h3'
      show wR (ofO (some (D.bl false)) A2) _
      rw [wR_some, truth_bl, wR_some, if_neg (by decide), wR_cmp, wR_bi, wR_cons, wR_ix, wR_v3, wR_int, opI_lst h3', atI_0, wR_some, wR_nil, len_tup, wR_ok, wR_bi, wR_cons, wR_tix (x := .tup (pDs ps)) rfl rfl, wR_nil, len_tup, wR_ok, ne_int, pDs_len, show (kDs d.args).length = d.args.length from List.length_map _]
      show wR (ofO (some (D.bl (!decide (d.args.length = ps.length)))) A2) _
      rw [wR_some, truth_bl, wR_some]
      by_cases hl : d.args.length = ps.length
      · rw [if_neg (by simp [hl]), wS_skip]
        have ec2 : chk (.con d.s ps) k path = chks ps d.args 0 path false := by rw [ec, if_pos ⟨ht, hl⟩]
        have hl2 : ps.length ≤ 2 := by rw [← hl]; cases d <;> simp [Cn.args]
        show wS (sx _ N (.seq (.set 4 (.lst .nil)) (.seq (.for (.nm 5) (.rng (.cons (.bi "len" (.cons (.ix (.var 0) (.int 2)) .nil)) .nil)) nmBody) (.seq (.ret (.tup (.cons (.str "ok") (.cons (.var 4) .nil)))) .skip))) _ A2) _ _ _ _
        rw [wS_seq, wS_set, wR_lst, wR_nil, wR_ifok (sz1 (by simp))]
        have ef : fset [some (pD (.con d.s ps)), some (kD k), some (pth path), some (.ref a3), none, none, none, none, none, none] 4 (.ref A2.length) = [some (pD (.con d.s ps)), some (kD k), some (pth path), some (.ref a3), some (.ref A2.length), none, none, none, none, none] := rfl
        have eh : A2 ++ [AO.lst []] = A2 ++ [AO.lst (xl false)] := rfl
        rw [ef, eh]
        rw [wS_seq, wS_for, wR_rng, wR_cons, wR_bi, wR_cons, wR_tix (x := .tup (pDs ps)) rfl rfl, wR_nil, len_tup, wR_ok, wR_nil, wkRng_nat (by rw [pDs_len]; omega), wR_some, pDs_len]
        dsimp only
        show wS (forL _ _ _ _ _ _) _ _ _ _
        refine forL_ind (fun j F A' => ∃ e b y5 y6 y7 y8 y9, F = [some (pD (.con d.s ps)), some (kD k), some (pth path), some (.ref a3), some (.ref b), y5, y6, y7, y8, y9] ∧ Kp A2 A' ∧ A'[b]? = some (.lst (xl e)) ∧ chks (ps.drop j) (d.args.drop j) j path e = chks ps d.args 0 path false) _ 0 _ _ ⟨false, A2.length, none, none, none, none, none, rfl, Kp.refl.app, new_at, rfl⟩ ?_ ?_
        · rintro j dd F A' ej ⟨e, b, y5, y6, y7, y8, y9, rfl, k3, hb, he⟩
          refine ⟨rfl, ?_⟩
          have hj : j < ps.length := by
            have := (List.getElem?_eq_some_iff.mp ej).1
            simpa using this
          have edd : dd = .int (j : Nat) := by
            rw [List.getElem?_map, List.getElem?_range hj] at ej
            simpa using ej.symm
          subst edd
          obtain ⟨p, hpj⟩ : ∃ p, ps[j]? = some p := ⟨_, List.getElem?_eq_getElem hj⟩
          obtain ⟨k', hkj⟩ : ∃ k', d.args[j]? = some k' := ⟨_, List.getElem?_eq_getElem (by omega)⟩
          have hpm : p ∈ ps := List.mem_of_getElem? hpj
          have hph := mem_phs hpm
          rw [Nat.zero_add] at he
          rw [chks_step hpj hkj] at he
          refine ⟨[some (pD (.con d.s ps)), some (kD k), some (pth path), some (.ref a3), some (.ref b), some (.int (j : Nat)), y6, y7, y8, y9], rfl, ?_⟩
          rw [wS_seq, wS_set, wR_cl, wR_cons, wR_ix, wR_tix (x := .tup (pDs ps)) rfl rfl, wR_v5, at_pD hpj, wR_some, wR_cons, wR_ix, wR_ix, wR_v3, wR_int, opI_lst (k3 _ _ h3'), atI_0, wR_some, wR_v5, at_kD hkj, wR_some, wR_cons, wR_op, wR_v2, wR_tup, wR_cons, wR_v5, wR_nil, wR_ifok (sz1 (by simp))]
          show wR (opB A' .add (.tup (path.map iD)) (.tup [iD j])) _
          rw [add_tup (by simp; omega), wR_ok, wR_nil]
          have e1 : path.map iD ++ [iD j] = (path ++ [j]).map iD := by simp
          rw [e1]
          refine (names_spec (n + 1) p (by omega) (nmx_mem hx hpm) (knw_mem hkn.2 hpm) k' (path ++ [j]) A' (by simp; omega)).mono fun r A3 ⟨k4, hr⟩ => ?_
          have kk := k2.trans (k3.trans k4)
          cases ech : chk p k' (path ++ [j]) with
          | bad v q =>
            rw [ech] at hr he
            dsimp only at hr he
            subst hr
            show wS (sx _ N (.seq (.ite (.cmp .eq (.ix (.var 6) (.int 0)) (.str "bad")) _ .skip) _) [some (pD (.con d.s ps)), some (kD k), some (pth path), some (.ref a3), some (.ref b), some (.int (j : Nat)), some (.tup [.str "bad", .str v, pth q]), y7, y8, y9] A3) _ _ _ _
            rw [wS_seq, wS_ite, wR_tru, wR_cmp, wR_tix (x := .str "bad") rfl rfl, wR_str, eq_str]
            show wR (ofO (some (D.bl true)) A3) _
            rw [wR_some, truth_bl, wR_some, if_pos rfl, wS_seq, wS_ret, wR_v6, ec2, ← he]
            exact ⟨kk, rfl⟩
          | ok g =>
            rw [ech] at hr he
            dsimp only at hr he
            obtain ⟨a, er, ha⟩ := hr
            subst er
            show wS (sx _ N (.seq (.ite (.cmp .eq (.ix (.var 6) (.int 0)) (.str "bad")) _ .skip) _) [some (pD (.con d.s ps)), some (kD k), some (pth path), some (.ref a3), some (.ref b), some (.int (j : Nat)), some (.tup [.str "ok", .ref a]), y7, y8, y9] A3) _ _ _ _
            rw [wS_seq, wS_ite, wR_tru, wR_cmp, wR_tix (x := .str "ok") rfl rfl, wR_str, eq_str]
            show wR (ofO (some (D.bl false)) A3) _
            rw [wR_some, truth_bl, wR_some, if_neg (by decide), wS_skip, wS_seq, wS_ite, wR_tru]
            apply any_mem (F' := fun d' => [some (pD (.con d.s ps)), some (kD k), some (pth path), some (.ref a3), some (.ref b), some (.int (j : Nat)), some (.tup [.str "ok", .ref a]), y7, y8, some d']) rfl rfl (k4 _ _ hb) ha (fun d => rfl) (fun d => rfl) (fun d => rfl)
            intro A4 k5
            rw [truth_bl, wR_some]
            cases ege : (g && e) with
            | true =>
              rw [ege, if_pos rfl] at he
              rw [if_pos rfl, wS_seq, wS_ret, wR_tup, wR_cons, wR_str, wR_cons, wR_str, wR_cons, wR_v2, wR_nil, wR_ifok (sz1 (by simp)), ec2, ← he]
              exact ⟨kk.trans k5, rfl⟩
            | false =>
              rw [ege, if_neg (by decide)] at he
              rw [if_neg (by decide), wS_skip, wS_seq, wS_set, wR_op, wR_v4, wR_tix (x := .ref a) rfl rfl, add_lst (k5 _ _ (k4 _ _ hb)) (k5 _ _ ha) (by have := xl_len (c := e); have := xl_len (c := g); rw [ev_sz]; omega), wR_ok, wS_skip, xl_app ege]
              rw [Nat.zero_add]
              exact ⟨g || e, A4.length, _, _, _, _, _, rfl, ((k3.trans k4).trans k5).app, new_at, he⟩
        · rintro F A' ⟨e, b, y5, y6, y7, y8, y9, rfl, k3, hb, he⟩
          refine ⟨rfl, ?_⟩
          rw [wS_seq, wS_ret, wR_tup, wR_cons, wR_str, wR_cons, wR_v4, wR_nil, wR_ifok (sz1 (by simp)), ec2, ← he]
          have hd1 : ps.drop (0 + ((List.range ps.length).map fun (i : Nat) => D.int (i : Int)).length) = [] := List.drop_eq_nil_of_le (by simp)
          rw [hd1]
          simp only [chks]
          exact ⟨k2.trans k3, b, rfl, hb⟩
      · rw [if_pos (by simp [hl])]
        exact (bad k2 (by rw [ec, if_neg (fun z => hl z.2)])).mono (fun _ _ z => z) (fun _ _ z => z) (fun _ _ z => z) (fun _ _ z => z)
    · rw [if_neg ht]
      exact low (emp (kA _) new_at (by rw [ec, if_neg (fun z => ht z.1)]))
/-- _law_told -/
theorem told_spec {n : Nat} {p : Pt} {k : Kd} {A : AH} (h : ph p + 1 < n) (hx : nmx p = true) (hk : knw p) (hp : ph p ≤ 900) : wR (callF pg N (n + 1) "_law_told" [pD p, kD k] A) (fun r A' => LR A A' (chk p k []) r) := by
  obtain ⟨m, rfl⟩ : ∃ m, n = m + 1 := ⟨n - 1, by omega⟩
  rw [wR_call (fd := fn_27) rfl rfl]
  apply wS_ofT
  show wT (sx _ N (.seq (.tr (.seq (.ret (.tup (.cons (.str "ok") (.cons (.call "check_pattern" (.cons (.call "_law_world" .nil) (.cons (.var 0) (.cons (.var 1) (.cons (.tup .nil) .nil))))) .nil)))) .skip) "TypeProblem" ["TypeProblem"] (some 2) (.ret (.tup (.cons (.str "bad") (.cons (.fld "code") (.cons (.fld "path") .nil)))))) .skip) [some (pD p), some (kD k), none] A) _
  rw [wT_seq, wT_tr, wT_seq, wT_ret]
  show wE (bnd (evs _ (.cons (.str "ok") (.cons (.call "check_pattern" (.cons (.call "_law_world" .nil) (.cons (.var 0) (.cons (.var 1) (.cons (.tup .nil) .nil))))) .nil)) _ A) fun ds A1 => if ds.length ≤ PySem.sizeLine then Res.ok (D.tup ds) A1 else .no) _ _
  rw [wE_bnd]
  show wE (bnd (Res.ok (D.str "ok") A) fun x A1 => bnd (evs _ (.cons (.call "check_pattern" (.cons (.call "_law_world" .nil) (.cons (.var 0) (.cons (.var 1) (.cons (.tup .nil) .nil))))) .nil) _ A1) fun xs A2 => .ok (x :: xs) A2) _ _
  rw [wE_bnd, wE_ok, wE_bnd]
  show wE (bnd (ev _ (.call "check_pattern" (.cons (.call "_law_world" .nil) (.cons (.var 0) (.cons (.var 1) (.cons (.tup .nil) .nil))))) _ A) fun x A1 => bnd (Res.ok [] A1) fun xs A2 => .ok (x :: xs) A2) _ _
  rw [wE_bnd]
  apply wE_cl
  rw [wR_cons, wR_cl, wR_nil, world_of, wR_ok, wR_cons, wR_v0, wR_cons, wR_v1, wR_cons, wR_tup, wR_nil, wR_ifok (sz1 (by simp)), wR_nil]
  have hw : (A ++ [AO.dct W, .dct []])[A.length]? = some (.dct W) := by simp
  have k0 : Kp A (A ++ [AO.dct W, .dct []]) := Kp.refl.app
  refine (check_spec (N := N) (u := A.length + 1) (m + 1) p h hx hk k [] _ hw (by simpa using hp)).mono ?_ ?_
  · intro r A' ⟨b, eb, a, er, k1, _, ha⟩
    subst er
    rw [wE_bnd, wE_ok, wE_ok, wE_ok]
    show wE (if [D.str "ok", .ref a].length ≤ PySem.sizeLine then Res.ok (D.tup [.str "ok", .ref a]) A' else .no) _ _
    rw [if_pos (sz1 (by simp)), wE_ok, eb]
    exact ⟨k0.trans k1, a, rfl, ha⟩
  · intro x A' ⟨v, q, ee, ex, k1⟩
    subst ex
    have e2 : trR "TypeProblem" ["TypeProblem"] (some 2) (.ret (.tup (.cons (.str "bad") (.cons (.fld "code") (.cons (.fld "path") .nil))))) (.exc (tpx v q) [some (pD p), some (kD k), none] A') = .rt (.tup [.str "bad", .str v, pth q]) A' := by kernel_rfl
    show wT (trR _ _ _ _ (.exc (tpx v q) [some (pD p), some (kD k), none] A')) _
    rw [e2, wT_rt1, ee]
    exact ⟨k0.trans k1, rfl⟩
end
end K26

/-! ## K26N -/
/-! K26N: _law_same of what the law compares. -/
namespace K26
open Ev PySem
section
variable {N : Nat}
def SM (N n : Nat) (x y : D) (A : AH) : Prop := wR (callF pg N n "_law_same" [x, y] A) (fun r A' => r = .bl true ∧ Kp A A')
theorem same_p {n : Nat} {d : D} {A : AH} (h : pl d = true) (hn : 2 * dp d + 1 < n) : SM N n d d A := same_pl rfl rfl rfl n d A h hn
theorem same_l {n a b : Nat} {xs : List D} {A : AH} (ha : A[a]? = some (.lst xs)) (hb : A[b]? = some (.lst xs)) (hz : xs.length ≤ 1000) (hp : pls xs = true) (hn : 2 * dps xs + 1 < n) : SM N (n + 2) (.ref a) (.ref b) A := same_lst rfl rfl rfl ha hb (sz1 hz) hp hn
/-- two tuples -/
theorem same_items2 {n : Nat} {xs ys : List D} {A : AH} (hl : xs.length = ys.length) (hz : xs.length ≤ 1000) (h : ∀ (i : Nat) a b, xs[i]? = some a → ys[i]? = some b → ∀ A', Kp A A' → SM N n a b A') : wR (callF pg N (n + 1) "_law_same_items" [.tup xs, .tup ys] A) (fun r A' => r = .bl true ∧ Kp A A') := by
  rw [wR_call (fd := fn_20) rfl rfl]
  show wS (sx _ N (.seq (.ite (.cmp .ne (.bi "len" (.cons (.var 0) .nil)) (.bi "len" (.cons (.var 1) .nil))) _ .skip) (.seq (.for (.nm 2) (.rng (.cons (.bi "len" (.cons (.var 1) .nil)) .nil)) (.seq (.ite (.not (.call "_law_same" (.cons (.ix (.var 0) (.var 2)) (.cons (.ix (.var 1) (.var 2)) .nil)))) _ .skip) .skip)) (.seq (.ret (.bl true)) .skip))) [some (.tup xs), some (.tup ys), none] A) _ _ _ _
  rw [wS_seq, wS_ite, wR_tru, wR_cmp, wR_bi, wR_cons, wR_v0, wR_nil, len_tup, wR_ok, wR_bi, wR_cons, wR_v1, wR_nil, len_tup, wR_ok, ne_int]
  show wR (ofO (some (D.bl (!decide (xs.length = ys.length)))) A) _
  rw [wR_some, truth_bl, wR_some, if_neg (by simp [hl]), wS_skip, wS_seq, wS_for, wR_rng, wR_cons, wR_bi, wR_cons, wR_v1, wR_nil, len_tup, wR_ok, wR_nil, wkRng_nat (by omega), wR_some]
  dsimp only
  show wS (forL _ _ _ _ _ _) _ _ _ _
  refine forL_ind (fun i F A' => ∃ z, F = [some (.tup xs), some (.tup ys), z] ∧ Kp A A') _ 0 _ A ⟨none, rfl, .refl⟩ (fun j d F A' e ⟨z, eF, k⟩ => ?_) fun F A' ⟨z, eF, k⟩ => ?_
  · subst eF
    refine ⟨rfl, ?_⟩
    have hj : j < ys.length := by
      have := (List.getElem?_eq_some_iff.mp e).1
      simpa using this
    have edd : d = .int (j : Nat) := by
      rw [List.getElem?_map, List.getElem?_range hj] at e
      simpa using e.symm
    subst edd
    obtain ⟨a, ha⟩ : ∃ a, xs[j]? = some a := ⟨_, List.getElem?_eq_getElem (by omega)⟩
    obtain ⟨b, hb⟩ : ∃ b, ys[j]? = some b := ⟨_, List.getElem?_eq_getElem hj⟩
    have ia : ∀ A : AH, opI A (.tup xs) (.int (j : Nat)) = some a := fun A => by
      show L2.atI xs (j : Nat) = _
      rw [atI_nat, ha]
    have ib : ∀ A : AH, opI A (.tup ys) (.int (j : Nat)) = some b := fun A => by
      show L2.atI ys (j : Nat) = _
      rw [atI_nat, hb]
    refine ⟨[some (.tup xs), some (.tup ys), some (.int (j : Nat))], rfl, ?_⟩
    rw [wS_seq, wS_ite, wR_tru, wR_not, wR_cl, wR_cons, wR_ix, wR_v0, wR_v2, ia, wR_some, wR_cons, wR_ix, wR_v1, wR_v2, ib, wR_some, wR_nil]
    have := h j a b ha hb A' k
    unfold SM at this
    refine this.mono fun r A2 ⟨er, k2⟩ => ?_
    subst er
    rw [truth_bl]
    show wR (ofO (some (D.bl false)) A2) _
    rw [wR_some, truth_bl, wR_some, if_neg (by decide), wS_skip, wS_skip]
    exact ⟨_, rfl, k.trans k2⟩
  · subst eF
    refine ⟨rfl, ?_⟩
    rw [wS_seq, wS_ret, wR_bl]
    exact ⟨rfl, k⟩
theorem same_tup2 {n : Nat} {xs ys : List D} {A : AH} (hl : xs.length = ys.length) (hz : xs.length ≤ 1000) (h : ∀ (i : Nat) a b, xs[i]? = some a → ys[i]? = some b → ∀ A', Kp A A' → SM N n a b A') : SM N (n + 2) (.tup xs) (.tup ys) A := by
  unfold SM
  rw [wR_call (fd := fn_21) rfl rfl]
  show wS (sx _ N fn_21.body [some (.tup xs), some (.tup ys), none] A) _ _ _ _
  have e1 : sx (callF pg N (n + 1)) N fn_21.body [some (.tup xs), some (.tup ys), none] A = sx (callF pg N (n + 1)) N (drp 4 fn_21.body) [some (.tup xs), some (.tup ys), none] A := by kernel_rfl
  rw [e1]
  show wS (sx _ N (.seq (.ite (.bi "isinstance" (.cons (.var 1) (.cons (.gl "tuple") .nil))) (.seq (.ret (.and (.bi "isinstance" (.cons (.var 0) (.cons (.gl "tuple") .nil))) (.call "_law_same_items" (.cons (.var 0) (.cons (.var 1) .nil))))) .skip) .skip) _) _ A) _ _ _ _
  have isa : ∀ zs : List D, biF A "isinstance" [.tup zs, .gl "tuple"] = .ok (.bl true) A := fun zs => by kernel_rfl
  rw [wS_seq, wS_ite, wR_tru, wR_bi, wR_cons, wR_v1, wR_cons, wR_gl, wR_nil, isa, wR_ok, truth_bl, wR_some, if_pos rfl, wS_seq, wS_ret, wR_and, wR_bi, wR_cons, wR_v0, wR_cons, wR_gl, wR_nil, isa, wR_ok, truth_bl, wR_some, if_pos rfl, wR_cl, wR_cons, wR_v0, wR_cons, wR_v1, wR_nil]
  exact same_items2 hl hz h
/-! ### dicts with one name -/
theorem lk_dctL {A B : AH} {a b : Nat} {kvs ls : List (D × D)} (ha : A[a]? = some (.dct ls)) (hb : A[b]? = some (.dct kvs)) (k : Kp (A.set b (.lk kvs)) B) : dctL B a = some ls := by
  by_cases z : b = a
  · subst z
    rw [ha] at hb
    cases hb
    have := k _ _ (set_at (p := .lk kvs) ha)
    simp [dctL, this]
  · have := k a _ (by rw [List.getElem?_set_ne z]; exact ha)
    simp [dctL, this]
theorem lk_kp {A B : AH} {b : Nat} {kvs : List (D × D)} (h : A[b]? = some (.dct kvs)) (k : Kp (A.set b (.lk kvs)) B) : Kp A (unlockA B (some b)) ∧ unlockA B (some b) = B.set b (.dct kvs) := by
  have hb : B[b]? = some (.lk kvs) := k _ _ (set_at h)
  have e : unlockA B (some b) = B.set b (.dct kvs) := by simp only [unlockA, hb]
  refine ⟨?_, e⟩
  rw [e]
  intro i o hi
  by_cases z : b = i
  · subst z
    rw [h] at hi
    cases hi
    exact set_at hb
  · rw [List.getElem?_set_ne z]
    exact k _ _ (by rw [List.getElem?_set_ne z]; exact hi)
theorem xd_at {o : Option Vl} {j : Nat} {d : D} (h : (wks (xd o))[j]? = some d) : d = .str "x" ∧ ∃ v, o = some v := by
  cases o with
  | none => simp [wks, xd] at h
  | some v =>
    cases j with
    | zero => exact ⟨by simpa [wks, xd] using h.symm, v, rfl⟩
    | succ j => simp [wks, xd] at h
theorem same_xd {n a b : Nat} {o : Option Vl} {A : AH} (hv : ∀ v, o = some v → pl (vD v) = true ∧ 2 * dp (vD v) + 1 < n) (ha : A[a]? = some (.dct (xd o))) (hb : A[b]? = some (.dct (xd o))) : SM N (n + 1) (.ref a) (.ref b) A := by
  unfold SM
  rw [wR_call (fd := fn_21) rfl rfl]
  show wS (sx _ N fn_21.body [some (.ref a), some (.ref b), none] A) _ _ _ _
  have isa : ∀ (x : Nat) (t : String) (B : AH), B[x]? = some (.dct (xd o)) → biF B "isinstance" [.ref x, .gl t] = ofO ((if tyNames.contains t then some ("dict" == t || ("dict" == "bool" && t == "int")) else none).map D.bl) B := fun x t B h => by
    show ofO ((isA B (.ref x) t).map D.bl) B = _
    have : tyName B (.ref x) = some "dict" := by simp [tyName, h]
    simp only [isA, this]
  have e1 : sx (callF pg N n) N fn_21.body [some (.ref a), some (.ref b), none] A = sx (callF pg N n) N (drp 1 fn_21.body) [some (.ref a), some (.ref b), none] A := by kernel_rfl
  rw [e1]
  show wS (sx _ N (.seq (.ite (.bi "isinstance" (.cons (.var 1) (.cons (.gl "bool") .nil))) _ .skip) (.seq (.ite (.bi "isinstance" (.cons (.var 1) (.cons (.gl "int") .nil))) _ .skip) (.seq (.ite (.bi "isinstance" (.cons (.var 1) (.cons (.gl "str") .nil))) _ .skip) (.seq (.ite (.bi "isinstance" (.cons (.var 1) (.cons (.gl "tuple") .nil))) _ .skip) (.seq (.ite (.bi "isinstance" (.cons (.var 1) (.cons (.gl "list") .nil))) _ .skip) (drp 6 fn_21.body)))))) _ A) _ _ _ _
  have tst : ∀ (t : String) (s1 s2 : Sm) {Pn Pb Pc : Fr → AH → Prop} {Pr : D → AH → Prop}, (if tyNames.contains t then some ("dict" == t || ("dict" == "bool" && t == "int")) else none) = some false → wS (sx (callF pg N n) N s2 [some (.ref a), some (.ref b), none] A) Pn Pb Pc Pr →
      wS (sx (callF pg N n) N (.seq (.ite (.bi "isinstance" (.cons (.var 1) (.cons (.gl t) .nil))) s1 .skip) s2) [some (.ref a), some (.ref b), none] A) Pn Pb Pc Pr := fun t s1 s2 {Pn Pb Pc Pr} ht h => by
    rw [wS_seq, wS_ite, wR_tru, wR_bi, wR_cons, wR_v1, wR_cons, wR_gl, wR_nil, isa b t A hb, ht]
    show wR (ofO (some (D.bl false)) A) _
    rw [wR_some, truth_bl, wR_some, if_neg (by decide), wS_skip]
    exact h
  apply tst "bool" _ _ (by decide)
  apply tst "int" _ _ (by decide)
  apply tst "str" _ _ (by decide)
  apply tst "tuple" _ _ (by decide)
  apply tst "list" _ _ (by decide)
  show wS (sx _ N (.seq (.ite (.or (.not (.bi "isinstance" (.cons (.var 0) (.cons (.gl "dict") .nil)))) (.cmp .ne (.bi "len" (.cons (.var 0) .nil)) (.bi "len" (.cons (.var 1) .nil)))) _ .skip) (.seq (.for (.nm 2) (.wk (.var 1)) (.seq (.ite (.or (.cmp .nmem (.var 2) (.var 0)) (.not (.call "_law_same" (.cons (.ix (.var 0) (.var 2)) (.cons (.ix (.var 1) (.var 2)) .nil))))) _ .skip) .skip)) (.seq (.for (.nm 2) (.wk (.var 0)) (.seq (.ite (.bi "isinstance" (.cons (.var 2) (.cons (.gl "bool") .nil))) _ .skip) .skip)) (.seq (.ret (.bl true)) .skip)))) _ A) _ _ _ _
  have hlen : ∀ {x : Nat} {B : AH}, B[x]? = some (.dct (xd o)) → biF B "len" [.ref x] = .ok (.int ((xd o).length : Nat)) B := fun {x B} h => by
    show biLen B [.ref x] = _
    have : dctL B x = some (xd o) := by simp [dctL, h]
    simp only [biLen, this]
  rw [wS_seq, wS_ite, wR_tru, wR_or, wR_not, wR_bi, wR_cons, wR_v0, wR_cons, wR_gl, wR_nil, isa a "dict" A ha]
  apply wR_eq (a := .bl true) (A := A) (by kernel_rfl)
  show wR (ofO (some (D.bl false)) A) _
  rw [wR_some, truth_bl, wR_some, if_neg (by decide), wR_cmp, wR_bi, wR_cons, wR_v0, wR_nil, hlen ha, wR_ok, wR_bi, wR_cons, wR_v1, wR_nil, hlen hb, wR_ok, ne_int]
  show wR (ofO (some (D.bl (!decide ((xd o).length = (xd o).length)))) A) _
  rw [wR_some, truth_bl, wR_some, if_neg (by simp), wS_skip, wS_seq, wS_for, wR_wk, wR_v1, wk_W hb, wR_some]
  dsimp only
  rw [(lock_W hb).1]
  apply wS_unl
  apply forL_ind (fun i F A' => Kp (A.set b (.lk (xd o))) A' ∧ ∃ y, F = [some (.ref a), some (.ref b), y]) _ 0 _ _ ⟨.refl, none, rfl⟩
  · rintro j d F A' e ⟨k, y, rfl⟩
    refine ⟨by simp [gOk, k _ _ (set_at hb)], ?_⟩
    obtain ⟨rfl, v, rfl⟩ := xd_at e
    refine ⟨[some (.ref a), some (.ref b), some (.str "x")], rfl, ?_⟩
    have da := lk_dctL ha hb k
    have db := lk_dctL hb hb k
    have hi : ∀ {z : Nat}, dctL A' z = some (xd (some v)) → opI A' (.ref z) (.str "x") = some (vD v) := fun h => by
      simp only [opI, h]
      rfl
    rw [wS_seq, wS_ite, wR_tru, wR_or, wR_cmp, wR_v2, wR_v0]
    have hm : opC A' .nmem (.str "x") (.ref a) = some false := by
      show (memD A' (.str "x") (.ref a)).map (!·) = _
      simp only [memD, da]
      rfl
    rw [hm]
    show wR (ofO (some (D.bl false)) A') _
    rw [wR_some, truth_bl, wR_some, if_neg (by decide), wR_not, wR_cl, wR_cons, wR_ix, wR_v0, wR_v2, hi da, wR_some, wR_cons, wR_ix, wR_v1, wR_v2, hi db, wR_some, wR_nil]
    have sp := same_p (N := N) (n := n) (A := A') (hv v rfl).1 (hv v rfl).2
    unfold SM at sp
    apply sp.mono
    intro r A2 hh
    rw [hh.1]
    show wR (ofO (some (D.bl false)) A2) _
    rw [wR_some, truth_bl, wR_some, if_neg (by decide), wS_skip, wS_skip]
    exact ⟨k.trans hh.2, _, rfl⟩
  · rintro F A' ⟨k, y, rfl⟩
    refine ⟨by simp [gOk, k _ _ (set_at hb)], ?_⟩
    obtain ⟨k1, _⟩ := lk_kp hb k
    generalize unlockA A' (some b) = A2 at k1
    have ha2 := k1 _ _ ha
    rw [wS_seq, wS_for, wR_wk, wR_v0, wk_W ha2, wR_some]
    dsimp only
    rw [(lock_W ha2).1]
    apply wS_unl
    apply forL_ind (fun i F A' => A' = A2.set a (.lk (xd o)) ∧ ∃ y, F = [some (.ref a), some (.ref b), y]) _ 0 _ _ ⟨rfl, y, rfl⟩
    · rintro j d F A' e ⟨eA, y, rfl⟩
      subst eA
      refine ⟨by simp [gOk, set_at ha2], ?_⟩
      obtain ⟨rfl, v, rfl⟩ := xd_at e
      refine ⟨[some (.ref a), some (.ref b), some (.str "x")], rfl, ?_⟩
      rw [wS_seq, wS_ite, wR_tru]
      apply wR_eq (a := .bl false) (A := A2.set a (.lk (xd (some v)))) (by kernel_rfl)
      rw [truth_bl, wR_some, if_neg (by decide), wS_skip, wS_skip]
      exact ⟨rfl, _, rfl⟩
    · rintro F A' ⟨eA, y, rfl⟩
      subst eA
      refine ⟨by simp [gOk, set_at ha2], ?_⟩
      rw [wS_seq, wS_ret, wR_bl]
      exact ⟨rfl, k1.trans (lk_kp ha2 .refl).1⟩
end
end K26

/-! ## K26O -/
/-! K26O: _law_values. -/
namespace K26
open Ev PySem
/-- a list, fresh or not -/
def GL (A : AH) (r : Res D) (xs : List D) : Prop := wR r fun d A' => ∃ a, d = .ref a ∧ Kp A A' ∧ A'[a]? = some (.lst xs)
def rowD (vs : List Vl) : D := .tup (vDs vs)
theorem vDs_app : ∀ (a b : List Vl), vDs (a ++ b) = vDs a ++ vDs b
  | [], _ => rfl
  | v :: a, b => by
    show vD v :: vDs (a ++ b) = _
    rw [vDs_app a b]; rfl
theorem vDs_map : ∀ vs : List Vl, vDs vs = vs.map vD
  | [] => rfl
  | v :: vs => by
    show vD v :: vDs vs = _
    rw [vDs_map vs]; rfl
theorem vDs_len (vs : List Vl) : (vDs vs).length = vs.length := by rw [vDs_map, List.length_map]
def prod (rows : List (List Vl)) (vs : List Vl) : List (List Vl) := rows.flatMap fun row => vs.map fun v => row ++ [v]
theorem prod_len (rows : List (List Vl)) (vs : List Vl) : (prod rows vs).length = rows.length * vs.length := by
  induction rows with
  | nil => simp [prod]
  | cons r rows ih =>
    have : prod (r :: rows) vs = (vs.map fun v => r ++ [v]) ++ prod rows vs := rfl
    rw [this, List.length_append, ih, List.length_map, List.length_cons, Nat.succ_mul]
    omega
theorem prod_row {n : Nat} {rows : List (List Vl)} {vs : List Vl} (h : ∀ row ∈ rows, row.length ≤ n) : ∀ row ∈ prod rows vs, row.length ≤ n + 1 := by
  intro row hr
  obtain ⟨q, hq, hr⟩ := List.mem_flatMap.mp hr
  obtain ⟨v, _, rfl⟩ := List.mem_map.mp hr
  have := h q hq
  simp; omega
def rowsOf (f : Kd → List Vl) (ks : List Kd) (rows : List (List Vl)) : List (List Vl) := ks.foldl (fun rows a => prod rows (f a)) rows
section
variable {N : Nat}
theorem fm_row (row : List Vl) : ∀ vs : List Vl, (vs.map vD).filterMap (fun v => some (D.tup (vDs row ++ [v]))) = (vs.map fun v => row ++ [v]).map rowD
  | [] => rfl
  | v :: vs => by
    rw [List.map_cons, List.filterMap_cons, List.map_cons, List.map_cons, ← fm_row row vs]
    dsimp only
    rw [show rowD (row ++ [v]) = .tup (vDs (row ++ [v])) from rfl, vDs_app]
    rfl
theorem atom_sub {A : AH} {d : Int} : opB A .sub (.int d) (.int 1) = .ok (.int (d - 1)) A := rfl
abbrev v1Body : Sm := .seq (.set 7 (.op .add (.var 7) (.lc (.nm 9) (.wk (.call "_law_values" (.cons (.var 6) (.cons (.op .sub (.var 1) (.int 1)) .nil)))) .nil (.op .add (.var 8) (.tup (.cons (.var 9) .nil))) [9]))) .skip
theorem rloop {n r : Nat} {L : List D} {a : Kd} {d : Int} {vs : List Vl} {x0 x2 x3 x4 : Option D} {A0 : AH} {Pn Pb Pc : Fr → AH → Prop} {Pr : D → AH → Prop} (h0 : A0[r]? = some (.lst L)) (hf : ∀ A, GL A (callF pg N n "_law_values" [kD a, .int (d - 1)] A) (vs.map vD)) (hv : vs.length ≤ 100) :
    ∀ (rows acc : List (List Vl)) (b : Nat) (A : AH) (x8 x9 : Option D), (∀ row ∈ rows, row.length ≤ 100) → acc.length + rows.length * vs.length ≤ 1000000 → Kp A0 A → A[b]? = some (.lst (acc.map rowD)) →
    (∀ A' b' y8 y9, Kp A0 A' → A'[b']? = some (.lst ((acc ++ prod rows vs).map rowD)) → Pn [x0, some (.int d), x2, x3, x4, some (.ref r), some (kD a), some (.ref b'), y8, y9] A') →
    wS (forL (asgT (.nm 8)) [(r, .lst L)] (fun F' A' => sx (callF pg N n) N v1Body F' A') (rows.map rowD) [x0, some (.int d), x2, x3, x4, some (.ref r), some (kD a), some (.ref b), x8, x9] A) Pn Pb Pc Pr
  | [], acc, b, A, x8, x9, _, _, kp, hb, h => by
    apply forS_nil (gOk_one (kp _ _ h0))
    exact h A b x8 x9 kp (by rw [show prod [] vs = [] from rfl, List.append_nil]; exact hb)
  | row :: rows, acc, b, A, x8, x9, hr, hz, kp, hb, h => by
    have hz : acc.length + (rows.length + 1) * vs.length ≤ 1000000 := hz
    rw [Nat.succ_mul] at hz
    have hr0 := hr row List.mem_cons_self
    refine forS_cons (F' := [x0, some (.int d), x2, x3, x4, some (.ref r), some (kD a), some (.ref b), some (rowD row), x9]) (gOk_one (kp _ _ h0)) rfl ?_
    rw [wS_seq, wS_set, wR_op, wR_v7]
    have hc := hf A
    unfold GL at hc
    obtain ⟨dd, A1, e, c, ed, k1, hc⟩ := eq_of_wR hc
    subst ed
    have he : ev (callF pg N n) (.call "_law_values" (.cons (.var 6) (.cons (.op .sub (.var 1) (.int 1)) .nil))) [x0, some (.int d), x2, x3, x4, some (.ref r), some (kD a), some (.ref b), some (rowD row), x9] A = .ok (.ref c) A1 := by
      obtain ⟨q, A2, e2, e3, e4⟩ := eq_of_wR (show wR (ev (callF pg N n) (.call "_law_values" (.cons (.var 6) (.cons (.op .sub (.var 1) (.int 1)) .nil))) [x0, some (.int d), x2, x3, x4, some (.ref r), some (kD a), some (.ref b), some (rowD row), x9] A) (fun d B => d = .ref c ∧ B = A1) by
        rw [wR_cl, wR_cons, wR_v6, wR_cons, wR_op, wR_v1, wR_int, atom_sub, wR_ok, wR_nil, e, wR_ok]
        exact ⟨rfl, rfl⟩)
      rw [e2, e3, e4]
    apply lc_pure2 (fun v => some (.tup (vDs row ++ [v]))) he (wk_lst hc) (gOk_one hc) (by rw [List.length_map]; omega)
    · intro x hx
      refine ⟨[x0, some (.int d), x2, x3, x4, some (.ref r), some (kD a), some (.ref b), some (rowD row), some x], rfl, lcB_0 (ok_of ?_)⟩
      rw [wR_op, wR_v8, wR_tup, wR_cons, wR_var (d := x) rfl, wR_nil, wR_ifok (sz1 (by simp))]
      show wR (opB A1 .add (.tup (vDs row)) (.tup [x])) _
      rw [add_tup (by rw [vDs_len]; simp; omega), wR_ok]
      exact ⟨rfl, rfl⟩
    have e5 : (vs.map vD).filterMap (fun v => some (D.tup (vDs row ++ [v]))) = (vs.map fun v => row ++ [v]).map rowD := fm_row row vs
    rw [e5]
    have hb1 : (A1 ++ [AO.lst ((vs.map fun v => row ++ [v]).map rowD)])[b]? = some (.lst (acc.map rowD)) := app_at (k1 _ _ hb)
    rw [add_lst hb1 new_at (by rw [List.length_map, List.length_map, List.length_map, ev_sz]; omega), wR_ok, wS_skip, ← List.map_append]
    refine rloop h0 hf hv rows (acc ++ vs.map fun v => row ++ [v]) _ _ _ _ (fun q hq => hr q (List.mem_cons_of_mem _ hq)) (by rw [List.length_append, List.length_map]; omega) ((kp.trans k1).app.app) new_at ?_
    intro A' b' y8 y9 k' h'
    refine h A' b' y8 y9 k' ?_
    rw [h', List.append_assoc]
    rfl
abbrev v2Body : Sm := .seq (.set 7 (.lst .nil)) (.seq (.for (.nm 8) (.wk (.var 5)) v1Body) (.seq (.set 5 (.var 7)) .skip))
theorem kloop {n : Nat} {d : Int} {f : Kd → List Vl} {x0 x2 x3 x4 : Option D} {A0 : AH} {Pn Pb Pc : Fr → AH → Prop} {Pr : D → AH → Prop} :
    ∀ (ks : List Kd) (rows : List (List Vl)) (m r : Nat) (A : AH) (x6 x7 x8 x9 : Option D), (∀ a ∈ ks, (∀ A, GL A (callF pg N n "_law_values" [kD a, .int (d - 1)] A) ((f a).map vD)) ∧ (f a).length ≤ 100) → m + ks.length ≤ 50 → (∀ row ∈ rows, row.length ≤ m) → rows.length * 100 ^ ks.length ≤ 1000000 → Kp A0 A → A[r]? = some (.lst (rows.map rowD)) →
    (∀ A' r' y6 y7 y8 y9, Kp A0 A' → A'[r']? = some (.lst ((rowsOf f ks rows).map rowD)) → Pn [x0, some (.int d), x2, x3, x4, some (.ref r'), y6, y7, y8, y9] A') →
    wS (forL (asgT (.nm 6)) [] (fun F' A' => sx (callF pg N n) N v2Body F' A') (kDs ks) [x0, some (.int d), x2, x3, x4, some (.ref r), x6, x7, x8, x9] A) Pn Pb Pc Pr
  | [], rows, m, r, A, x6, x7, x8, x9, _, _, _, _, kp, hr, h => by
    apply forS_nil rfl
    exact h A r x6 x7 x8 x9 kp hr
  | a :: ks, rows, m, r, A, x6, x7, x8, x9, hf, hm, hrow, hz, kp, hr, h => by
    have hm : m + (ks.length + 1) ≤ 50 := hm
    obtain ⟨hfa, hla⟩ := hf a List.mem_cons_self
    have hz : rows.length * 100 ^ (ks.length + 1) ≤ 1000000 := hz
    have hz1 : rows.length * (f a).length ≤ 1000000 := by
      have h1 : rows.length * (f a).length ≤ rows.length * 100 := Nat.mul_le_mul_left _ hla
      have h2 : rows.length * 100 ≤ rows.length * 100 ^ (ks.length + 1) := by
        apply Nat.mul_le_mul_left
        rw [Nat.pow_succ]
        have := Nat.one_le_two_pow (n := 0)
        have : 1 ≤ 100 ^ ks.length := Nat.one_le_pow _ _ (by decide)
        omega
      omega
    show wS (forL _ _ _ (kD a :: kDs ks) _ _) _ _ _ _
    refine forS_cons (F' := [x0, some (.int d), x2, x3, x4, some (.ref r), some (kD a), x7, x8, x9]) rfl rfl ?_
    rw [wS_seq, wS_set, wR_lst, wR_nil, wR_ifok (sz1 (by simp))]
    have ef : fset [x0, some (.int d), x2, x3, x4, some (.ref r), some (kD a), x7, x8, x9] 7 (.ref A.length) = [x0, some (.int d), x2, x3, x4, some (.ref r), some (kD a), some (.ref A.length), x8, x9] := rfl
    have eh : A ++ [AO.lst []] = A ++ [AO.lst (([] : List (List Vl)).map rowD)] := rfl
    rw [ef, eh, wS_seq, wS_for, wR_wk, wR_v5, wk_lst (app_at hr), wR_some]
    dsimp only
    refine rloop (A0 := A ++ [AO.lst (([] : List (List Vl)).map rowD)]) (app_at hr) hfa hla rows [] _ _ _ _ (fun q hq => by have := hrow q hq; omega) (by simpa using hz1) .refl new_at ?_
    intro A' b' y8 y9 k' hb'
    rw [wS_seq, wS_set, wR_v7]
    have ef : fset [x0, some (.int d), x2, x3, x4, some (.ref r), some (kD a), some (.ref b'), y8, y9] 5 (.ref b') = [x0, some (.int d), x2, x3, x4, some (.ref b'), some (kD a), some (.ref b'), y8, y9] := rfl
    rw [ef, wS_skip]
    refine kloop ks (prod rows (f a)) (m + 1) b' A' _ _ _ _ (fun a ha => hf a (List.mem_cons_of_mem _ ha)) (by omega) (prod_row hrow) ?_ (kp.trans (Kp.trans Kp.refl.app k')) hb' h
    rw [prod_len]
    have h1 : rows.length * (f a).length * 100 ^ ks.length ≤ rows.length * 100 * 100 ^ ks.length := Nat.mul_le_mul_right _ (Nat.mul_le_mul_left _ hla)
    have h2 : rows.length * 100 * 100 ^ ks.length = rows.length * 100 ^ (ks.length + 1) := by rw [Nat.pow_succ, Nat.mul_assoc, Nat.mul_comm 100]
    omega
end
end K26

/-! ## K26P -/
/-! K26P: _law_values, whole. -/
namespace K26
open Ev PySem
def valC (f : Kd → List Vl) (k : Kd) (d : Int) (c : Cn) : List Vl := if d = 0 ∧ k ∈ c.args then [] else (rowsOf f c.args [[]]).map (.con c)
section
variable {N : Nat}
theorem mem_kind {A : AH} {c : Cn} {k : Kd} : opC A .mem (kD k) (.tup (kDs c.args)) = some (decide (k ∈ c.args)) := by cases c <;> cases k <;> kernel_rfl
abbrev v3Body : Sm := .seq (.ite (.and (.cmp .eq (.var 1) (.int 0)) (.cmp .mem (.var 0) (.var 4))) (.seq .cont .skip) .skip) (.seq (.set 5 (.lst (.cons (.tup .nil) .nil))) (.seq (.for (.nm 6) (.wk (.var 4)) v2Body) (.seq (.set 2 (.op .add (.var 2) (.lc (.nm 8) (.wk (.var 5)) .nil (.tup (.cons (.str "con") (.cons (.var 3) (.cons (.var 8) .nil)))) [8]))) .skip)))
theorem con_map (c : Cn) : ∀ rows : List (List Vl), (rows.map rowD).filterMap (fun r => some (D.tup [.str "con", .str c.s, r])) = (rows.map (Vl.con c)).map vD
  | [] => rfl
  | r :: rows => by
    rw [List.map_cons, List.filterMap_cons, List.map_cons, List.map_cons, ← con_map c rows]
    rfl
def Vok (N n : Nat) (f : Kd → List Vl) (k : Kd) (d : Int) (c : Cn) : Prop := ¬ (d = 0 ∧ k ∈ c.args) → (∀ a ∈ c.args, (∀ A, GL A (callF pg N n "_law_values" [kD a, .int (d - 1)] A) ((f a).map vD)) ∧ (f a).length ≤ 100) ∧ (rowsOf f c.args [[]]).length ≤ 1000
theorem cloop {n : Nat} {d : Int} {k : Kd} {f : Kd → List Vl} {A0 : AH} {Pn Pb Pc : Fr → AH → Prop} {Pr : D → AH → Prop} :
    ∀ (l : List Cn) (acc : List Vl) (b : Nat) (A : AH) (x3 x4 x5 x6 x7 x8 x9 : Option D), (∀ c ∈ l, Vok N n f k d c) → acc.length + l.length * 1000 ≤ 1000000 → Kp A0 A → A[b]? = some (.lst (acc.map vD)) →
    (∀ A' b' y3 y4 y5 y6 y7 y8 y9, Kp A0 A' → A'[b']? = some (.lst ((acc ++ l.flatMap (valC f k d)).map vD)) → Pn [some (kD k), some (.int d), some (.ref b'), y3, y4, y5, y6, y7, y8, y9] A') →
    wS (forL (asgT (.tu (.cons (.nm 3) (.cons (.nm 4) .nil)))) [] (fun F' A' => sx (callF pg N n) N v3Body F' A') (l.map cD) [some (kD k), some (.int d), some (.ref b), x3, x4, x5, x6, x7, x8, x9] A) Pn Pb Pc Pr
  | [], acc, b, A, x3, x4, x5, x6, x7, x8, x9, _, _, kp, hb, h => by
    apply forS_nil rfl
    exact h A b x3 x4 x5 x6 x7 x8 x9 kp (by rw [List.flatMap_nil, List.append_nil]; exact hb)
  | c :: l, acc, b, A, x3, x4, x5, x6, x7, x8, x9, hf, hz, kp, hb, h => by
    have hz : acc.length + (l.length + 1) * 1000 ≤ 1000000 := hz
    rw [List.flatMap_cons] at h
    show wS (forL _ _ _ (cD c :: l.map cD) _ _) _ _ _ _
    refine forS_cons (F' := [some (kD k), some (.int d), some (.ref b), some (.str c.s), some (.tup (kDs c.args)), x5, x6, x7, x8, x9]) rfl rfl ?_
    rw [wS_seq, wS_ite, wR_tru, wR_and, wR_cmp, wR_v1, wR_int, eq_int]
    show wR (ofO (some (D.bl (decide (d = 0)))) A) _
    rw [wR_some, truth_bl, wR_some]
    have go : ¬ (d = 0 ∧ k ∈ c.args) → wS (sx (callF pg N n) N (.seq (.set 5 (.lst (.cons (.tup .nil) .nil))) (.seq (.for (.nm 6) (.wk (.var 4)) v2Body) (.seq (.set 2 (.op .add (.var 2) (.lc (.nm 8) (.wk (.var 5)) .nil (.tup (.cons (.str "con") (.cons (.var 3) (.cons (.var 8) .nil)))) [8]))) .skip))) [some (kD k), some (.int d), some (.ref b), some (.str c.s), some (.tup (kDs c.args)), x5, x6, x7, x8, x9] A) (fun F2 A2 => wS (forL (asgT (.tu (.cons (.nm 3) (.cons (.nm 4) .nil)))) [] (fun F' A' => sx (callF pg N n) N v3Body F' A') (l.map cD) F2 A2) Pn Pb Pc Pr) Pn (fun F2 A2 => wS (forL (asgT (.tu (.cons (.nm 3) (.cons (.nm 4) .nil)))) [] (fun F' A' => sx (callF pg N n) N v3Body F' A') (l.map cD) F2 A2) Pn Pb Pc Pr) Pr := by
      intro hn
      obtain ⟨ha, hl⟩ := hf c List.mem_cons_self hn
      have ev1 : valC f k d c = (rowsOf f c.args [[]]).map (.con c) := if_neg hn
      rw [ev1] at h
      rw [wS_seq, wS_set, wR_lst, wR_cons, wR_tup, wR_nil, wR_ifok (sz1 (by simp)), wR_nil, wR_ifok (sz1 (by simp))]
      have ef : fset [some (kD k), some (.int d), some (.ref b), some (.str c.s), some (.tup (kDs c.args)), x5, x6, x7, x8, x9] 5 (.ref A.length) = [some (kD k), some (.int d), some (.ref b), some (.str c.s), some (.tup (kDs c.args)), some (.ref A.length), x6, x7, x8, x9] := rfl
      have eh : A ++ [AO.lst [.tup []]] = A ++ [AO.lst (([[]] : List (List Vl)).map rowD)] := rfl
      rw [ef, eh, wS_seq, wS_for, wR_wk, wR_v4]
      show wR (ofO (some (Wk.mk (kDs c.args) [] none)) _) _
      rw [wR_some]
      dsimp only
      have h2 : c.args.length ≤ 2 := by cases c <;> simp [Cn.args]
      have h100 : 1 * 100 ^ c.args.length ≤ 1000000 := by
        have : 100 ^ c.args.length ≤ 100 ^ 2 := Nat.pow_le_pow_right (by decide) h2
        omega
      refine kloop (A0 := A ++ [AO.lst (([[]] : List (List Vl)).map rowD)]) c.args [[]] 0 A.length _ _ _ _ _ ha (by omega) (fun row hr => by rw [List.mem_singleton.mp hr]; simp) h100 .refl new_at ?_
      intro A1 r' y6 y7 y8 y9 k1 hr'
      rw [wS_seq, wS_set, wR_op, wR_v2]
      apply lc_pure (fun r => some (D.tup [.str "con", .str c.s, r])) (var_ok (i := 5) rfl) (wk_lst hr') (gOk_one hr') (by rw [List.length_map]; exact hl)
      · intro x hx
        refine ⟨[some (kD k), some (.int d), some (.ref b), some (.str c.s), some (.tup (kDs c.args)), some (.ref r'), y6, y7, some x, y9], rfl, lcB_0 (ok_of ?_)⟩
        rw [wR_tup, wR_cons, wR_str, wR_cons, wR_v3, wR_cons, wR_v8, wR_nil, wR_ifok (sz1 (by simp))]
        exact ⟨rfl, rfl⟩
      rw [con_map]
      have k2 : Kp A A1 := Kp.trans Kp.refl.app k1
      rw [add_lst (app_at (k2 _ _ hb)) new_at (by simp only [List.length_map, ev_sz]; omega), wR_ok, wS_skip, ← List.map_append]
      refine cloop l _ _ _ _ _ _ _ _ _ _ (fun c hc => hf c (List.mem_cons_of_mem _ hc)) (by simp only [List.length_append, List.length_map]; omega) ((kp.trans k2).app.app) new_at ?_
      intro A' b' y3 y4 y5 y6 y7 y8 y9 k' h'
      refine h A' b' y3 y4 y5 y6 y7 y8 y9 k' ?_
      rw [h', List.append_assoc]
    by_cases hd : d = 0
    · rw [if_pos (by simp [hd]), wR_cmp, wR_v0, wR_v4, mem_kind]
      show wR (ofO (some (D.bl (decide (k ∈ c.args)))) A) _
      rw [wR_some, truth_bl, wR_some]
      by_cases hk : k ∈ c.args
      · have ev1 : valC f k d c = [] := if_pos ⟨hd, hk⟩
        rw [ev1, List.nil_append] at h
        rw [if_pos (by simp [hk]), wS_seq, wS_cont]
        exact cloop l acc b A _ _ _ _ _ _ _ (fun c hc => hf c (List.mem_cons_of_mem _ hc)) (by omega) kp hb h
      · rw [if_neg (by simp [hk]), wS_skip]
        exact go (fun z => hk z.2)
    · rw [if_neg (by simp [hd]), truth_bl, wR_some, if_neg (by simp [hd]), wS_skip]
      exact go (fun z => hd z.1)
theorem vstep {n : Nat} {k : Kd} {d : Int} {f : Kd → List Vl} (hk : k ≠ .int) (hf : ∀ c ∈ cases k, Vok N (n + 1) f k d c) (A : AH) : GL A (callF pg N (n + 2) "_law_values" [kD k, .int d] A) (((cases k).flatMap (valC f k d)).map vD) := by
  unfold GL
  rw [wR_call (fd := fn_24) rfl rfl]
  show wS (sx _ N (.seq (.ite (.cmp .ne (.ix (.var 0) (.int 0)) (.str "data")) _ .skip) (.seq (.set 2 (.lst .nil)) (.seq (.for (.tu (.cons (.nm 3) (.cons (.nm 4) .nil))) (.wk (.ix (.ix (.call "_law_world" .nil) (.int 0)) (.ix (.var 0) (.int 1)))) v3Body) (.seq (.ret (.var 2)) .skip)))) [some (kD k), some (.int d), none, none, none, none, none, none, none, none] A) _ _ _ _
  rw [wS_seq, wS_ite, wR_tru, wR_cmp, wR_tix (x := .str "data") (by rw [kD_tag hk]; rfl) rfl, wR_str, ne_str]
  show wR (ofO (some (D.bl false)) A) _
  rw [wR_some, truth_bl, wR_some, if_neg (by decide), wS_skip, wS_seq, wS_set, wR_lst, wR_nil, wR_ifok (sz1 (by simp))]
  have ef : fset [some (kD k), some (.int d), none, none, none, none, none, none, none, none] 2 (.ref A.length) = [some (kD k), some (.int d), some (.ref A.length), none, none, none, none, none, none, none] := rfl
  have eh : A ++ [AO.lst []] = A ++ [AO.lst (([] : List Vl).map vD)] := rfl
  have k1 : Kp A (A ++ [AO.lst (([] : List Vl).map vD)]) := Kp.refl.app
  have hb : (A ++ [AO.lst (([] : List Vl).map vD)])[A.length]? = some (.lst (([] : List Vl).map vD)) := new_at
  rw [ef, eh]
  have hn : A[A.length]? = none := new_none
  generalize A ++ [AO.lst (([] : List Vl).map vD)] = A1 at k1 hb
  generalize A.length = b at hb hn
  have hw : (A1 ++ [AO.dct W, .dct []])[A1.length]? = some (.dct W) := by simp
  rw [wS_seq, wS_for, wR_wk, wR_ix, wR_ix, wR_cl, wR_nil, world_of, wR_ok, wR_int]
  show wR (ofO (some (D.ref A1.length)) _) _
  rw [wR_some, wR_tix (x := .str k.s) (by rw [kD_tag hk]; rfl) rfl, dct_get hw rfl, dget_W hk, wR_some]
  show wR (ofO (some (Wk.mk ((cases k).map cD) [] none)) _) _
  rw [wR_some]
  dsimp only
  refine cloop (A0 := A) (cases k) [] b _ _ _ _ _ _ _ _ hf (by cases k <;> simp [cases]) k1.app (app_at hb) ?_
  intro A' b' y3 y4 y5 y6 y7 y8 y9 k' h'
  rw [wS_seq, wS_ret, wR_v2]
  exact ⟨b', rfl, k', h'⟩
theorem V_int {n : Nat} {d : Int} (A : AH) : GL A (callF pg N (n + 1) "_law_values" [kD .int, .int d] A) ([Vl.other].map vD) := by
  unfold GL
  refine wR_eq (a := .ref A.length) (A := A ++ [.lst ([Vl.other].map vD)]) (by kernel_rfl) ?_
  exact ⟨A.length, rfl, Kp.refl.app, new_at⟩
def colors : List Vl := [.con .red [], .con .blue []]
theorem V_color {n : Nat} {d : Int} (A : AH) : GL A (callF pg N (n + 2) "_law_values" [kD .color, .int d] A) (colors.map vD) := by
  have := vstep (N := N) (n := n) (k := .color) (d := d) (f := fun _ => []) (by decide) (fun c hc _ => by
    simp only [cases, List.mem_cons, List.not_mem_nil, or_false] at hc
    rcases hc with rfl | rfl
    · exact ⟨fun a ha => by simp [Cn.args] at ha, by decide⟩
    · exact ⟨fun a ha => by simp [Cn.args] at ha, by decide⟩) A
  have e : (cases .color).flatMap (valC (fun _ => []) .color d) = colors := by
    simp [cases, valC, Cn.args, rowsOf, colors]
  rw [e] at this
  exact this
def fOdd : Kd → List Vl
  | .int => [.other] | .color => colors | _ => []
def odds : List Vl := (cases .odd).flatMap (valC fOdd .odd 4)
theorem V_odd {n : Nat} (A : AH) : GL A (callF pg N (n + 3) "_law_values" [kD .odd, .int 4] A) (odds.map vD) := by
  refine vstep (N := N) (n := n + 1) (k := .odd) (d := 4) (f := fOdd) (by decide) (fun c hc _ => ?_) A
  simp only [cases, List.mem_cons, List.not_mem_nil, or_false] at hc
  subst hc
  refine ⟨fun a ha => ?_, by decide⟩
  simp only [Cn.args, List.mem_cons, List.not_mem_nil, or_false] at ha
  rcases ha with rfl | rfl
  · exact ⟨fun A => V_int A, by decide⟩
  · exact ⟨fun A => V_color A, by decide⟩
def fShp (s : List Vl) : Kd → List Vl
  | .color => colors | .shape => s | _ => []
def shp : Nat → List Vl
  | 0 => (cases .shape).flatMap (valC (fShp []) .shape 0)
  | d + 1 => (cases .shape).flatMap (valC (fShp (shp d)) .shape ((d : Int) + 1))
theorem cond_off {d : Nat} {P : Prop} : ¬ ((d : Int) + 1 = 0 ∧ P) := fun z => by have := z.1; omega
theorem shp_eq (d : Nat) : shp (d + 1) = [.con .dot [], .con .line [.con .red []], .con .line [.con .blue []]] ++ (prod [[.con .red []], [.con .blue []]] (shp d)).map (.con .box) := by
  show (cases .shape).flatMap (valC (fShp (shp d)) .shape ((d : Int) + 1)) = _
  have e1 : valC (fShp (shp d)) .shape ((d : Int) + 1) .dot = [.con .dot []] := by
    unfold valC
    rw [if_neg cond_off]
    rfl
  have e2 : valC (fShp (shp d)) .shape ((d : Int) + 1) .line = [.con .line [.con .red []], .con .line [.con .blue []]] := by
    unfold valC
    rw [if_neg cond_off]
    rfl
  have e3 : valC (fShp (shp d)) .shape ((d : Int) + 1) .box = (prod [[.con .red []], [.con .blue []]] (shp d)).map (.con .box) := by
    unfold valC
    rw [if_neg cond_off]
    rfl
  show [Cn.dot, .line, .box].flatMap _ = _
  rw [List.flatMap_cons, List.flatMap_cons, List.flatMap_cons, List.flatMap_nil, e1, e2, e3, List.append_nil]
  rfl
theorem shp_len (d : Nat) : (shp (d + 1)).length = 3 + 2 * (shp d).length := by
  rw [shp_eq, List.length_append, List.length_map, prod_len]
  rfl
theorem shp_lens : (shp 0).length = 3 ∧ (shp 1).length = 9 ∧ (shp 2).length = 21 ∧ (shp 3).length = 45 ∧ (shp 4).length = 93 := by
  have h0 : (shp 0).length = 3 := by decide
  have h1 := shp_len 0
  have h2 := shp_len 1
  have h3 := shp_len 2
  have h4 := shp_len 3
  simp only [Nat.zero_add, Nat.reduceAdd] at h1 h2 h3 h4
  omega
theorem shp_le {d : Nat} (h : d ≤ 4) : (shp d).length ≤ 100 := by
  have := shp_lens
  have : d = 0 ∨ d = 1 ∨ d = 2 ∨ d = 3 ∨ d = 4 := by omega
  rcases this with rfl | rfl | rfl | rfl | rfl <;> omega
theorem V_shape : ∀ (d n : Nat) (A : AH), d ≤ 4 → GL A (callF pg N (n + d + 3) "_law_values" [kD .shape, .int (d : Nat)] A) ((shp d).map vD)
  | 0, n, A, h => by
    refine vstep (N := N) (n := n + 1) (k := .shape) (d := 0) (f := fShp []) (by decide) (fun c hc hn => ?_) A
    simp only [cases, List.mem_cons, List.not_mem_nil, or_false] at hc
    rcases hc with rfl | rfl | rfl
    · exact ⟨fun a ha => by simp [Cn.args] at ha, by decide⟩
    · refine ⟨fun a ha => ?_, by decide⟩
      simp only [Cn.args, List.mem_cons, List.not_mem_nil, or_false] at ha
      subst ha
      exact ⟨fun A => V_color A, by decide⟩
    · exact absurd ⟨rfl, by decide⟩ hn
  | d + 1, n, A, h => by
    refine vstep (N := N) (n := n + d + 2) (k := .shape) (d := ((d : Int) + 1)) (f := fShp (shp d)) (by decide) (fun c hc hn => ?_) A
    have hs := shp_le (d := d) (by omega)
    simp only [cases, List.mem_cons, List.not_mem_nil, or_false] at hc
    rcases hc with rfl | rfl | rfl
    · exact ⟨fun a ha => by simp [Cn.args] at ha, by show ([[]] : List (List Vl)).length ≤ 1000; decide⟩
    · refine ⟨fun a ha => ?_, by show (prod [[]] colors).length ≤ 1000; decide⟩
      simp only [Cn.args, List.mem_cons, List.not_mem_nil, or_false] at ha
      subst ha
      exact ⟨fun A => V_color A, by show colors.length ≤ 100; decide⟩
    · refine ⟨fun a ha => ?_, ?_⟩
      · simp only [Cn.args, List.mem_cons, List.not_mem_nil, or_false] at ha
        rcases ha with rfl | rfl
        · exact ⟨fun A => V_color A, by show colors.length ≤ 100; decide⟩
        · refine ⟨fun A => ?_, hs⟩
          have := V_shape d n A (by omega)
          rw [show (d : Int) + 1 - 1 = (d : Nat) by omega]
          exact this
      · show (prod (prod [[]] colors) (shp d)).length ≤ 1000
        rw [prod_len, prod_len]
        show 1 * 2 * (shp d).length ≤ 1000
        omega
/-- the values of a type -/
def vals : Kd → List Vl
  | .int => [.other] | .color => colors | .odd => odds | .shape => shp 4
theorem vals_spec {n : Nat} {k : Kd} (A : AH) : GL A (callF pg N (n + 7) "_law_values" [kD k, .int 4] A) ((vals k).map vD) := by
  cases k with
  | int => exact V_int A
  | color => exact V_color A
  | odd => exact V_odd A
  | shape => exact V_shape 4 n A (by omega)
end
theorem mem_prod {rows : List (List Vl)} {vs row : List Vl} : row ∈ prod rows vs ↔ ∃ r ∈ rows, ∃ v ∈ vs, row = r ++ [v] := by
  unfold prod
  simp only [List.mem_flatMap, List.mem_map]
  constructor
  · rintro ⟨r, hr, v, hv, e⟩
    exact ⟨r, hr, v, hv, e.symm⟩
  · rintro ⟨r, hr, v, hv, e⟩
    exact ⟨r, hr, v, hv, e.symm⟩
theorem mem_shp : ∀ (d : Nat) (v : Vl), v ∈ shp d ↔ VOK .shape d v
  | 0, v => by
    have e : shp 0 = [.con .dot [], .con .line [.con .red []], .con .line [.con .blue []]] := by rfl
    rw [e]
    unfold VOK
    constructor
    · intro h
      simp only [List.mem_cons, List.not_mem_nil, or_false] at h
      rcases h with rfl | rfl | rfl
      · exact .inl rfl
      · exact .inr ⟨_, .inl rfl, rfl⟩
      · exact .inr ⟨_, .inr rfl, rfl⟩
    · rintro (rfl | ⟨c, rfl | rfl, rfl⟩) <;> simp
  | d + 1, v => by
    rw [shp_eq]
    unfold VOK
    constructor
    · intro h
      rcases List.mem_append.mp h with h | h
      · simp only [List.mem_cons, List.not_mem_nil, or_false] at h
        rcases h with rfl | rfl | rfl
        · exact .inl rfl
        · exact .inr (.inl ⟨_, .inl rfl, rfl⟩)
        · exact .inr (.inl ⟨_, .inr rfl, rfl⟩)
      · obtain ⟨row, hr, rfl⟩ := List.mem_map.mp h
        obtain ⟨r, hr2, s, hs, rfl⟩ := mem_prod.mp hr
        simp only [List.mem_cons, List.not_mem_nil, or_false] at hr2
        have hs := (mem_shp d s).mp hs
        rcases hr2 with rfl | rfl
        · exact .inr (.inr ⟨_, s, .inl rfl, hs, rfl⟩)
        · exact .inr (.inr ⟨_, s, .inr rfl, hs, rfl⟩)
    · rintro (rfl | ⟨c, rfl | rfl, rfl⟩ | ⟨c, s, hc, hs, rfl⟩)
      · simp
      · simp
      · simp
      · have hs := (mem_shp d s).mpr hs
        refine List.mem_append_right _ (List.mem_map.mpr ⟨[c] ++ [s], mem_prod.mpr ⟨[c], ?_, s, hs, rfl⟩, rfl⟩)
        rcases hc with rfl | rfl <;> simp
theorem mem_vals {k : Kd} {v : Vl} : v ∈ vals k ↔ VOK k 4 v := by
  cases k with
  | int =>
    unfold VOK
    simp [vals]
  | color =>
    unfold VOK
    simp [vals, colors]
  | odd =>
    have e : vals .odd = [.con .odd [.other, .con .red []], .con .odd [.other, .con .blue []]] := by rfl
    rw [e]
    unfold VOK
    constructor
    · intro h
      simp only [List.mem_cons, List.not_mem_nil, or_false] at h
      rcases h with rfl | rfl
      · exact ⟨_, .inl rfl, rfl⟩
      · exact ⟨_, .inr rfl, rfl⟩
    · rintro ⟨c, rfl | rfl, rfl⟩ <;> simp
  | shape => exact mem_shp 4 v
end K26

/-! ## K26Q -/
/-! K26Q: drawn patterns. -/
namespace K26
open Ev PySem
mutual
theorem WT_knw : ∀ {k : Kd} {h : Nat} (p : Pt), WT k h p → knw p ∧ ph p ≤ h
  | _, _, .any, _ => ⟨trivial, Nat.zero_le _⟩
  | _, _, .nm _, _ => ⟨trivial, Nat.zero_le _⟩
  | k, 0, .con c ps, w => by simp [WT] at w
  | k, h + 1, .con c ps, w => by
    unfold WT at w
    obtain ⟨d, rfl, _, w⟩ := w
    have := WT_knws d.args ps w
    refine ⟨?_, ?_⟩
    · unfold knw
      exact ⟨.inr ⟨d, rfl⟩, this.1⟩
    · unfold ph
      have := this.2
      omega
theorem WT_knws : ∀ {h : Nat} (ks : List Kd) (ps : List Pt), WTs (ks.map fun a => (a, h)) ps → knws ps ∧ phs ps ≤ h
  | h, [], [], _ => ⟨trivial, Nat.zero_le _⟩
  | h, [], _ :: _, w => by cases WTs_nil w
  | h, k :: ks, [], w => by simp [WTs] at w
  | h, k :: ks, p :: ps, w => by
    have w : WT k h p ∧ WTs (ks.map fun a => (a, h)) ps := w
    have h1 := WT_knw p w.1
    have h2 := WT_knws ks ps w.2
    refine ⟨?_, ?_⟩
    · unfold knws
      exact ⟨h1.1, h2.1⟩
    · unfold phs
      have := h1.2
      have := h2.2
      omega
end
mutual
theorem WT.mono {k : Kd} {h g : Nat} : ∀ (p : Pt), WT k h p → h ≤ g → WT k g p
  | .any, _, _ => by cases g <;> simp [WT]
  | .nm _, _, _ => by cases g <;> simp [WT]
  | .con c ps, w, hg => by
    cases h with
    | zero => simp [WT] at w
    | succ h =>
      obtain ⟨g, rfl⟩ : ∃ g', g = g' + 1 := ⟨g - 1, by omega⟩
      unfold WT at w ⊢
      obtain ⟨d, e, hd, w⟩ := w
      exact ⟨d, e, hd, WTs.mono2 d.args ps w (by omega)⟩
theorem WTs.mono2 {h g : Nat} : ∀ (ks : List Kd) (ps : List Pt), WTs (ks.map fun a => (a, h)) ps → h ≤ g → WTs (ks.map fun a => (a, g)) ps
  | [], ps, w, _ => w
  | k :: ks, [], w, _ => by simp [WTs] at w
  | k :: ks, p :: ps, w, hg => by
    have w : WT k h p ∧ WTs (ks.map fun a => (a, h)) ps := w
    exact ⟨WT.mono p w.1 hg, WTs.mono2 ks ps w.2 hg⟩
end
section
variable {N tp : Nat}
def XP (k : Kd) (h : Nat) (d : D) : Prop := ∃ p, d = pD p ∧ WT k h p ∧ nmx p = true
def EP (N tp : Nat) (k : Kd) (h n : Nat) : Prop := ∀ A, TapeOk A tp → wR (callF pg N n "_law_pattern" [.ref tp, kD k, .int (h : Nat)] A) (fun r A' => XP k h r ∧ Dr tp A A')
theorem tp_ne {A : AH} (t : TapeOk A tp) : A.length ≠ tp := fun z => by
  obtain ⟨_, _, _, _, _, _, h1, _⟩ := t
  rw [← z, new_none] at h1
  cases h1
abbrev anyE : Ex := .ix (.lst (.cons (.tup (.cons (.str "any") .nil)) (.cons (.tup (.cons (.str "name") (.cons (.str "x") .nil))) (.cons (.tup (.cons (.str "any") .nil)) .nil)))) (.call "_law_take" (.cons (.var 0) (.cons (.int 3) .nil)))
theorem any_ev {m h : Nat} {k : Kd} {F : Fr} {A : AH} (h0 : F[0]? = some (some (.ref tp))) (t : TapeOk A tp) : wR (ev (callF pg N (m + 1)) anyE F A) (fun r A' => XP k h r ∧ Dr tp A A') := by
  rw [wR_ix]
  refine wR_eq (a := .ref A.length) (A := A ++ [.lst [pD .any, pD (.nm "x"), pD .any]]) (by kernel_rfl) ?_
  have t1 : TapeOk (A ++ [.lst [pD .any, pD (.nm "x"), pD .any]]) tp := t.kp Kp.refl.app
  rw [wR_cl, wR_cons, wR_var h0, wR_cons, wR_int, wR_nil]
  refine (take_spec rfl t1 (by decide) (by decide)).mono fun r A2 ⟨j, ej, j0, j3, d2⟩ => ?_
  subst ej
  rw [opI_lst (d2.kp _ _ (tp_ne t) new_at)]
  have fin : ∀ p, (p = .any ∨ p = .nm "x") → wR (ofO (some (pD p)) A2) (fun r A' => XP k h r ∧ Dr tp A A') := fun p hp => by
    rw [wR_some]
    refine ⟨⟨p, rfl, ?_, ?_⟩, (Dr.of t Kp.refl.app).trans d2⟩
    · rcases hp with rfl | rfl <;> cases h <;> simp [WT]
    · rcases hp with rfl | rfl <;> rfl
  have : j = 0 ∨ j = 1 ∨ j = 2 := by omega
  rcases this with rfl | rfl | rfl
  · exact fin .any (.inl rfl)
  · exact fin (.nm "x") (.inr rfl)
  · exact fin .any (.inl rfl)
theorem sub_h {h : Nat} {A : AH} : opB A .sub (.int ((h + 1 : Nat) : Int)) (.int 1) = .ok (.int (h : Nat)) A := by
  show Res.ok (D.int (((h + 1 : Nat) : Int) - 1)) A = _
  rw [show ((h + 1 : Nat) : Int) - 1 = (h : Nat) by omega]
theorem dloop {m h : Nat} {k : Kd} {x3 x4 x5 : Option D} {A0 : AH} {P : List D → AH → Prop} (ih : ∀ a, EP N tp a h m) : ∀ (ks : List Kd) (acc : List Pt) (A : AH) (x6 : Option D), acc.length + ks.length ≤ 100 → Dr tp A0 A →
    (∀ ps A', WTs (ks.map fun a => (a, h)) ps → nmxs ps = true → Dr tp A0 A' → P (pDs (acc ++ ps)) A') →
    wR (lcL (asgT (.nm 6)) [] (lcB (callF pg N m) .nil (.call "_law_pattern" (.cons (.var 0) (.cons (.var 6) (.cons (.op .sub (.var 2) (.int 1)) .nil))))) [some (.ref tp), some (kD k), some (.int ((h + 1 : Nat) : Int)), x3, x4, x5, x6] (kDs ks) (pDs acc) A) P
  | [], acc, A, x6, _, d, hp => by
    apply lcL_nil rfl
    have := hp [] A rfl rfl d
    rwa [List.append_nil] at this
  | a :: ks, acc, A, x6, hz, d, hp => by
    have hz : acc.length + (ks.length + 1) ≤ 100 := hz
    show wR (lcL _ _ _ _ (kD a :: kDs ks) _ _) _
    refine lcL_cons (F' := [some (.ref tp), some (kD k), some (.int ((h + 1 : Nat) : Int)), x3, x4, x5, some (kD a)]) rfl rfl ?_
    rw [wR_lcB, wR_evc0, if_pos rfl, wR_cl, wR_cons, wR_v0, wR_cons, wR_v6, wR_cons, wR_op, wR_v2, wR_int, sub_h, wR_ok, wR_nil]
    refine (ih a A d.tape).mono fun r A1 ⟨⟨p, er, wp, np⟩, d1⟩ => ?_
    subst er
    dsimp only
    refine ⟨by rw [pDs_len, ev_sz]; omega, ?_⟩
    have e : pDs acc ++ [pD p] = pDs (acc ++ [p]) := by rw [pDs_app]; rfl
    rw [e]
    refine dloop ih ks (acc ++ [p]) A1 _ (by simp; omega) (d.trans d1) ?_
    intro ps A' w hn d'
    have := hp (p :: ps) A' ⟨wp, w⟩ (by unfold nmxs; rw [np, hn]; rfl) d'
    rw [List.append_assoc]
    exact this
theorem tuple_lst {A : AH} {a : Nat} {xs : List D} (h : A[a]? = some (.lst xs)) : biF A "tuple" [.ref a] = .ok (.tup xs) A := by
  show biTuple A [.ref a] = _
  simp only [biTuple, seqL_of h]
theorem pattern_spec : ∀ (h n : Nat) (k : Kd), h + 3 < n → EP N tp k h n
  | h, 0, k, hn => by omega
  | h, 1, k, hn => by omega
  | h, n + 2, k, hn => fun A t => by
    rw [wR_call (fd := fn_23) rfl rfl]
    show wS (sx _ N (.seq (.ite (.or (.cmp .eq (.var 2) (.int 0)) (.or (.cmp .ne (.ix (.var 1) (.int 0)) (.str "data")) (.cmp .eq (.call "_law_take" (.cons (.var 0) (.cons (.int 3) .nil))) (.int 0)))) (.seq (.ret anyE) .skip) .skip) (drp 1 fn_23.body)) [some (.ref tp), some (kD k), some (.int (h : Nat)), none, none, none, none] A) _ _ _ _
    have leaf : ∀ {A1 : AH} {Pn : Fr → AH → Prop}, Dr tp A A1 → wS (sx (callF pg N (n + 1)) N (.seq (.ret anyE) .skip) [some (.ref tp), some (kD k), some (.int (h : Nat)), none, none, none, none] A1) Pn (fun _ _ => False) (fun _ _ => False) (fun r A' => XP k h r ∧ Dr tp A A') := fun {A1 Pn} d1 => by
      rw [wS_seq, wS_ret]
      exact (any_ev (k := k) (h := h) rfl d1.tape).mono fun r A2 ⟨x, d2⟩ => ⟨x, d1.trans d2⟩
    rw [wS_seq, wS_ite, wR_tru, wR_or, wR_cmp, wR_v2, wR_int, eq_int]
    show wR (ofO (some (D.bl (decide ((h : Int) = 0)))) A) _
    rw [wR_some, truth_bl, wR_some]
    by_cases h0 : (h : Int) = 0
    · rw [if_pos (by simp [h0]), truth_bl, wR_some, if_pos (by simp [h0])]
      exact leaf (.refl t)
    rw [if_neg (by rw [decide_eq_false h0]; decide), wR_or, wR_cmp]
    by_cases hk : k = .int
    · rw [wR_tix (x := .str "int") (by rw [hk]; rfl) rfl, wR_str, ne_str]
      show wR (ofO (some (D.bl true)) A) _
      rw [wR_some, truth_bl, wR_some, if_pos rfl, truth_bl, wR_some, if_pos rfl]
      exact leaf (.refl t)
    rw [wR_tix (x := .str "data") (by rw [kD_tag hk]; rfl) rfl, wR_str, ne_str]
    show wR (ofO (some (D.bl false)) A) _
    rw [wR_some, truth_bl, wR_some, if_neg (by decide), wR_cmp, wR_cl, wR_cons, wR_v0, wR_cons, wR_int, wR_nil]
    refine (take_spec rfl t (by decide) (by decide)).mono fun r A1 ⟨j, ej, j0, j3, d1⟩ => ?_
    subst ej
    rw [wR_int, eq_int]
    show wR (ofO (some (D.bl (decide (j = 0)))) A1) _
    rw [wR_some, truth_bl, wR_some]
    by_cases hj : j = 0
    · rw [if_pos (by simp [hj])]
      exact leaf d1
    rw [if_neg (by simp [hj]), wS_skip]
    obtain ⟨g, rfl⟩ : ∃ g, h = g + 1 := ⟨h - 1, by omega⟩
    show wS (sx _ N (.seq (.set 3 (.ix (.ix (.call "_law_world" .nil) (.int 0)) (.ix (.var 1) (.int 1)))) (.seq (.asg (.tu (.cons (.nm 4) (.cons (.nm 5) .nil))) (.ix (.var 3) (.call "_law_take" (.cons (.var 0) (.cons (.bi "len" (.cons (.var 3) .nil)) .nil))))) (.seq (.ret (.tup (.cons (.str "con") (.cons (.var 4) (.cons (.bi "tuple" (.cons (.lc (.nm 6) (.wk (.var 5)) .nil (.call "_law_pattern" (.cons (.var 0) (.cons (.var 6) (.cons (.op .sub (.var 2) (.int 1)) .nil)))) [6]) .nil)) .nil))))) .skip))) _ A1) _ _ _ _
    have hw : (A1 ++ [AO.dct W, .dct []])[A1.length]? = some (.dct W) := by simp
    rw [wS_seq, wS_set, wR_ix, wR_ix, wR_cl, wR_nil, world_of, wR_ok, wR_int]
    show wR (ofO (some (D.ref A1.length)) _) _
    rw [wR_some, wR_tix (x := .str k.s) (by rw [kD_tag hk]; rfl) rfl, dct_get hw rfl, dget_W hk, wR_some]
    have ef : fset [some (.ref tp), some (kD k), some (.int ((g + 1 : Nat) : Int)), none, none, none, none] 3 (.tup ((cases k).map cD)) = [some (.ref tp), some (kD k), some (.int ((g + 1 : Nat) : Int)), some (.tup ((cases k).map cD)), none, none, none] := rfl
    rw [ef]
    have d2 : Dr tp A (A1 ++ [AO.dct W, .dct []]) := d1.app
    generalize A1 ++ [AO.dct W, .dct []] = A2 at d2
    have hl : 1 ≤ (cases k).length ∧ (cases k).length ≤ 3 := by cases k <;> first | exact absurd rfl hk | (simp [cases])
    rw [wS_seq, wS_asg, wR_ix, wR_v3, wR_cl, wR_cons, wR_v0, wR_cons, wR_bi, wR_cons, wR_v3, wR_nil, len_tup, wR_ok, wR_nil, List.length_map]
    refine (take_spec rfl d2.tape (by omega) (by omega)).mono fun r A3 ⟨j, ej, j0, j3, d3⟩ => ?_
    subst ej
    obtain ⟨i, rfl⟩ : ∃ i : Nat, j = (i : Nat) := ⟨j.toNat, by omega⟩
    have hi : i < (cases k).length := by omega
    obtain ⟨c, hc⟩ : ∃ c, (cases k)[i]? = some c := ⟨_, List.getElem?_eq_getElem hi⟩
    have hcm : c ∈ cases k := List.mem_of_getElem? hc
    have hat : opI A3 (.tup ((cases k).map cD)) (.int (i : Nat)) = some (cD c) := by
      show L2.atI ((cases k).map cD) (i : Nat) = _
      rw [atI_nat, List.getElem?_map, hc]; rfl
    rw [hat, wR_some]
    refine ⟨[some (.ref tp), some (kD k), some (.int ((g + 1 : Nat) : Int)), some (.tup ((cases k).map cD)), some (.str c.s), some (.tup (kDs c.args)), none], rfl, ?_⟩
    rw [wS_seq, wS_ret, wR_tup, wR_cons, wR_str, wR_cons, wR_v4, wR_cons, wR_bi, wR_cons, wR_lc, wR_wk, wR_v5]
    show wR (ofO (some (Wk.mk (kDs c.args) [] none)) A3) _
    rw [wR_some]
    dsimp only
    have hun : ∀ {α : Type} (r : Res α), unlR none r = r := fun r => rfl
    rw [hun, wR_bnd]
    show wR (lcL _ _ _ [some (.ref tp), some (kD k), some (.int ((g + 1 : Nat) : Int)), some (.tup ((cases k).map cD)), some (.str c.s), some (.tup (kDs c.args)), none] (kDs c.args) (pDs []) A3) _
    refine dloop (A0 := A) (fun a => pattern_spec g (n + 1) a (by omega)) c.args [] A3 _ (by cases c <;> simp [Cn.args]) (d2.trans d3) ?_
    intro ps A4 w hn d4
    rw [wR_ok, wR_nil, tuple_lst new_at, wR_ok, wR_nil, wR_ifok (sz1 (by simp))]
    refine ⟨⟨.con c.s ps, rfl, ?_, by unfold nmx; exact hn⟩, d4.app⟩
    unfold WT
    exact ⟨c, rfl, hcm, w⟩
end
end K26

/-! ## K26R -/
/-! K26R: the law's turn: what is matched. -/
namespace K26
open Ev PySem
def turnB : Sm := match fn_28.body with
  | .seq _ (.seq _ (.seq (.for _ _ b) _)) => b
  | _ => .skip
abbrev LF (s : D) (tp : Nat) (wd : D) (x3 x4 x5 x6 x7 x8 x9 x10 x11 x12 x13 x14 x15 x16 x17 x18 : Option D) : Fr := [some s, some (.ref tp), some wd, x3, x4, x5, x6, x7, x8, x9, x10, x11, x12, x13, x14, x15, x16, x17, x18]
def hitsL (v : Vl) : Nat → List Pt → List Nat
  | _, [] => []
  | i, p :: ps => if mt p v = true then i :: hitsL v (i + 1) ps else hitsL v (i + 1) ps
abbrev hitsE : Ex := .lc (.nm 16) (.rng (.cons (.bi "len" (.cons (.var 5) .nil)) .nil)) (.cons (.cmp .isnt (.call "_law_match" (.cons (.ix (.var 5) (.var 16)) (.cons (.var 9) .nil))) .non) .nil) (.var 16) [16]
section
variable {N : Nat}
theorem wR_evc1 {cl : Cl0} {c : Ex} {F : Fr} {A : AH} {P : Bool → AH → Prop} : wR (evc cl (.cons c .nil) F A) P ↔ wR (tru (ev cl c F A)) P := Iff.rfl
theorem wR_v9 {cl : Cl0} {F : Fr} {A : AH} {d : D} {P : D → AH → Prop} (h : F[9]? = some (some d)) : wR (ev cl (.var 9) F A) P ↔ P d A := wR_var h
theorem hloop {n a : Nat} {all : List Pt} {v : Vl} {A0 : AH} {F : Fr} {F' : D → Fr} {P : List D → AH → Prop} (ha : A0[a]? = some (.lst (pDs all))) (hm : ∀ p ∈ all, MS N "_law_match" p n) (hF : ∀ d, asgT (.nm 16) d F = some (F' d)) (h5 : ∀ d, (F' d)[5]? = some (some (.ref a))) (h9 : ∀ d, (F' d)[9]? = some (some (vD v))) (h16 : ∀ d, (F' d)[16]? = some (some d)) :
    ∀ (ps : List Pt) (i : Nat) (acc : List Nat) (A : AH), all.drop i = ps → acc.length ≤ i → all.length ≤ 1000 → Kp A0 A →
    (∀ A', Kp A0 A' → P ((acc ++ hitsL v i ps).map iD) A') →
    wR (lcL (asgT (.nm 16)) [] (lcB (callF pg N n) (.cons (.cmp .isnt (.call "_law_match" (.cons (.ix (.var 5) (.var 16)) (.cons (.var 9) .nil))) .non) .nil) (.var 16)) F ((List.range' i ps.length).map iD) (acc.map iD) A) P
  | [], i, acc, A, _, _, _, kp, h => by
    apply lcL_nil rfl
    have := h A kp
    rwa [show hitsL v i [] = [] from rfl, List.append_nil] at this
  | p :: ps, i, acc, A, e, hac, hz, kp, h => by
    have hp : all[i]? = some p := by
      have := congrArg (·[0]?) e
      simpa using this
    have hi : i < all.length := (List.getElem?_eq_some_iff.mp hp).1
    have e' : all.drop (i + 1) = ps := by
      rw [← List.drop_drop, e]; rfl
    show wR (lcL _ _ _ _ ((List.range' i (ps.length + 1)).map iD) _ _) _
    rw [List.range'_succ, List.map_cons]
    refine lcL_cons (F' := F' (iD i)) rfl (hF _) ?_
    have hat : opI A (.ref a) (iD i) = some (pD p) := by
      show opI A (.ref a) (.int (i : Nat)) = _
      rw [opI_lst (kp _ _ ha), atI_nat, pDs_map, List.getElem?_map, hp]; rfl
    rw [wR_lcB, wR_evc1, wR_tru, wR_cmp, wR_cl, wR_cons, wR_ix, wR_var (h5 _), wR_var (h16 _), hat, wR_some, wR_cons, wR_var (h9 _), wR_nil]
    refine (hm p (List.mem_of_getElem? hp) v A).mono fun r A1 ⟨k1, hr⟩ => ?_
    rw [wR_non]
    have hmt := matx_mt p v
    unfold hitsL at h
    cases em : matx p v with
    | none =>
      rw [em] at hr hmt
      dsimp only at hr
      subst hr
      rw [isnt_non]
      show wR (ofO (some (D.bl false)) A1) _
      rw [wR_some, truth_bl, wR_some, if_neg (by decide)]
      dsimp only
      rw [← hmt, if_neg (by decide)] at h
      exact hloop ha hm hF h5 h9 h16 ps (i + 1) acc A1 e' (by omega) hz (kp.trans k1) h
    | some o =>
      rw [em] at hr hmt
      dsimp only at hr
      obtain ⟨b, rfl, _, _⟩ := hr
      rw [isnt_ref]
      show wR (ofO (some (D.bl true)) A1) _
      rw [wR_some, truth_bl, wR_some, if_pos rfl, wR_var (h16 _)]
      dsimp only
      refine ⟨by rw [List.length_map, ev_sz]; omega, ?_⟩
      rw [← hmt, if_pos (show (some o).isSome = true from rfl)] at h
      have e3 : acc.map iD ++ [iD i] = (acc ++ [i]).map iD := by simp
      rw [e3]
      refine hloop ha hm hF h5 h9 h16 ps (i + 1) (acc ++ [i]) A1 e' (by simp; omega) hz (kp.trans k1) ?_
      intro A' k'
      have := h A' k'
      rw [List.append_assoc]
      exact this
theorem hits_spec {n a : Nat} {ps : List Pt} {v : Vl} {A : AH} {F : Fr} {F' : D → Fr} {P : D → AH → Prop} (ha : A[a]? = some (.lst (pDs ps))) (hm : ∀ p ∈ ps, MS N "_law_match" p n) (hz : ps.length ≤ 1000) (h0 : F[5]? = some (some (.ref a))) (hF : ∀ d, asgT (.nm 16) d (wipeF F [16]) = some (F' d)) (h5 : ∀ d, (F' d)[5]? = some (some (.ref a))) (h9 : ∀ d, (F' d)[9]? = some (some (vD v))) (h16 : ∀ d, (F' d)[16]? = some (some d))
    (h : ∀ b A', Kp A A' → A'[b]? = some (.lst ((hitsL v 0 ps).map iD)) → P (.ref b) A') : wR (ev (callF pg N n) hitsE F A) P := by
  rw [wR_lc, wR_rng, wR_cons, wR_bi, wR_cons, wR_var h0, wR_nil, len_lst ha, wR_ok, wR_nil, wkRng_nat (by rw [pDs_len]; omega), wR_some]
  dsimp only
  have hun : ∀ {α : Type} (r : Res α), unlR none r = r := fun r => rfl
  rw [hun, wR_bnd, pDs_len, List.range_eq_range']
  show wR (lcL _ _ _ _ ((List.range' 0 ps.length).map iD) (([] : List Nat).map iD) A) _
  refine hloop ha hm hF h5 h9 h16 ps 0 [] A rfl (Nat.le_refl _) hz .refl ?_
  intro A' k'
  rw [wR_ok]
  exact h _ _ k'.app new_at
/-! ### hits and the first match -/
theorem hits_fst {v : Vl} : ∀ (ps : List Pt) (i : Nat), (match fstm i ps v with
    | none => hitsL v i ps = []
    | some (j, o) => ∃ r p, hitsL v i ps = j :: r ∧ i ≤ j ∧ ps[j - i]? = some p ∧ matx p v = some o)
  | [], i => rfl
  | p :: ps, i => by
    have hmt := matx_mt p v
    unfold fstm hitsL
    cases em : matx p v with
    | none =>
      rw [em] at hmt
      dsimp only
      rw [← hmt, if_neg (by decide)]
      have ih := hits_fst (v := v) ps (i + 1)
      cases ef : fstm (i + 1) ps v with
      | none => rw [ef] at ih; exact ih
      | some q =>
        obtain ⟨j, o⟩ := q
        rw [ef] at ih
        obtain ⟨r, p', h1, h2, h3, h4⟩ := ih
        refine ⟨r, p', h1, by omega, ?_, h4⟩
        have : j - i = (j - (i + 1)) + 1 := by omega
        rw [this, List.getElem?_cons_succ]
        exact h3
    | some o =>
      rw [em] at hmt
      dsimp only
      rw [← hmt, if_pos (show (some o).isSome = true from rfl)]
      exact ⟨_, p, rfl, Nat.le_refl _, by simp, em⟩
end
end K26

/-! ## K26S -/
/-! K26S: == and in, of plain data. -/
namespace K26
open Ev PySem
mutual
theorem pl_pd : ∀ (d : D), pl d = true → ∃ p, toPd d = some p ∧ p.canLay0 = true ∧ p.depth ≤ dp d
  | .non, _ => ⟨.none, rfl, by simp [PyData.canLay0], by simp [PyData.depth]⟩
  | .bl b, _ => ⟨.bool b, rfl, by simp [PyData.canLay0], by simp [PyData.depth]⟩
  | .int i, _ => ⟨.int i, rfl, by simp [PyData.canLay0], by simp [PyData.depth]⟩
  | .str s, _ => ⟨.str (Str.ofString s), rfl, by simp [PyData.canLay0, strOk_of], by simp [PyData.depth]⟩
  | .tup xs, h => by
    unfold pl at h
    rw [Bool.and_eq_true] at h
    obtain ⟨ps, h1, h2, h3, _⟩ := pls_pd xs h.1
    refine ⟨.tuple ps, ?_, by simp [PyData.canLay0, h2], ?_⟩
    · show (toPds xs).map PyData.tuple = _
      rw [h1]; rfl
    · unfold dp PyData.depth
      omega
  | .frl _, h => by simp [pl] at h
  | .ref _, h => by simp [pl] at h
  | .gl _, h => by simp [pl] at h
theorem pls_pd : ∀ (xs : List D), pls xs = true → ∃ ps, toPds xs = some ps ∧ PyData.canLayAll0 ps = true ∧ PyData.depthAll ps ≤ dps xs ∧ ps.isEmpty = xs.isEmpty
  | [], _ => ⟨[], rfl, rfl, by simp [PyData.depthAll], rfl⟩
  | d :: xs, h => by
    unfold pls at h
    rw [Bool.and_eq_true] at h
    obtain ⟨p, h1, h2, h3⟩ := pl_pd d h.1
    obtain ⟨ps, g1, g2, g3, _⟩ := pls_pd xs h.2
    refine ⟨p :: ps, by simp [toPds, h1, g1], by simp [PyData.canLayAll0, h2, g2], ?_, rfl⟩
    unfold dps PyData.depthAll
    omega
end
theorem list_pd {xs : List D} (h : pls xs = true) (hd : dps xs ≤ 60) : ∃ ps, toPds xs = some ps ∧ SeqAt.shaped (.list ps) = true ∧ SeqAt.shaped (.tuple ps) = true ∧ (PyData.list ps).canLay0 = true ∧ ps.isEmpty = xs.isEmpty := by
  obtain ⟨ps, h1, h2, h3, h4⟩ := pls_pd xs h
  refine ⟨ps, h1, ?_, ?_, by simp [PyData.canLay0, h2], h4⟩
  · simp [SeqAt.shaped, PyData.canLay0, PyData.depth, h2]; omega
  · simp [SeqAt.shaped, PyData.canLay0, PyData.depth, h2]; omega
theorem eq_empty {A : AH} {a b : Nat} {xs : List D} (h : pls xs = true) (hd : dps xs ≤ 60) (ha : A[a]? = some (.lst xs)) (hb : A[b]? = some (.lst [])) : opC A .eq (.ref a) (.ref b) = some xs.isEmpty := by
  obtain ⟨ps, h1, h2, _, _, h5⟩ := list_pd h hd
  refine eq_ll ha hb h1 h2 ?_
  rw [← h5]
  cases ps <;> simp [PyData.eqv, PyData.eqvAll]
theorem ne_empty {A : AH} {a b : Nat} {xs : List D} (h : pls xs = true) (hd : dps xs ≤ 60) (ha : A[a]? = some (.lst xs)) (hb : A[b]? = some (.lst [])) : opC A .ne (.ref a) (.ref b) = some (!xs.isEmpty) := by
  show (opC A .eq (.ref a) (.ref b)).map (!·) = _
  rw [eq_empty h hd ha hb]; rfl
theorem eq_same {A : AH} {a b : Nat} {xs : List D} (h : pls xs = true) (hd : dps xs ≤ 60) (ha : A[a]? = some (.lst xs)) (hb : A[b]? = some (.lst xs)) : opC A .eq (.ref a) (.ref b) = some true := by
  obtain ⟨ps, g1, g2, _, g4, _⟩ := list_pd h hd
  show eqO A (.ref a) (.ref b) = _
  have h1 : dctO A (.ref a) = none := by simp [dctO, ha]
  have h3 : toP A (.ref a) = some (.list ps) := by simp [toP, seqL_of ha, g1]
  have h4 : toP A (.ref b) = some (.list ps) := by simp [toP, seqL_of hb, g1]
  have he : PyData.eqv (.list ps) (.list ps) = true := SeqAt.eqv_refl _ g4
  simp only [eqO, h1, eqD, h3, h4, g2, Bool.and_self, if_true, he]
theorem toPds_mem {x : D} {p : PyData} (hp : toPd x = some p) : ∀ (xs : List D) (ps : List PyData), toPds xs = some ps → x ∈ xs → p ∈ ps
  | [], _, _, hm => by cases hm
  | y :: xs, ps, g1, hm => by
    unfold toPds at g1
    cases e1 : toPd y with
    | none => rw [e1] at g1; cases g1
    | some q =>
      cases e2 : toPds xs with
      | none => rw [e1, e2] at g1; cases g1
      | some qs =>
        rw [e1, e2] at g1
        cases g1
        rcases List.mem_cons.mp hm with e | hm
        · rw [← e, hp] at e1
          cases e1
          exact List.mem_cons_self
        · exact List.mem_cons_of_mem _ (toPds_mem hp xs qs e2 hm)
theorem any_ints (i : Nat) : ∀ l : List Nat, ((l.map iD).any fun z => flatEq z (iD i)) = l.contains i
  | [] => rfl
  | j :: l => by
    rw [List.map_cons, List.any_cons, any_ints i l, List.contains_cons]
    have : flatEq (iD j) (iD i) = (i == j) := by
      show ((j : Int) == (i : Int)) = _
      by_cases h : i = j
      · subst h; simp
      · have h2 : ¬ (j : Int) = i := by omega
        rw [beq_eq_false_iff_ne.mpr h2, beq_eq_false_iff_ne.mpr h]
    rw [this]
theorem mem_same {A : AH} {a : Nat} {xs ys : List D} (h : pls xs = true) (hd : dps xs ≤ 60) (ha : A[a]? = some (.lst xs)) (hm : .tup ys ∈ xs) : opC A .mem (.tup ys) (.ref a) = some true := by
  obtain ⟨ps, g1, g2, _, g4, _⟩ := list_pd h hd
  show memD A (.tup ys) (.ref a) = _
  have h1 : dctL A a = none := by simp [dctL, ha]
  have h2 : seqL A a = some xs := seqL_of ha
  have hp := pls_mem h _ hm
  obtain ⟨p, p1, p2, p3⟩ := pl_pd _ hp
  have hf : (flatD (.tup ys) && xs.all flatD) = false := rfl
  simp only [memD, h1, h2, hf]
  have p1' : toP A (.tup ys) = some p := p1
  have hsp : SeqAt.shaped p = true := by
    have := dps_mem hm
    simp [SeqAt.shaped, p2]; omega
  have hin : p ∈ ps := toPds_mem p1 xs ps g1 hm
  have hany : (ps.any fun z => PyData.eqv z p) = true := List.any_eq_true.mpr ⟨p, hin, SeqAt.eqv_refl _ p2⟩
  simp [memP, p1', g1, hsp, g2]
  exact ⟨p, hin, SeqAt.eqv_refl _ p2⟩
theorem ints_pl : ∀ l : List Nat, pls (l.map iD) = true ∧ dps (l.map iD) = 0
  | [] => ⟨rfl, rfl⟩
  | i :: l => by
    have := ints_pl l
    refine ⟨?_, ?_⟩
    · show (pl (iD i) && pls (l.map iD)) = true
      rw [this.1]; rfl
    · show max (dp (iD i)) (dps (l.map iD)) = 0
      rw [this.2]; rfl
theorem nmem_ints {A : AH} {a : Nat} {l : List Nat} {i : Nat} (ha : A[a]? = some (.lst (l.map iD))) : opC A .nmem (iD i) (.ref a) = some (!l.contains i) := by
  show (memD A (iD i) (.ref a)).map (!·) = _
  have h1 : dctL A a = none := by simp [dctL, ha]
  have h2 : seqL A a = some (l.map iD) := seqL_of ha
  have hf : (flatD (iD i) && (l.map iD).all flatD) = true := by
    rw [List.all_map]
    simp [flatD, iD]
  simp only [memD, h1, h2, hf, if_true]
  rw [any_ints]; rfl
end K26

/-! ## K26T -/
/-! K26T: the law's turn: one value. -/
namespace K26
open Ev PySem
theorem VOK_pl : ∀ {d : Nat} {k : Kd} {v : Vl}, VOK k d v → pl (vD v) = true ∧ dp (vD v) ≤ 2 * d + 4 := by
  have col : ∀ {c : Vl}, (c = Vl.con .red [] ∨ c = .con .blue []) → pl (vD c) = true ∧ dp (vD c) = 2 := by
    rintro c (rfl | rfl) <;> exact ⟨by rfl, by rfl⟩
  have sh : ∀ (d : Nat) {v : Vl}, VOK .shape d v → pl (vD v) = true ∧ dp (vD v) ≤ 2 * d + 4 := by
    intro d
    induction d with
    | zero =>
      intro v h
      unfold VOK at h
      rcases h with rfl | ⟨c, hc, rfl⟩
      · exact ⟨by rfl, by decide⟩
      · rcases hc with rfl | rfl <;> exact ⟨by rfl, by decide⟩
    | succ d ih =>
      intro v h
      unfold VOK at h
      rcases h with rfl | ⟨c, hc, rfl⟩ | ⟨c, s, hc, hs, rfl⟩
      · exact ⟨by rfl, by show 2 ≤ _; omega⟩
      · rcases hc with rfl | rfl <;> exact ⟨by rfl, by show 4 ≤ _; omega⟩
      · obtain ⟨h1, h2⟩ := ih hs
        obtain ⟨g1, g2⟩ := col hc
        refine ⟨?_, ?_⟩
        · simp [vD, vDs, pl, pls, h1, g1]
        · have : dp (vD (.con .box [c, s])) = max 0 (max 0 (max (max (dp (vD c)) (max (dp (vD s)) 0) + 1) 0)) + 1 := rfl
          omega
  intro d k v h
  cases k with
  | int =>
    unfold VOK at h
    subst h
    exact ⟨by rfl, by show 1 ≤ _; omega⟩
  | color =>
    unfold VOK at h
    have := col h
    exact ⟨this.1, by omega⟩
  | odd =>
    unfold VOK at h
    obtain ⟨c, hc, rfl⟩ := h
    rcases hc with rfl | rfl <;> exact ⟨by rfl, by show 4 ≤ _; omega⟩
  | shape => exact sh d h
mutual
theorem matx_pl : ∀ (p : Pt) (v w : Vl), pl (vD v) = true → matx p v = some (some w) → pl (vD w) = true ∧ dp (vD w) ≤ dp (vD v)
  | .any, v, w, _, h => by simp [matx] at h
  | .nm x, v, w, hv, h => by
    simp only [matx, Option.some.injEq] at h
    subst h
    exact ⟨hv, Nat.le_refl _⟩
  | .con c ps, .other, w, hv, h => by simp [matx] at h
  | .con c ps, .con d vs, w, hv, h => by
    unfold matx at h
    split at h
    · have hvs : pls (vDs vs) = true := by
        simp [vD, pl, pls] at hv
        exact hv.1
      have := matsx_pl ps vs none w hvs (fun u e => by cases e) h
      refine ⟨this.1, ?_⟩
      have e : dp (vD (.con d vs)) = max 0 (max 0 (max (dps (vDs vs) + 1) 0)) + 1 := rfl
      rcases this.2 with h2 | ⟨u, e2, _⟩
      · omega
      · cases e2
    · cases h
theorem matsx_pl : ∀ (ps : List Pt) (vs : List Vl) (a : Option Vl) (w : Vl), pls (vDs vs) = true → (∀ u, a = some u → pl (vD u) = true) → matsx ps vs a = some (some w) → pl (vD w) = true ∧ (dp (vD w) ≤ dps (vDs vs) ∨ ∃ u, a = some u ∧ w = u)
  | [], vs, a, w, _, ha, h => by
    simp only [matsx, Option.some.injEq] at h
    exact ⟨ha w h, .inr ⟨w, h, rfl⟩⟩
  | _ :: _, [], a, w, _, ha, h => by
    simp only [matsx, Option.some.injEq] at h
    exact ⟨ha w h, .inr ⟨w, h, rfl⟩⟩
  | p :: ps, v :: vs, a, w, hv, ha, h => by
    have hv : (pl (vD v) && pls (vDs vs)) = true := hv
    rw [Bool.and_eq_true] at hv
    unfold matsx at h
    have ed : dps (vDs (v :: vs)) = max (dp (vD v)) (dps (vDs vs)) := rfl
    cases e : matx p v with
    | none => rw [e] at h; cases h
    | some b =>
      rw [e] at h
      dsimp only at h
      have hb : ∀ u, b = some u → pl (vD u) = true ∧ dp (vD u) ≤ dp (vD v) := fun u eu => matx_pl p v u hv.1 (by rw [e, eu])
      have := matsx_pl ps vs (b <|> a) w hv.2 (fun u eu => by
        cases b with
        | none => exact ha u eu
        | some z =>
          have eu : some z = some u := eu
          rw [← Option.some.inj eu]
          exact (hb z rfl).1) h
      refine ⟨this.1, ?_⟩
      rcases this.2 with h2 | ⟨u, eu, rfl⟩
      · exact .inl (by omega)
      · cases b with
        | none => exact .inr ⟨w, eu, rfl⟩
        | some z =>
          have eu : some z = some w := eu
          have := (hb z rfl).2
          rw [Option.some.inj eu] at this
          exact .inl (by omega)
end
section
variable {N : Nat}
abbrev smE : Ex := .call "_law_same" (.cons (.call "matched" (.cons (.var 7) (.cons (.var 9) .nil))) (.cons (.call "_law_match" (.cons (.var 7) (.cons (.var 9) .nil))) .nil))
theorem xd_pl {k : Kd} {v w : Vl} {p : Pt} (hv : VOK k 4 v) (h : matx p v = some (some w)) : pl (vD w) = true ∧ dp (vD w) ≤ 12 := by
  have h1 := VOK_pl hv
  have h2 := matx_pl p v w h1.1 h
  exact ⟨h2.1, by omega⟩
theorem aloop {n a : Nat} {all : List Pt} {v : Vl} {k : Kd} {A0 : AH} {F : Fr} {F' : D → Fr} {P : List D → AH → Prop} (hn : 40 ≤ n) (ha : A0[a]? = some (.lst (pDs all))) (hv : VOK k 4 v) (hm : ∀ p ∈ all, ph p ≤ 10 ∧ nmx p = true) (hF : ∀ d, asgT (.nm 7) d F = some (F' d)) (h7 : ∀ d, (F' d)[7]? = some (some d)) (h9 : ∀ d, (F' d)[9]? = some (some (vD v))) :
    ∀ (ps : List Pt) (acc : Nat) (A : AH), (∀ p ∈ ps, p ∈ all) → acc + ps.length ≤ 1000 → Kp A0 A →
    (∀ A', Kp A0 A' → P (List.replicate (acc + ps.length) (.bl true)) A') →
    wR (lcL (asgT (.nm 7)) [(a, .lst (pDs all))] (lcB (callF pg N n) .nil smE) F (pDs ps) (List.replicate acc (.bl true)) A) P
  | [], acc, A, _, _, kp, h => by
    apply lcL_nil (gOk_one (kp _ _ ha))
    exact h A kp
  | p :: ps, acc, A, hin, hz, kp, h => by
    have hz : acc + (ps.length + 1) ≤ 1000 := hz
    have hp := hm p (hin p List.mem_cons_self)
    show wR (lcL _ _ _ _ (pD p :: pDs ps) _ _) _
    refine lcL_cons (F' := F' (pD p)) (gOk_one (kp _ _ ha)) (hF _) ?_
    rw [wR_lcB, wR_evc0, if_pos rfl, wR_cl, wR_cons, wR_cl, wR_cons, wR_var (h7 _), wR_cons, wR_var (h9 _), wR_nil]
    refine (matched_spec n p (by omega) hp.2 v A).mono fun r A1 ⟨k1, hr⟩ => ?_
    rw [wR_cons, wR_cl, wR_cons, wR_var (h7 _), wR_cons, wR_var (h9 _), wR_nil]
    refine (law_match_spec n p (by omega) hp.2 v A1).mono fun r2 A2 ⟨k2, hr2⟩ => ?_
    rw [wR_nil]
    have sm : SM N n r r2 A2 := by
      cases em : matx p v with
      | none =>
        rw [em] at hr hr2
        dsimp only at hr hr2
        subst hr hr2
        exact same_p rfl (by show 2 * 0 + 1 < n; omega)
      | some o =>
        rw [em] at hr hr2
        dsimp only at hr hr2
        obtain ⟨b, rfl, _, hb⟩ := hr
        obtain ⟨c, rfl, _, hc⟩ := hr2
        obtain ⟨m, rfl⟩ : ∃ m, n = m + 1 := ⟨n - 1, by omega⟩
        exact same_xd (fun w ew => by
          have := xd_pl hv (by rw [em, ew])
          exact ⟨this.1, by omega⟩) (k2 _ _ hb) hc
    unfold SM at sm
    refine sm.mono fun r3 A3 ⟨er, k3⟩ => ?_
    subst er
    dsimp only
    refine ⟨by rw [List.length_replicate, ev_sz]; omega, ?_⟩
    have e : List.replicate acc (D.bl true) ++ [.bl true] = List.replicate (acc + 1) (.bl true) := by rw [List.replicate_succ']
    rw [e]
    refine aloop hn ha hv hm hF h7 h9 ps (acc + 1) A3 (fun q hq => hin q (List.mem_cons_of_mem _ hq)) (by omega) (kp.trans (k1.trans (k2.trans k3))) ?_
    intro A' k'
    have := h A' k'
    rw [show acc + (p :: ps).length = acc + 1 + ps.length by simp; omega] at this
    exact this
end
end K26

/-! ## K26U -/
/-! K26U: the law's turn: the first values. -/
namespace K26
open Ev PySem
abbrev valB : Sm := .seq (.set 10 hitsE) (.seq (.ite (.not (.call "_law_same" (.cons (.call "first_match" (.cons (.var 5) (.cons (.var 9) .nil))) (.cons (.ite (.cmp .ne (.var 10) (.lst .nil)) (.tup (.cons (.ix (.var 10) (.int 0)) (.cons (.call "_law_match" (.cons (.ix (.var 5) (.ix (.var 10) (.int 0))) (.cons (.var 9) .nil))) .nil))) .non) .nil)))) (.seq (.ret (.bl false)) .skip) .skip) (.seq (.ite (.not (.bi "all" (.cons (.lc (.nm 7) (.wk (.var 5)) .nil smE [7]) .nil))) (.seq (.ret (.bl false)) .skip) .skip) .skip))
/-- patterns as the law has them -/
structure PsOk (k : Kd) (ps : List Pt) : Prop where
  len : ps.length ≤ 5
  wt : ∀ p ∈ ps, WT k 3 p
  nx : ∀ p ∈ ps, nmx p = true
theorem nmxs_of : ∀ {ps : List Pt}, (∀ p ∈ ps, nmx p = true) → nmxs ps = true
  | [], _ => rfl
  | p :: ps, h => by
    unfold nmxs
    rw [h p List.mem_cons_self, nmxs_of fun q hq => h q (List.mem_cons_of_mem _ hq)]
    rfl
theorem phs_of {n : Nat} : ∀ {ps : List Pt}, (∀ p ∈ ps, ph p ≤ n) → phs ps ≤ n
  | [], _ => Nat.zero_le _
  | p :: ps, h => by
    unfold phs
    have := h p List.mem_cons_self
    have := phs_of fun q hq => h q (List.mem_cons_of_mem _ hq)
    omega
section
variable {N : Nat} {k : Kd} {ps : List Pt}
theorem PsOk.ph (h : PsOk k ps) : ∀ p ∈ ps, ph p ≤ 3 := fun p hp => (WT_knw p (h.wt p hp)).2
theorem PsOk.ms (h : PsOk k ps) {n : Nat} (hn : 10 ≤ n) : ∀ p ∈ ps, MS N "_law_match" p n := fun p hp => law_match_spec n p (by have := h.ph p hp; omega) (h.nx p hp)
theorem val_ok {s wd : D} {tp a : Nat} {v : Vl} {A : AH} {x3 x4 x6 x7 x8 x10 x11 x12 x13 x14 x15 x16 x17 x18 : Option D} {Pn Pb Pc : Fr → AH → Prop} {Pr : D → AH → Prop} (hp : PsOk k ps) (hv : VOK k 4 v) (ha : A[a]? = some (.lst (pDs ps)))
    (h : ∀ b A', Kp A A' → Pn (LF s tp wd x3 x4 (some (.ref a)) x6 x7 x8 (some (vD v)) (some (.ref b)) x11 x12 x13 x14 x15 x16 x17 x18) A') :
    wS (sx (callF pg N 228) N valB (LF s tp wd x3 x4 (some (.ref a)) x6 x7 x8 (some (vD v)) x10 x11 x12 x13 x14 x15 x16 x17 x18) A) Pn Pb Pc Pr := by
  have hz : ps.length ≤ 1000 := by have := hp.len; omega
  rw [wS_seq, wS_set]
  apply hits_spec (F' := fun d => LF s tp wd x3 x4 (some (.ref a)) x6 x7 x8 (some (vD v)) x10 x11 x12 x13 x14 x15 (some d) x17 x18) ha (hp.ms (by omega)) hz rfl (fun d => rfl) (fun d => rfl) (fun d => rfl) (fun d => rfl)
  intro b A1 k1 hb
  have ef : fset (LF s tp wd x3 x4 (some (.ref a)) x6 x7 x8 (some (vD v)) x10 x11 x12 x13 x14 x15 x16 x17 x18) 10 (.ref b) = LF s tp wd x3 x4 (some (.ref a)) x6 x7 x8 (some (vD v)) (some (.ref b)) x11 x12 x13 x14 x15 x16 x17 x18 := rfl
  rw [ef, wS_seq, wS_ite, wR_tru, wR_not, wR_cl, wR_cons, wR_cl, wR_cons, wR_v5, wR_cons, wR_var (i := 9) (d := vD v) rfl, wR_nil]
  refine (first_spec (n := 227) (by have := phs_of hp.ph; omega) (nmxs_of hp.nx) (k1 _ _ ha)).mono fun r A2 ⟨k2, hr⟩ => ?_
  rw [wR_cons, wR_ite, wR_cmp, wR_var (i := 10) (d := .ref b) rfl, wR_lst, wR_nil, wR_ifok (sz1 (by simp)), ne_empty (ints_pl _).1 (by rw [(ints_pl _).2]; omega) (app_at (k2 _ _ hb)) new_at]
  have kA3 : Kp A2 (A2 ++ [AO.lst []]) := Kp.refl.app
  generalize A2 ++ [AO.lst []] = A3 at kA3
  show wR (ofO (some (D.bl (!((hitsL v 0 ps).map iD).isEmpty))) A3) _
  rw [wR_some, truth_bl, wR_some]
  -- the rest: all the patterns
  have rest : ∀ A4, Kp A A4 → wS (sx (callF pg N 228) N (.seq (.ite (.not (.bi "all" (.cons (.lc (.nm 7) (.wk (.var 5)) .nil smE [7]) .nil))) (.seq (.ret (.bl false)) .skip) .skip) .skip) (LF s tp wd x3 x4 (some (.ref a)) x6 x7 x8 (some (vD v)) (some (.ref b)) x11 x12 x13 x14 x15 x16 x17 x18) A4) Pn Pb Pc Pr := by
    intro A4 k4
    rw [wS_seq, wS_ite, wR_tru, wR_not, wR_bi, wR_cons, wR_lc, wR_wk, wR_v5, wk_lst (k4 _ _ ha), wR_some]
    dsimp only
    have hun : ∀ {α : Type} (r : Res α), unlR none r = r := fun r => rfl
    rw [hun, wR_bnd]
    show wR (lcL _ _ _ (LF s tp wd x3 x4 (some (.ref a)) x6 none x8 (some (vD v)) (some (.ref b)) x11 x12 x13 x14 x15 x16 x17 x18) (pDs ps) (List.replicate 0 (.bl true)) A4) _
    refine aloop (F' := fun d => LF s tp wd x3 x4 (some (.ref a)) x6 (some d) x8 (some (vD v)) (some (.ref b)) x11 x12 x13 x14 x15 x16 x17 x18) (by omega) (k4 _ _ ha) hv (fun p hp' => ⟨by have := hp.ph p hp'; omega, hp.nx p hp'⟩) (fun d => rfl) (fun d => rfl) (fun d => rfl) ps 0 A4 (fun p h => h) (by omega) .refl ?_
    intro A5 k5
    have hall : ∀ m, biF (A5 ++ [AO.lst (List.replicate m (.bl true))]) "all" [.ref A5.length] = .ok (.bl true) (A5 ++ [AO.lst (List.replicate m (.bl true))]) := fun m => by
      show biAll _ [.ref A5.length] = _
      have h1 : (seqL (A5 ++ [AO.lst (List.replicate m (.bl true))]) A5.length).bind blsOf = some (List.replicate m true) := by
        rw [seqL_of new_at]
        have := bls_map (fun _ : Nat => true) (List.replicate m 0)
        simpa using this
      simp only [biAll, h1]
      simp
    rw [wR_ok, wR_nil, hall, wR_ok, truth_bl]
    show wR (ofO (some (D.bl false)) _) _
    rw [wR_some, truth_bl, wR_some, if_neg (by decide), wS_skip, wS_skip]
    exact h b _ (k4.trans k5).app
  have go : ∀ r2 A4, Kp A3 A4 → SM N 228 r r2 A4 → wR (callF pg N 228 "_law_same" [r, r2] A4) (fun d A5 => wR (ofO ((truth A5 d).map fun b => D.bl (!b)) A5) fun d A6 => wR (ofO (truth A6 d) A6) fun rr A7 => if rr = true then wS (sx (callF pg N 228) N (.seq (.ret (.bl false)) .skip) (LF s tp wd x3 x4 (some (.ref a)) x6 x7 x8 (some (vD v)) (some (.ref b)) x11 x12 x13 x14 x15 x16 x17 x18) A7) (fun F A => wS (sx (callF pg N 228) N (.seq (.ite (.not (.bi "all" (.cons (.lc (.nm 7) (.wk (.var 5)) .nil smE [7]) .nil))) (.seq (.ret (.bl false)) .skip) .skip) .skip) F A) Pn Pb Pc Pr) Pb Pc Pr else wS (sx (callF pg N 228) N .skip (LF s tp wd x3 x4 (some (.ref a)) x6 x7 x8 (some (vD v)) (some (.ref b)) x11 x12 x13 x14 x15 x16 x17 x18) A7) (fun F A => wS (sx (callF pg N 228) N (.seq (.ite (.not (.bi "all" (.cons (.lc (.nm 7) (.wk (.var 5)) .nil smE [7]) .nil))) (.seq (.ret (.bl false)) .skip) .skip) .skip) F A) Pn Pb Pc Pr) Pb Pc Pr) := by
    intro r2 A4 k4 sm
    unfold SM at sm
    refine sm.mono fun d A5 ⟨ed, k5⟩ => ?_
    subst ed
    rw [truth_bl]
    show wR (ofO (some (D.bl false)) A5) _
    rw [wR_some, truth_bl, wR_some, if_neg (by decide), wS_skip]
    exact rest A5 (k1.trans (k2.trans (kA3.trans (k4.trans k5))))
  have hf := hits_fst (v := v) ps 0
  cases ef : fstm 0 ps v with
  | none =>
    rw [ef] at hf hr
    dsimp only at hf hr
    subst hr
    rw [if_neg (by rw [hf]; decide), wR_non, wR_nil]
    exact go .non A3 .refl (same_p rfl (by show 2 * 0 + 1 < 228; omega))
  | some q =>
    obtain ⟨j, o⟩ := q
    rw [ef] at hf hr
    dsimp only at hf hr
    obtain ⟨r', p, h1, _, h3, h4⟩ := hf
    obtain ⟨c, er, hc, hc'⟩ := hr
    subst er
    have hpm : p ∈ ps := List.mem_of_getElem? h3
    have hb3 : A3[b]? = some (.lst ((hitsL v 0 ps).map iD)) := kA3 _ _ (k2 _ _ hb)
    have hb0 : opI A3 (.ref b) (.int 0) = some (iD j) := by
      rw [opI_lst hb3, h1, List.map_cons, atI_0]
    have hpat : opI A3 (.ref a) (iD j) = some (pD p) := by
      show opI A3 (.ref a) (.int (j : Nat)) = _
      rw [opI_lst (kA3 _ _ (k2 _ _ (k1 _ _ ha))), atI_nat, pDs_map, List.getElem?_map]
      rw [Nat.sub_zero] at h3
      rw [h3]; rfl
    rw [if_pos (by rw [h1]; rfl), wR_tup, wR_cons, wR_ix, wR_var (i := 10) (d := .ref b) rfl, wR_int, hb0, wR_some, wR_cons, wR_cl, wR_cons, wR_ix, wR_v5, wR_ix, wR_var (i := 10) (d := .ref b) rfl, wR_int, hb0, wR_some, hpat, wR_some, wR_cons, wR_var (i := 9) (d := vD v) rfl, wR_nil]
    refine (hp.ms (N := N) (by omega) p hpm v A3).mono fun r2 A4 ⟨k4, hr2⟩ => ?_
    rw [h4] at hr2
    dsimp only at hr2
    obtain ⟨e, er, _, he⟩ := hr2
    subst er
    rw [wR_nil, wR_ifok (sz1 (by simp)), wR_nil]
    refine go _ A4 k4 ?_
    refine same_tup2 (n := 226) rfl (by simp) ?_
    intro i x y hx hy A5 k5
    match i, hx, hy with
    | 0, hx, hy =>
      cases hx
      cases hy
      exact same_p rfl (by show 2 * 0 + 1 < 226; omega)
    | 1, hx, hy =>
      cases hx
      cases hy
      exact same_xd (n := 225) (fun w ew => by
        have := xd_pl hv (by rw [h4, ew])
        exact ⟨this.1, by omega⟩) (k5 _ _ (k4 _ _ (kA3 _ _ hc'))) (k5 _ _ he)
    | i + 2, hx, hy => simp at hx
end
end K26

/-! ## K26V -/
/-! K26V: the law's turn: firsts and missed. -/
namespace K26
open Ev PySem
abbrev fmB : Sm := .seq (.set 10 hitsE) (.seq (.set 11 (.op .add (.var 11) (.sl (.var 10) .nil (.cons (.int 1) .nil)))) (.seq (.set 12 (.op .add (.var 12) (.ite (.cmp .eq (.var 10) (.lst .nil)) (.lst (.cons (.var 9) .nil)) (.lst .nil)))) .skip))
section
variable {N : Nat} {k : Kd} {ps : List Pt}
theorem sl_one {cl : Cl0} {F : Fr} {A : AH} {i a : Nat} {xs : List D} {P : D → AH → Prop} (h : F[i]? = some (some (.ref a))) (ha : A[a]? = some (.lst xs)) : wR (ev cl (.sl (.var i) .nil (.cons (.int 1) .nil)) F A) P ↔ P (.ref A.length) (A ++ [.lst (xs.take 1)]) := by
  rw [wR_sl, wR_var h]
  show wR (Res.ok none A) _ ↔ _
  rw [wR_ok]
  show wR (Res.ok (some ((1 : Nat) : Int)) A) _ ↔ _
  rw [wR_ok]
  have e : opS A (.ref a) none (some ((1 : Nat) : Int)) = .ok (.ref A.length) (A ++ [.lst (cutD xs none (some ((1 : Nat) : Int)))]) := by
    simp only [opS, seqL_of ha]
  rw [e, wR_ok, cut_to]
theorem fmloop {s wd : D} {tp a c : Nat} {L : List D} {A0 : AH} {x3 x4 x6 x7 x8 x13 x14 x15 x16 x17 x18 : Option D} {Pn Pb Pc : Fr → AH → Prop} {Pr : D → AH → Prop} (hp : PsOk k ps) (ha : A0[a]? = some (.lst (pDs ps))) (hc : A0[c]? = some (.lst L)) :
    ∀ (vs : List Vl) (fs : List Nat) (ms : List Vl) (f m : Nat) (A : AH) (x9 x10 : Option D), fs.length + vs.length ≤ 1000 → ms.length + vs.length ≤ 1000 → Kp A0 A → A[f]? = some (.lst (fs.map iD)) → A[m]? = some (.lst (ms.map vD)) →
    (∀ A' f' m' x9 x10, Kp A0 A' → A'[f']? = some (.lst ((fs ++ vs.flatMap fun v => (hitsL v 0 ps).take 1).map iD)) → A'[m']? = some (.lst ((ms ++ vs.filter fun v => (hitsL v 0 ps).isEmpty).map vD)) → Pn (LF s tp wd x3 x4 (some (.ref a)) x6 x7 x8 x9 x10 (some (.ref f')) (some (.ref m')) x13 x14 x15 x16 x17 x18) A') →
    wS (forL (asgT (.nm 9)) [(c, .lst L)] (fun F' A' => sx (callF pg N 228) N fmB F' A') (vs.map vD) (LF s tp wd x3 x4 (some (.ref a)) x6 x7 x8 x9 x10 (some (.ref f)) (some (.ref m)) x13 x14 x15 x16 x17 x18) A) Pn Pb Pc Pr
  | [], fs, ms, f, m, A, x9, x10, _, _, kp, hf, hm, h => by
    apply forS_nil (gOk_one (kp _ _ hc))
    exact h A f m x9 x10 kp (by rw [List.flatMap_nil, List.append_nil]; exact hf) (by rw [List.filter_nil, List.append_nil]; exact hm)
  | v :: vs, fs, ms, f, m, A, x9, x10, hz1, hz2, kp, hf, hm, h => by
    have hz1 : fs.length + (vs.length + 1) ≤ 1000 := hz1
    have hz2 : ms.length + (vs.length + 1) ≤ 1000 := hz2
    have hz : ps.length ≤ 1000 := by have := hp.len; omega
    show wS (forL _ _ _ (vD v :: vs.map vD) _ _) _ _ _ _
    refine forS_cons (F' := LF s tp wd x3 x4 (some (.ref a)) x6 x7 x8 (some (vD v)) x10 (some (.ref f)) (some (.ref m)) x13 x14 x15 x16 x17 x18) (gOk_one (kp _ _ hc)) rfl ?_
    rw [wS_seq, wS_set]
    apply hits_spec (F' := fun d => LF s tp wd x3 x4 (some (.ref a)) x6 x7 x8 (some (vD v)) x10 (some (.ref f)) (some (.ref m)) x13 x14 x15 (some d) x17 x18) (kp _ _ ha) (hp.ms (by omega)) hz rfl (fun d => rfl) (fun d => rfl) (fun d => rfl) (fun d => rfl)
    intro b A1 k1 hb
    have ef : fset (LF s tp wd x3 x4 (some (.ref a)) x6 x7 x8 (some (vD v)) x10 (some (.ref f)) (some (.ref m)) x13 x14 x15 x16 x17 x18) 10 (.ref b) = LF s tp wd x3 x4 (some (.ref a)) x6 x7 x8 (some (vD v)) (some (.ref b)) (some (.ref f)) (some (.ref m)) x13 x14 x15 x16 x17 x18 := rfl
    have ht1 : (hitsL v 0 ps).take 1 = (hitsL v 0 ps).take 1 := rfl
    rw [ef, wS_seq, wS_set, wR_op, wR_var (i := 11) (d := .ref f) rfl, sl_one (i := 10) rfl hb]
    rw [add_lst (app_at (k1 _ _ hf)) new_at (by simp only [List.length_map, List.length_take, ev_sz]; omega), wR_ok, ← List.map_take, ← List.map_append]
    have kA2 : Kp A1 ((A1 ++ [AO.lst (((hitsL v 0 ps).take 1).map iD)]) ++ [AO.lst ((fs ++ (hitsL v 0 ps).take 1).map iD)]) := Kp.refl.app.app
    have hf2 : ((A1 ++ [AO.lst (((hitsL v 0 ps).take 1).map iD)]) ++ [AO.lst ((fs ++ (hitsL v 0 ps).take 1).map iD)])[(A1 ++ [AO.lst (((hitsL v 0 ps).take 1).map iD)]).length]? = some (.lst ((fs ++ (hitsL v 0 ps).take 1).map iD)) := new_at
    generalize (A1 ++ [AO.lst (((hitsL v 0 ps).take 1).map iD)]).length = f2 at hf2
    generalize (A1 ++ [AO.lst (((hitsL v 0 ps).take 1).map iD)]) ++ [AO.lst ((fs ++ (hitsL v 0 ps).take 1).map iD)] = A2 at kA2 hf2
    have ef : fset (LF s tp wd x3 x4 (some (.ref a)) x6 x7 x8 (some (vD v)) (some (.ref b)) (some (.ref f)) (some (.ref m)) x13 x14 x15 x16 x17 x18) 11 (.ref f2) = LF s tp wd x3 x4 (some (.ref a)) x6 x7 x8 (some (vD v)) (some (.ref b)) (some (.ref f2)) (some (.ref m)) x13 x14 x15 x16 x17 x18 := rfl
    have hb2 := kA2 _ _ hb
    have hm2 := kA2 _ _ (k1 _ _ hm)
    rw [ef, wS_seq, wS_set, wR_op, wR_var (i := 12) (d := .ref m) rfl, wR_ite, wR_cmp, wR_var (i := 10) (d := .ref b) rfl, wR_lst, wR_nil, wR_ifok (sz1 (by simp)), eq_empty (ints_pl _).1 (by rw [(ints_pl _).2]; omega) (app_at hb2) new_at]
    show wR (ofO (some (D.bl ((hitsL v 0 ps).map iD).isEmpty)) _) _
    rw [wR_some, truth_bl, wR_some]
    have fin : ∀ (ys : List Vl) (J : AH) (m3 : Nat), ys = ([v].filter fun v => (hitsL v 0 ps).isEmpty) → (A2 ++ J)[m3]? = some (.lst ((ms ++ ys).map vD)) → wS (forL (asgT (.nm 9)) [(c, .lst L)] (fun F' A' => sx (callF pg N 228) N fmB F' A') (vs.map vD) (LF s tp wd x3 x4 (some (.ref a)) x6 x7 x8 (some (vD v)) (some (.ref b)) (some (.ref f2)) (some (.ref m3)) x13 x14 x15 x16 x17 x18) (A2 ++ J)) Pn Pb Pc Pr := by
      intro ys J m3 ey hm3
      have hyl : ys.length ≤ 1 := by
        rw [ey]
        exact Nat.le_trans (List.length_filter_le _ _) (Nat.le_refl _)
      refine fmloop hp ha hc vs (fs ++ (hitsL v 0 ps).take 1) (ms ++ ys) f2 m3 (A2 ++ J) _ _ (by rw [List.length_append, List.length_take]; omega) (by rw [List.length_append]; omega) ((kp.trans (k1.trans kA2)).app) (app_at hf2) hm3 ?_
      intro A' f' m' x9 x10 k' hf' hm'
      refine h A' f' m' x9 x10 k' ?_ ?_
      · rw [hf', List.append_assoc, List.flatMap_cons]
      · rw [hm', List.append_assoc, ey, ← List.filter_append]
        rfl
    have ef : ∀ m3, fset (LF s tp wd x3 x4 (some (.ref a)) x6 x7 x8 (some (vD v)) (some (.ref b)) (some (.ref f2)) (some (.ref m)) x13 x14 x15 x16 x17 x18) 12 (.ref m3) = LF s tp wd x3 x4 (some (.ref a)) x6 x7 x8 (some (vD v)) (some (.ref b)) (some (.ref f2)) (some (.ref m3)) x13 x14 x15 x16 x17 x18 := fun m3 => rfl
    cases eh : (hitsL v 0 ps).isEmpty with
    | true =>
      rw [if_pos (by rw [List.isEmpty_map, eh]), wR_lst, wR_cons, wR_var (i := 9) (d := vD v) rfl, wR_nil, wR_ifok (sz1 (by simp)), add_lst (app_at (app_at hm2)) new_at (by simp only [List.length_map, List.length_cons, List.length_nil, ev_sz]; omega), wR_ok, ef, wS_skip, List.append_assoc, List.append_assoc]
      refine fin [v] _ _ (by simp [List.filter, eh]) ?_
      rw [← List.append_assoc, ← List.append_assoc, new_at, List.map_append]
      rfl
    | false =>
      rw [if_neg (by rw [List.isEmpty_map, eh]; decide), wR_lst, wR_nil, wR_ifok (sz1 (by simp)), add_lst (app_at (app_at hm2)) new_at (by simp only [List.length_map, List.length_nil, ev_sz]; omega), wR_ok, ef, wS_skip, List.append_assoc, List.append_assoc]
      refine fin [] _ _ (by simp [List.filter, eh]) ?_
      rw [← List.append_assoc, ← List.append_assoc, new_at, List.map_append]
      rfl
end
end K26

/-! ## K26W -/
/-! K26W: the plain law of the turn. -/
namespace K26
open Ev PySem
theorem hits_nil {v : Vl} : ∀ (ps : List Pt) (i : Nat), (hitsL v i ps).isEmpty = true ↔ ∀ p ∈ ps, mt p v = false
  | [], i => by simp [hitsL]
  | p :: ps, i => by
    unfold hitsL
    cases e : mt p v with
    | true => simp [e]
    | false =>
      rw [if_neg (by decide), hits_nil ps (i + 1)]
      simp [e]
theorem hits_one {v : Vl} {j : Nat} : ∀ (ps : List Pt) (i : Nat), j ∈ (hitsL v i ps).take 1 ↔ ∃ p, i ≤ j ∧ ps[j - i]? = some p ∧ mt p v = true ∧ ∀ q ∈ ps.take (j - i), mt q v = false
  | [], i => by simp [hitsL]
  | p :: ps, i => by
    unfold hitsL
    cases e : mt p v with
    | true =>
      rw [if_pos rfl]
      simp only [List.take_succ_cons, List.take_zero, List.mem_singleton]
      constructor
      · rintro rfl
        exact ⟨p, Nat.le_refl _, by simp, e, by simp⟩
      · rintro ⟨q, h1, h2, h3, h4⟩
        by_cases hj : j = i
        · exact hj
        · have : j - i = (j - i - 1) + 1 := by omega
          rw [this, List.take_succ_cons] at h4
          rw [h4 p List.mem_cons_self] at e
          cases e
    | false =>
      rw [if_neg (by decide), hits_one ps (i + 1)]
      constructor
      · rintro ⟨q, h1, h2, h3, h4⟩
        have : j - i = (j - (i + 1)) + 1 := by omega
        refine ⟨q, by omega, by rw [this, List.getElem?_cons_succ]; exact h2, h3, ?_⟩
        rw [this, List.take_succ_cons]
        intro z hz
        rcases List.mem_cons.mp hz with rfl | hz
        · exact e
        · exact h4 z hz
      · rintro ⟨q, h1, h2, h3, h4⟩
        by_cases hj : j = i
        · subst hj
          rw [Nat.sub_self] at h2
          cases h2
          rw [e] at h3
          cases h3
        · have : j - i = (j - (i + 1)) + 1 := by omega
          rw [this, List.getElem?_cons_succ] at h2
          rw [this, List.take_succ_cons] at h4
          exact ⟨q, by omega, h2, h3, fun z hz => h4 z (List.mem_cons_of_mem _ hz)⟩
theorem usl_eq {n : Nat} {k : Kd} {fs : List Nat} {all : List Pt} (H : ∀ i p, all[i]? = some p → useful n ((all.take i).map fun q => [q]) [p] [k] = fs.contains i) : ∀ (ps ahead : List Pt), all = ahead ++ ps → usl n k ahead ps = (List.range' ahead.length ps.length).filter fun i => !fs.contains i
  | [], ahead, _ => rfl
  | p :: ps, ahead, e => by
    have h := H ahead.length p (by rw [e]; simp)
    have et : all.take ahead.length = ahead := by rw [e, List.take_left]
    rw [et] at h
    have ih := usl_eq H ps (ahead ++ [p]) (by rw [e, List.append_assoc]; rfl)
    rw [List.length_append, List.length_singleton] at ih
    unfold usl
    rw [List.length_cons, List.range'_succ]
    cases eu : useful n (ahead.map fun q => [q]) [p] [k] with
    | true =>
      rw [eu] at h
      rw [if_pos rfl, List.filter_cons_of_neg (by rw [← h]; decide), ih]
    | false =>
      rw [eu] at h
      rw [if_neg (by decide), List.filter_cons_of_pos (by rw [← h]; decide), ih]
section
variable {k : Kd} {ps : List Pt} {n : Nat}
theorem wc_3 (k : Kd) : wc k 3 ≤ 7 := by cases k <;> decide
theorem VOKs_one {v : Vl} {d : Nat} (h : VOK k d v) : VOKs [k] d [v] := ⟨v, [], rfl, h, rfl⟩
theorem mts_one {p : Pt} {v : Vl} : mts [p] [v] = mt p v := by simp [mts]
def fsOf (k : Kd) (ps : List Pt) : List Nat := (vals k).flatMap fun v => (hitsL v 0 ps).take 1
def msOf (k : Kd) (ps : List Pt) : List Vl := (vals k).filter fun v => (hitsL v 0 ps).isEmpty
theorem mem_ms {v : Vl} : v ∈ msOf k ps ↔ VOK k 4 v ∧ ∀ p ∈ ps, mt p v = false := by
  unfold msOf
  rw [List.mem_filter, hits_nil, mem_vals]
theorem use_first (hn : 7 < n) (hp : PsOk k ps) (i : Nat) (p : Pt) (hi : ps[i]? = some p) : useful n ((ps.take i).map fun q => [q]) [p] [k] = (fsOf k ps).contains i := by
  have hpm := List.mem_of_getElem? hi
  have u := useful_ok n [(k, 3)] ((ps.take i).map fun q => [q]) [p] (by have := wc_3 k; show wc k 3 + 0 < n; omega) (ones_typ fun q hq => hp.wt q (List.mem_of_mem_take hq)) ⟨hp.wt p hpm, rfl⟩
  have key : useful n ((ps.take i).map fun q => [q]) [p] [k] = true ↔ i ∈ fsOf k ps := by
    unfold fsOf
    rw [List.mem_flatMap]
    constructor
    · intro h
      obtain ⟨vs, h1, h2, h3⟩ := u.yes h
      obtain ⟨v, r, rfl, h4, h5⟩ := h1
      cases h5
      refine ⟨v, mem_vals.mpr (h4.mono (by decide)), (hits_one ps 0).mpr ⟨p, Nat.zero_le _, by simpa using hi, by rw [← mts_one]; exact h2, fun q hq => ?_⟩⟩
      rw [← mts_one]
      exact h3 [q] (List.mem_map.mpr ⟨q, by simpa using hq, rfl⟩)
    · rintro ⟨v, hv, hj⟩
      obtain ⟨q, _, h2, h3, h4⟩ := (hits_one ps 0).mp hj
      rw [Nat.sub_zero, hi] at h2
      cases h2
      refine u.no 4 [v] (VOKs_one (mem_vals.mp hv)) (by rw [mts_one]; exact h3) fun r hr => ?_
      obtain ⟨q, hq, rfl⟩ := List.mem_map.mp hr
      rw [mts_one]
      exact h4 q (by simpa using hq)
  by_cases h : i ∈ fsOf k ps
  · rw [key.mpr h, List.contains_iff_mem.mpr h]
  · rw [Bool.eq_false_iff.mpr (fun z => h (key.mp z)), Bool.eq_false_iff.mpr (fun z => h (List.contains_iff_mem.mp z))]
theorem usl_first (hn : 7 < n) (hp : PsOk k ps) : usl n k [] ps = (List.range ps.length).filter fun i => !(fsOf k ps).contains i := by
  rw [usl_eq (all := ps) (fun i p h => use_first hn hp i p h) ps [] rfl, List.range_eq_range']
  rfl
/-- what is left out -/
theorem left_ok (hn : 7 < n) (hp : PsOk k ps) : match leftO n ps k with
    | none => msOf k ps = []
    | some t => WT k 3 t ∧ nn t = true ∧ (∃ v, VOK k 4 v ∧ mt t v = true) ∧ (∀ v, VOK k 4 v → mt t v = true → v ∈ msOf k ps) ∧ ∀ c qs, t = .con c qs → ps ≠ [] → ∃ d : Cn, c = d.s ∧ d ∈ cases k ∧ ∀ v ∈ msOf k ps, ∀ c' vs, v = .con c' vs → c' ∉ (cases k).takeWhile fun x => !decide (x = d) := by
  have hw : Wc [(k, 3)] < n := by have := wc_3 k; show wc k 3 + 0 < n; omega
  have typ := ones_typ (k := k) (h := 3) hp.wt
  have mo := miss_ok n [(k, 3)] (ps.map fun p => [p]) hw typ
  unfold leftO
  cases e : miss n (ps.map fun p => [p]) [k] with
  | none =>
    rw [show kds [(k, 3)] = [k] from rfl, e] at mo
    show msOf k ps = []
    apply List.eq_nil_iff_forall_not_mem.mpr
    intro v hv
    obtain ⟨h1, h2⟩ := mem_ms.mp hv
    obtain ⟨row, hr, hm⟩ := mo 4 [v] (VOKs_one h1)
    obtain ⟨p, hpm, rfl⟩ := List.mem_map.mp hr
    rw [mts_one, h2 p hpm] at hm
    cases hm
  | some f =>
    rw [show kds [(k, 3)] = [k] from rfl, e] at mo
    obtain ⟨h1, h2, h3⟩ := mo
    cases f with
    | nil => simp [WTs] at h1
    | cons t r =>
      obtain ⟨w1, w2⟩ := (show WT k 3 t ∧ WTs [] r from h1)
      have : r = [] := WTs_nil w2
      subst this
      have hnn : nn t = true := by
        have : (nn t && true) = true := h2
        rwa [Bool.and_true] at this
      have sub : ∀ v, VOK k 4 v → mt t v = true → v ∈ msOf k ps := fun v hv hm => mem_ms.mpr ⟨hv, fun p hpm => by
        have := h3 4 [v] (VOKs_one hv) (by rw [mts_one]; exact hm) [p] (List.mem_map.mpr ⟨p, hpm, rfl⟩)
        rwa [mts_one] at this⟩
      refine ⟨w1, hnn, ?_, sub, ?_⟩
      · obtain ⟨v, hv, hm⟩ := inst t w1
        exact ⟨v, hv.mono (by decide), hm⟩
      · intro c qs et hne
        have et : t = .con c qs := et
        subst et
        unfold WT at w1
        obtain ⟨d, rfl, hd, _⟩ := w1
        refine ⟨d, rfl, hd, fun v hv c' vs ev hin => ?_⟩
        subst ev
        obtain ⟨g1, g2⟩ := mem_ms.mp hv
        have hk : k ≠ .int := fun z => by
          subst z
          unfold VOK at g1
          cases g1
        obtain ⟨c2, us, e2, _, hus⟩ := g1.con hk
        cases e2
        obtain ⟨row, hr, hm⟩ := miss_first hw typ e c' hin 4 vs hus
        obtain ⟨p, hpm, rfl⟩ := List.mem_map.mp hr
        rw [mts_one, g2 p hpm] at hm
        cases hm
mutual
theorem chk_nn : ∀ {k : Kd} {h : Nat} {path : List Nat} (p : Pt), WT k h p → nn p = true → chk p k path = .ok false ∧ nmx p = true
  | _, _, _, .any, _, _ => ⟨by simp [chk], rfl⟩
  | _, _, _, .nm _, _, h => by simp [nn] at h
  | k, 0, _, .con c ps, w, _ => by simp [WT] at w
  | k, h + 1, path, .con c ps, w, hn => by
    unfold WT at w
    obtain ⟨d, rfl, hd, w⟩ := w
    have hn : nns ps = true := hn
    have := chks_nn (path := path) (i := 0) d.args ps w hn
    refine ⟨?_, by unfold nmx; exact this.2⟩
    simp only [chk, fnd_s]
    rw [if_pos ⟨mem_cases.mp hd, by rw [w.len, List.length_map]⟩]
    exact this.1
theorem chks_nn : ∀ {h : Nat} {path : List Nat} {i : Nat} (ks : List Kd) (ps : List Pt), WTs (ks.map fun a => (a, h)) ps → nns ps = true → chks ps ks i path false = .ok false ∧ nmxs ps = true
  | h, path, i, [], [], _, _ => ⟨by simp [chks], rfl⟩
  | h, path, i, [], _ :: _, w, _ => by cases WTs_nil w
  | h, path, i, k :: ks, [], w, _ => by simp [WTs] at w
  | h, path, i, k :: ks, p :: ps, w, hn => by
    have w : WT k h p ∧ WTs (ks.map fun a => (a, h)) ps := w
    have hn : (nn p && nns ps) = true := hn
    rw [Bool.and_eq_true] at hn
    have h1 := chk_nn (path := path ++ [i]) p w.1 hn.1
    have h2 := chks_nn (path := path) (i := i + 1) ks ps w.2 hn.2
    refine ⟨?_, by unfold nmxs; rw [h1.2, h2.2]; rfl⟩
    simp only [chks, h1.1]
    exact h2.1
end
end
end K26

/-! ## K26X -/
/-! K26X: the law's turn: what is left out. -/
namespace K26
open Ev PySem
mutual
theorem WT_pl : ∀ {k : Kd} {h : Nat} (p : Pt), WT k h p → pl (pD p) = true ∧ dp (pD p) ≤ 2 * h + 1
  | k, h, .any, _ => ⟨by rfl, by show 1 ≤ _; omega⟩
  | k, h, .nm x, _ => ⟨by rfl, by show 1 ≤ _; omega⟩
  | k, 0, .con c ps, w => by simp [WT] at w
  | k, h + 1, .con c ps, w => by
    unfold WT at w
    obtain ⟨d, rfl, _, w⟩ := w
    have := WTs_pl d.args ps w
    have hl : (pDs ps).length ≤ 1000 := by
      rw [pDs_len, w.len, List.length_map]
      cases d <;> simp [Cn.args]
    refine ⟨?_, ?_⟩
    · have e : pl (pD (.con d.s ps)) = ((true && (true && ((pls (pDs ps) && decide ((pDs ps).length ≤ 1000)) && true))) && decide (3 ≤ 1000)) := rfl
      rw [e, this.1, decide_eq_true hl]
      rfl
    · have e : dp (pD (.con d.s ps)) = max 0 (max 0 (max (dps (pDs ps) + 1) 0)) + 1 := rfl
      have := this.2
      omega
theorem WTs_pl : ∀ {h : Nat} (ks : List Kd) (ps : List Pt), WTs (ks.map fun a => (a, h)) ps → pls (pDs ps) = true ∧ dps (pDs ps) ≤ 2 * h + 1
  | h, [], [], _ => ⟨rfl, Nat.zero_le _⟩
  | h, [], _ :: _, w => by cases WTs_nil w
  | h, k :: ks, [], w => by simp [WTs] at w
  | h, k :: ks, p :: ps, w => by
    have w : WT k h p ∧ WTs (ks.map fun a => (a, h)) ps := w
    have h1 := WT_pl p w.1
    have h2 := WTs_pl ks ps w.2
    refine ⟨?_, ?_⟩
    · show (pl (pD p) && pls (pDs ps)) = true
      rw [h1.1, h2.1]; rfl
    · show max (dp (pD p)) (dps (pDs ps)) ≤ _
      have := h1.2
      have := h2.2
      omega
end
theorem ps_pl {k : Kd} : ∀ {ps : List Pt}, (∀ p ∈ ps, WT k 3 p) → pls (pDs ps) = true ∧ dps (pDs ps) ≤ 7
  | [], _ => ⟨rfl, Nat.zero_le _⟩
  | p :: ps, h => by
    have h1 := WT_pl p (h p List.mem_cons_self)
    have h2 := ps_pl (ps := ps) fun q hq => h q (List.mem_cons_of_mem _ hq)
    refine ⟨?_, ?_⟩
    · show (pl (pD p) && pls (pDs ps)) = true
      rw [h1.1, h2.1]; rfl
    · show max (dp (pD p)) (dps (pDs ps)) ≤ _
      have := h1.2
      have := h2.2
      omega
theorem vs_pl {k : Kd} : ∀ {vs : List Vl}, (∀ v ∈ vs, VOK k 4 v) → pls (vs.map vD) = true ∧ dps (vs.map vD) ≤ 12
  | [], _ => ⟨rfl, Nat.zero_le _⟩
  | v :: vs, h => by
    have h1 := VOK_pl (h v List.mem_cons_self)
    have h2 := vs_pl (vs := vs) fun q hq => h q (List.mem_cons_of_mem _ hq)
    refine ⟨?_, ?_⟩
    · show (pl (vD v) && pls (vs.map vD)) = true
      rw [h1.1, h2.1]; rfl
    · show max (dp (vD v)) (dps (vs.map vD)) ≤ _
      have := h1.2
      have := h2.2
      omega
theorem bl_loop {asg : D → Fr → Option Fr} {g : Guard} {body : Fr → AH → Res (Option D)} {F : Fr} {F' : D → Fr} {A0 : AH} {P : List D → AH → Prop} (b : Bool) (hg : ∀ A, Kp A0 A → gOk A g = true) (hF : ∀ d, asg d F = some (F' d)) :
    ∀ (items : List D) (acc : Nat) (A : AH), acc + items.length ≤ 1000 → (∀ x ∈ items, ∀ A, Kp A0 A → wR (body (F' x) A) (fun o A' => o = some (.bl b) ∧ Kp A A')) → Kp A0 A → (∀ A', Kp A0 A' → P (List.replicate (acc + items.length) (.bl b)) A') → wR (lcL asg g body F items (List.replicate acc (.bl b)) A) P
  | [], acc, A, _, _, kp, h => by
    apply lcL_nil (hg _ kp)
    exact h A kp
  | x :: items, acc, A, hz, hb, kp, h => by
    have hz : acc + (items.length + 1) ≤ 1000 := hz
    refine lcL_cons (F' := F' x) (hg _ kp) (hF _) ?_
    refine (hb x List.mem_cons_self A kp).mono fun o A1 ⟨eo, k1⟩ => ?_
    subst eo
    dsimp only
    refine ⟨by rw [List.length_replicate, ev_sz]; omega, ?_⟩
    rw [show List.replicate acc (D.bl b) ++ [.bl b] = List.replicate (acc + 1) (.bl b) by rw [List.replicate_succ']]
    refine bl_loop b hg hF items (acc + 1) A1 (by omega) (fun y hy => hb y (List.mem_cons_of_mem _ hy)) (kp.trans k1) ?_
    intro A' k'
    have := h A' k'
    rw [show acc + (x :: items).length = acc + 1 + items.length by simp; omega] at this
    exact this
theorem all_rep {A : AH} {a m : Nat} (h : A[a]? = some (.lst (List.replicate m (.bl true)))) : biF A "all" [.ref a] = .ok (.bl true) A := by
  show biAll _ [.ref a] = _
  have h1 : (seqL A a).bind blsOf = some (List.replicate m true) := by
    rw [seqL_of h]
    have := bls_map (fun _ : Nat => true) (List.replicate m 0)
    simpa using this
  simp only [biAll, h1]
  simp
theorem any_rep {A : AH} {a m : Nat} (h : A[a]? = some (.lst (List.replicate m (.bl false)))) : biF A "any" [.ref a] = .ok (.bl false) A := by
  show biAny _ [.ref a] = _
  have h1 : (seqL A a).bind blsOf = some (List.replicate m false) := by
    rw [seqL_of h]
    have := bls_map (fun _ : Nat => false) (List.replicate m 0)
    simpa using this
  simp only [biAny, h1]
  simp
def sD (c : Cn) : D := .str c.s
theorem index_of {A : AH} {a : Nat} {d : Cn} (h : A[a]? = some (.lst ((cases d.typ).map sD))) : mtF A false "index" (.ref a) [.str d.s] = .ok (.int ((((cases d.typ).takeWhile fun x => !decide (x = d)).length : Nat) : Int)) A := by
  show mtIndex A a [.str d.s] = _
  simp only [mtIndex, h]
  cases d <;> rfl
theorem take_of (d : Cn) : ((cases d.typ).map sD).take ((cases d.typ).takeWhile fun x => !decide (x = d)).length = ((cases d.typ).takeWhile fun x => !decide (x = d)).map sD := by cases d <;> rfl
theorem mem_no {A : AH} {a : Nat} {l : List Cn} {c : Cn} (h : A[a]? = some (.lst (l.map sD))) (hc : c ∉ l) : opC A .mem (.str c.s) (.ref a) = some false := by
  show memD A (.str c.s) (.ref a) = _
  have h1 : dctL A a = none := by simp [dctL, h]
  have h2 : seqL A a = some (l.map sD) := seqL_of h
  have hf : (flatD (.str c.s) && (l.map sD).all flatD) = true := by
    rw [List.all_map]
    simp [flatD, sD]
  simp only [memD, h1, h2, hf, if_true]
  congr 1
  rw [List.any_eq_false]
  intro x hx
  obtain ⟨e, he, rfl⟩ := List.mem_map.mp hx
  show ¬ (e.s == c.s) = true
  intro z
  have : e = c := Cn.s_inj (by simpa using z)
  exact hc (this ▸ he)
section
variable {N : Nat} {k : Kd} {ps : List Pt}
/-- the values that a pattern has -/
theorem cvloop {n c : Nat} {L : List D} {t : Pt} {A0 : AH} {F : Fr} {F' : D → Fr} {P : List D → AH → Prop} (hm : MS N "_law_match" t n) (hc : A0[c]? = some (.lst L)) (hF : ∀ d, asgT (.nm 9) d F = some (F' d)) (h13 : ∀ d, (F' d)[13]? = some (some (pD t))) (h9 : ∀ d, (F' d)[9]? = some (some d)) :
    ∀ (vs acc : List Vl) (A : AH), acc.length + vs.length ≤ 1000 → Kp A0 A → (∀ A', Kp A0 A' → P ((acc ++ vs.filter fun v => mt t v).map vD) A') →
    wR (lcL (asgT (.nm 9)) [(c, .lst L)] (lcB (callF pg N n) (.cons (.cmp .isnt (.call "_law_match" (.cons (.var 13) (.cons (.var 9) .nil))) .non) .nil) (.var 9)) F (vs.map vD) (acc.map vD) A) P
  | [], acc, A, _, kp, h => by
    apply lcL_nil (gOk_one (kp _ _ hc))
    have := h A kp
    rwa [List.filter_nil, List.append_nil] at this
  | v :: vs, acc, A, hz, kp, h => by
    have hz : acc.length + (vs.length + 1) ≤ 1000 := hz
    show wR (lcL _ _ _ _ (vD v :: vs.map vD) _ _) _
    refine lcL_cons (F' := F' (vD v)) (gOk_one (kp _ _ hc)) (hF _) ?_
    rw [wR_lcB, wR_evc1, wR_tru, wR_cmp, wR_cl, wR_cons, wR_var (h13 _), wR_cons, wR_var (h9 _), wR_nil]
    refine (hm v A).mono fun r A1 ⟨k1, hr⟩ => ?_
    rw [wR_non]
    have hmt := matx_mt t v
    cases em : matx t v with
    | none =>
      rw [em] at hr hmt
      dsimp only at hr
      subst hr
      rw [isnt_non]
      show wR (ofO (some (D.bl false)) A1) _
      rw [wR_some, truth_bl, wR_some, if_neg (by decide)]
      dsimp only
      refine cvloop hm hc hF h13 h9 vs acc A1 (by omega) (kp.trans k1) ?_
      rw [List.filter_cons_of_neg (by rw [← hmt]; decide)] at h
      exact h
    | some o =>
      rw [em] at hr hmt
      dsimp only at hr
      obtain ⟨b, rfl, _, _⟩ := hr
      rw [isnt_ref]
      show wR (ofO (some (D.bl true)) A1) _
      rw [wR_some, truth_bl, wR_some, if_pos rfl, wR_var (h9 _)]
      dsimp only
      refine ⟨by rw [List.length_map, ev_sz]; omega, ?_⟩
      have e3 : acc.map vD ++ [vD v] = (acc ++ [v]).map vD := by simp
      rw [e3]
      refine cvloop hm hc hF h13 h9 vs (acc ++ [v]) A1 (by simp; omega) (kp.trans k1) ?_
      rw [List.filter_cons_of_pos (by rw [← hmt]; rfl)] at h
      intro A' k'
      have := h A' k'
      rw [List.append_assoc]
      exact this
def nfF (fs : List Nat) : D → Option D
  | .int j => if (!fs.contains j.toNat) = true then some (.int j) else none
  | _ => none
theorem nfF_i {fs : List Nat} {i : Nat} : nfF fs (iD i) = if (!fs.contains i) = true then some (iD i) else none := rfl
theorem nfF_map {fs : List Nat} : ∀ l : List Nat, (l.map iD).filterMap (nfF fs) = (l.filter fun i => !fs.contains i).map iD
  | [] => rfl
  | i :: l => by
    rw [List.map_cons, List.filterMap_cons, nfF_i, List.filter_cons]
    cases hh : (!fs.contains i) with
    | true =>
      rw [if_pos rfl, if_pos rfl, List.map_cons, ← nfF_map l]
    | false =>
      rw [if_neg (by decide), if_neg (by decide), ← nfF_map l]
/-- the ones that are no first -/
theorem nofirst {n a f : Nat} {fs : List Nat} {A : AH} {F : Fr} {F' : D → Fr} {P : D → AH → Prop} (ha : A[a]? = some (.lst (pDs ps))) (hf : A[f]? = some (.lst (fs.map iD))) (hz : ps.length ≤ 1000) (h5 : F[5]? = some (some (.ref a))) (hF : ∀ d, asgT (.nm 16) d (wipeF F [16]) = some (F' d)) (h11 : ∀ d, (F' d)[11]? = some (some (.ref f))) (h16 : ∀ d, (F' d)[16]? = some (some d))
    (h : ∀ b A', Kp A A' → A'[b]? = some (.lst (((List.range ps.length).filter fun i => !fs.contains i).map iD)) → P (.ref b) A') : wR (ev (callF pg N n) (.lc (.nm 16) (.rng (.cons (.bi "len" (.cons (.var 5) .nil)) .nil)) (.cons (.cmp .nmem (.var 16) (.var 11)) .nil) (.var 16) [16]) F A) P := by
  rw [wR_lc, wR_rng, wR_cons, wR_bi, wR_cons, wR_var h5, wR_nil, len_lst ha, wR_ok, wR_nil, wkRng_nat (by rw [pDs_len]; omega), wR_some]
  dsimp only
  rw [pDs_len]
  have hun : ∀ {α : Type} (r : Res α), unlR none r = r := fun r => rfl
  have e1 := lcG (asg := asgT (.nm 16)) (g := []) (body := lcB (callF pg N n) (.cons (.cmp .nmem (.var 16) (.var 11)) .nil) (.var 16)) (F := wipeF F [16]) (A := A) (nfF fs) rfl ((List.range ps.length).map iD) [] (fun x hx => by
      obtain ⟨i, _, rfl⟩ := List.mem_map.mp hx
      refine ⟨F' (iD i), hF _, ?_⟩
      rw [nfF_i]
      refine lcB_1 (tru_eq ?_) fun _ => var_ok (h16 _)
      rw [wR_tru, wR_cmp, wR_var (h16 _), wR_var (h11 _), nmem_ints hf]
      show wR (ofO (some (D.bl (!fs.contains i))) A) _
      rw [wR_some, truth_bl, wR_some]
      exact ⟨rfl, rfl⟩) (by simpa using hz)
  rw [hun]
  have e3 : lcL (asgT (.nm 16)) [] (lcB (callF pg N n) (.cons (.cmp .nmem (.var 16) (.var 11)) .nil) (.var 16)) (wipeF F [16]) ((List.range ps.length).map fun (i : Nat) => D.int (i : Int)) [] (lockA A none) = .ok (((List.range ps.length).filter fun i => !fs.contains i).map iD) A := by
    rw [← nfF_map]
    exact e1
  rw [e3]
  show wR (Res.ok (D.ref A.length) (A ++ [.lst (((List.range ps.length).filter fun i => !fs.contains i).map iD)])) P
  rw [wR_ok]
  exact h _ _ Kp.refl.app new_at
end
end K26

/-! ## K26Y -/
/-! K26Y: the law's turn: what is left out, the walk. -/
namespace K26
open Ev PySem
section
variable {N : Nat} {k : Kd} {ps : List Pt}
theorem is_pD {A : AH} {t : Pt} : opC A .is (pD t) .non = some false := by cases t <;> rfl
theorem isnt_pD {A : AH} {t : Pt} : opC A .isnt (pD t) .non = some true := by cases t <;> rfl
theorem ne_bl {A : AH} {i j : Bool} : opC A .ne (.bl i) (.bl j) = some (!(i == j)) := by
  show (opC A .eq (.bl i) (.bl j)).map (!·) = _
  rw [eq_bl]; rfl
theorem ne_same {A : AH} {a b : Nat} {xs : List D} (h : pls xs = true) (hd : dps xs ≤ 60) (ha : A[a]? = some (.lst xs)) (hb : A[b]? = some (.lst xs)) : opC A .ne (.ref a) (.ref b) = some false := by
  show (opC A .eq (.ref a) (.ref b)).map (!·) = _
  rw [eq_same h hd ha hb]; rfl
abbrev coE : Ex := .lc (.nm 9) (.wk (.var 8)) (.cons (.cmp .isnt (.call "_law_match" (.cons (.var 13) (.cons (.var 9) .nil))) .non) .nil) (.var 9) [9]
abbrev inE : Ex := .bi "all" (.cons (.lc (.nm 9) (.wk (.var 14)) .nil (.cmp .mem (.var 9) (.var 12)) [9]) .nil)
abbrev anE : Ex := .bi "any" (.cons (.lc (.nm 9) (.wk (.var 12)) .nil (.cmp .mem (.ix (.var 9) (.int 1)) (.sl (.var 15) .nil (.cons (.mth "index" (.var 15) (.cons (.ix (.var 13) (.int 1)) .nil)) .nil))) [9]) .nil)
abbrev ret0 : Sm := .seq (.ret (.bl false)) .skip
abbrev t14 : Sm := .seq (.set 14 coE) (.seq (.ite (.or (.cmp .eq (.var 14) (.lst .nil)) (.or (.not inE) (.cmp .ne (.ix (.call "_law_told" (.cons (.var 13) (.cons (.var 4) .nil))) (.int 0)) (.str "ok")))) ret0 .skip) (.seq (.ite (.and (.cmp .eq (.ix (.var 13) (.int 0)) (.str "con")) (.cmp .ne (.var 5) (.lst .nil))) (.seq (.set 15 (.lc (.tu (.cons (.nm 17) (.cons (.nm 18) .nil))) (.wk (.ix (.ix (.var 2) (.int 0)) (.ix (.var 4) (.int 1)))) .nil (.var 17) [17, 18])) (.seq (.ite anE ret0 .skip) .skip)) .skip) .skip))
/-- a pattern is told -/
theorem told_walk {s : D} {tp a c m w u : Nat} {t : Pt} {A : AH} {x3 x6 x7 x9 x10 x11 x14 x15 x16 x17 x18 : Option D} {Pn Pb Pc : Fr → AH → Prop} {Pr : D → AH → Prop} (hk : k ≠ .int) (hp : PsOk k ps) (hW : A[w]? = some (.dct W)) (ha : A[a]? = some (.lst (pDs ps))) (hc : A[c]? = some (.lst ((vals k).map vD))) (hm : A[m]? = some (.lst ((msOf k ps).map vD)))
    (ht : WT k 3 t ∧ nn t = true ∧ (∃ v, VOK k 4 v ∧ mt t v = true) ∧ (∀ v, VOK k 4 v → mt t v = true → v ∈ msOf k ps) ∧ ∀ c qs, t = .con c qs → ps ≠ [] → ∃ d : Cn, c = d.s ∧ d ∈ cases k ∧ ∀ v ∈ msOf k ps, ∀ c' vs, v = .con c' vs → c' ∉ (cases k).takeWhile fun x => !decide (x = d))
    (h : ∀ A' y14 y15, Kp A A' → Pn (LF s tp (wD w u) x3 (some (kD k)) (some (.ref a)) x6 x7 (some (.ref c)) x9 x10 x11 (some (.ref m)) (some (pD t)) y14 y15 x16 x17 x18) A') :
    wS (sx (callF pg N 228) N t14 (LF s tp (wD w u) x3 (some (kD k)) (some (.ref a)) x6 x7 (some (.ref c)) x9 x10 x11 (some (.ref m)) (some (pD t)) x14 x15 x16 x17 x18) A) Pn Pb Pc Pr := by
  obtain ⟨w1, w2, w3, w4, w5⟩ := ht
  have hkn := WT_knw t w1
  have hnx := (chk_nn (path := []) t w1 w2).2
  have hms : ∀ v ∈ msOf k ps, VOK k 4 v := fun v hv => (mem_ms.mp hv).1
  have hlen : (vals k).length ≤ 100 := by
    cases k with
    | shape => exact shp_le (d := 4) (by decide)
    | color => decide
    | odd => decide
    | int => decide
  have hmlen : (msOf k ps).length ≤ 100 := Nat.le_trans (List.length_filter_le _ _) hlen
  have hun : ∀ {α : Type} (r : Res α), unlR none r = r := fun r => rfl
  -- covered
  rw [wS_seq, wS_set, wR_lc, wR_wk, wR_var (i := 8) (d := .ref c) rfl, wk_lst hc, wR_some]
  dsimp only
  rw [hun, wR_bnd]
  show wR (lcL _ _ _ (LF s tp (wD w u) x3 (some (kD k)) (some (.ref a)) x6 x7 (some (.ref c)) none x10 x11 (some (.ref m)) (some (pD t)) x14 x15 x16 x17 x18) ((vals k).map vD) (([] : List Vl).map vD) A) _
  refine cvloop (F' := fun d => LF s tp (wD w u) x3 (some (kD k)) (some (.ref a)) x6 x7 (some (.ref c)) (some d) x10 x11 (some (.ref m)) (some (pD t)) x14 x15 x16 x17 x18) (law_match_spec 228 t (by omega) hnx) hc (fun d => rfl) (fun d => rfl) (fun d => rfl) (vals k) [] A (by simp; omega) .refl ?_
  intro A1 k1
  rw [wR_ok, List.nil_append]
  have hcov : ∀ v ∈ (vals k).filter (fun v => mt t v), VOK k 4 v ∧ v ∈ msOf k ps := fun v hv => by
    obtain ⟨h1, h2⟩ := List.mem_filter.mp hv
    have h1 := mem_vals.mp h1
    exact ⟨h1, w4 v h1 h2⟩
  have hcl : ((vals k).filter (fun v => mt t v)).length ≤ 100 := Nat.le_trans (List.length_filter_le _ _) hlen
  have hcne : ((vals k).filter (fun v => mt t v)) ≠ [] := by
    obtain ⟨v, h1, h2⟩ := w3
    exact List.ne_nil_of_mem (List.mem_filter.mpr ⟨mem_vals.mpr h1, h2⟩)
  generalize (vals k).filter (fun v => mt t v) = cv at hcov hcl hcne
  have hcv : (A1 ++ [AO.lst (cv.map vD)])[A1.length]? = some (.lst (cv.map vD)) := new_at
  have k2 : Kp A (A1 ++ [AO.lst (cv.map vD)]) := k1.app
  generalize A1.length = v14 at hcv
  generalize A1 ++ [AO.lst (cv.map vD)] = A2 at hcv k2
  have ef : fset (LF s tp (wD w u) x3 (some (kD k)) (some (.ref a)) x6 x7 (some (.ref c)) x9 x10 x11 (some (.ref m)) (some (pD t)) x14 x15 x16 x17 x18) 14 (.ref v14) = LF s tp (wD w u) x3 (some (kD k)) (some (.ref a)) x6 x7 (some (.ref c)) x9 x10 x11 (some (.ref m)) (some (pD t)) (some (.ref v14)) x15 x16 x17 x18 := rfl
  have pcv := vs_pl (k := k) (vs := cv) fun v hv => (hcov v hv).1
  have pms := vs_pl hms
  have hemp : (cv.map vD).isEmpty = false := by
    cases cv with
    | nil => exact absurd rfl hcne
    | cons v r => rfl
  rw [ef, wS_seq, wS_ite, wR_tru, wR_or, wR_cmp, wR_var (i := 14) (d := .ref v14) rfl, wR_lst, wR_nil, wR_ifok (sz1 (by simp)), eq_empty pcv.1 (by omega) (app_at hcv) new_at, hemp]
  have k3 : Kp A (A2 ++ [AO.lst []]) := k2.app
  have hcv3 : (A2 ++ [AO.lst []])[v14]? = some (.lst (cv.map vD)) := app_at hcv
  generalize A2 ++ [AO.lst []] = A3 at k3 hcv3
  show wR (ofO (some (D.bl false)) A3) _
  rw [wR_some, truth_bl, wR_some, if_neg (by decide), wR_or, wR_not, wR_bi, wR_cons, wR_lc, wR_wk, wR_var (i := 14) (d := .ref v14) rfl, wk_lst hcv3, wR_some]
  dsimp only
  rw [hun, wR_bnd]
  show wR (lcL _ _ _ (LF s tp (wD w u) x3 (some (kD k)) (some (.ref a)) x6 x7 (some (.ref c)) none x10 x11 (some (.ref m)) (some (pD t)) (some (.ref v14)) x15 x16 x17 x18) (cv.map vD) (List.replicate 0 (.bl true)) A3) _
  refine bl_loop (A0 := A3) (F' := fun d => LF s tp (wD w u) x3 (some (kD k)) (some (.ref a)) x6 x7 (some (.ref c)) (some d) x10 x11 (some (.ref m)) (some (pD t)) (some (.ref v14)) x15 x16 x17 x18) true (fun A kp => gOk_one (kp _ _ hcv3)) (fun d => rfl) (cv.map vD) 0 A3 (by rw [List.length_map]; omega) ?_ .refl ?_
  · intro x hx A4 k4
    obtain ⟨v, hv, rfl⟩ := List.mem_map.mp hx
    have hv2 := (hcov v hv).2
    have hmem : opC A4 .mem (vD v) (.ref m) = some true := by
      have : ∃ ys, vD v = .tup ys := by cases v <;> exact ⟨_, rfl⟩
      obtain ⟨ys, ey⟩ := this
      rw [ey]
      exact mem_same pms.1 (by omega) (k4 _ _ (k3 _ _ hm)) (by rw [← ey]; exact List.mem_map.mpr ⟨v, hv2, rfl⟩)
    rw [wR_lcB, wR_evc0, if_pos rfl, wR_cmp, wR_var (i := 9) (d := vD v) rfl, wR_var (i := 12) (d := .ref m) rfl, hmem]
    exact wR_some.mpr ⟨rfl, .refl⟩
  intro A4 k4
  rw [wR_ok, wR_nil, all_rep new_at, wR_ok, truth_bl]
  have k5 : Kp A (A4 ++ [AO.lst (List.replicate (0 + (cv.map vD).length) (D.bl true))]) := (k3.trans k4).app
  generalize A4 ++ [AO.lst (List.replicate (0 + (cv.map vD).length) (D.bl true))] = A5 at k5
  show wR (ofO (some (D.bl false)) A5) _
  rw [wR_some, truth_bl, wR_some, if_neg (by decide), wR_cmp, wR_ix, wR_cl, wR_cons, wR_var (i := 13) (d := pD t) rfl, wR_cons, wR_v4, wR_nil]
  refine (told_spec (n := 227) (by omega) hnx hkn.1 (by omega)).mono fun r A6 ⟨k6, hr⟩ => ?_
  rw [(chk_nn t w1 w2).1] at hr
  dsimp only at hr
  obtain ⟨b6, er, _⟩ := hr
  subst er
  have k7 := k5.trans k6
  rw [wR_int]
  show wR (ofO (some (D.str "ok")) A6) _
  rw [wR_some, wR_str, ne_str]
  show wR (ofO (some (D.bl false)) A6) _
  rw [wR_some, truth_bl, wR_some, if_neg (by decide), wS_skip]
  -- the first in order
  rw [wS_seq, wS_ite, wR_tru, wR_and, wR_cmp, wR_ix, wR_var (i := 13) (d := pD t) rfl, wR_int, opI_tag, wR_some, wR_str, eq_str, tag_con]
  show wR (ofO (some (D.bl (!nc t))) A6) _
  rw [wR_some, truth_bl, wR_some]
  cases t with
  | any =>
    rw [if_neg (by decide), truth_bl, wR_some, if_neg (by decide), wS_skip, wS_skip]
    exact h A6 _ _ k7
  | nm x =>
    cases w2
  | con cc qs =>
    have pps := ps_pl hp.wt
    rw [if_pos (by rfl), wR_cmp, wR_v5, wR_lst, wR_nil, wR_ifok (sz1 (by simp)), ne_empty pps.1 (by omega) (app_at (k7 _ _ ha)) new_at]
    have k8 : Kp A (A6 ++ [AO.lst []]) := k7.app
    generalize A6 ++ [AO.lst []] = A7 at k8
    show wR (ofO (some (D.bl (!(pDs ps).isEmpty))) A7) _
    rw [wR_some, truth_bl, wR_some]
    by_cases hps : ps = []
    · subst hps
      rw [if_neg (by decide), wS_skip, wS_skip]
      exact h A7 _ _ k8
    obtain ⟨d, rfl, hd, hno⟩ := w5 cc qs rfl hps
    have hdk := mem_cases.mp hd
    subst hdk
    have hne : (!(pDs ps).isEmpty) = true := by
      cases ps with
      | nil => exact absurd rfl hps
      | cons p r => rfl
    rw [if_pos hne, wS_seq, wS_set]
    have hget : ev (callF pg N 228) (.ix (.ix (.var 2) (.int 0)) (.ix (.var 4) (.int 1))) (LF s tp (wD w u) x3 (some (kD d.typ)) (some (.ref a)) x6 x7 (some (.ref c)) x9 x10 x11 (some (.ref m)) (some (pD (.con d.s qs))) (some (.ref v14)) x15 x16 x17 x18) A7 = .ok (.tup ((cases d.typ).map cD)) A7 := by
      apply ok_of
      rw [wR_ix, wR_tix (x := .ref w) rfl rfl, wR_tix (x := .str d.typ.s) (by show some (some (kD d.typ)) = _; rw [kD_tag hk]) rfl, dct_get (k8 _ _ hW) rfl, dget_W hk]
      exact wR_some.mpr ⟨rfl, rfl⟩
    apply lc_pure (fun x => match x with
      | .tup [sx, _] => some sx
      | _ => none) hget rfl rfl (by rw [List.length_map]; cases d <;> decide)
    · intro x hx
      obtain ⟨e, _, rfl⟩ := List.mem_map.mp hx
      exact ⟨LF s tp (wD w u) x3 (some (kD d.typ)) (some (.ref a)) x6 x7 (some (.ref c)) x9 x10 x11 (some (.ref m)) (some (pD (.con d.s qs))) (some (.ref v14)) x15 x16 (some (.str e.s)) (some (.tup (kDs e.args))), rfl, lcB_0 (var_ok rfl)⟩
    have e15 : ((cases d.typ).map cD).filterMap (fun x => match x with
      | .tup [sx, _] => some sx
      | _ => none) = (cases d.typ).map sD := by cases d <;> rfl
    rw [e15]
    have h15 : (A7 ++ [AO.lst ((cases d.typ).map sD)])[A7.length]? = some (.lst ((cases d.typ).map sD)) := new_at
    have k9 : Kp A (A7 ++ [AO.lst ((cases d.typ).map sD)]) := k8.app
    generalize A7.length = v15 at h15
    generalize A7 ++ [AO.lst ((cases d.typ).map sD)] = A8 at h15 k9
    have ef : fset (LF s tp (wD w u) x3 (some (kD d.typ)) (some (.ref a)) x6 x7 (some (.ref c)) x9 x10 x11 (some (.ref m)) (some (pD (.con d.s qs))) (some (.ref v14)) x15 x16 x17 x18) 15 (.ref v15) = LF s tp (wD w u) x3 (some (kD d.typ)) (some (.ref a)) x6 x7 (some (.ref c)) x9 x10 x11 (some (.ref m)) (some (pD (.con d.s qs))) (some (.ref v14)) (some (.ref v15)) x16 x17 x18 := rfl
    rw [ef, wS_seq, wS_ite, wR_tru, wR_bi, wR_cons, wR_lc, wR_wk, wR_var (i := 12) (d := .ref m) rfl, wk_lst (k9 _ _ hm), wR_some]
    dsimp only
    rw [hun, wR_bnd]
    show wR (lcL _ _ _ (LF s tp (wD w u) x3 (some (kD d.typ)) (some (.ref a)) x6 x7 (some (.ref c)) none x10 x11 (some (.ref m)) (some (pD (.con d.s qs))) (some (.ref v14)) (some (.ref v15)) x16 x17 x18) ((msOf d.typ ps).map vD) (List.replicate 0 (.bl false)) A8) _
    refine bl_loop (A0 := A8) (F' := fun y => LF s tp (wD w u) x3 (some (kD d.typ)) (some (.ref a)) x6 x7 (some (.ref c)) (some y) x10 x11 (some (.ref m)) (some (pD (.con d.s qs))) (some (.ref v14)) (some (.ref v15)) x16 x17 x18) false (fun A kp => gOk_one (kp _ _ (k9 _ _ hm))) (fun d => rfl) ((msOf d.typ ps).map vD) 0 A8 (by rw [List.length_map]; omega) ?_ .refl ?_
    · intro x hx A9 k10
      obtain ⟨v, hv, rfl⟩ := List.mem_map.mp hx
      obtain ⟨c', vs, rfl, _, _⟩ := (hms v hv).con hk
      have hni := hno _ hv c' vs rfl
      rw [wR_lcB, wR_evc0, if_pos rfl, wR_cmp, wR_tix (x := .str c'.s) rfl rfl, wR_sl, wR_var (i := 15) (d := .ref v15) rfl]
      show wR (Res.ok none A9) _
      rw [wR_ok]
      have hev : evo (callF pg N 228) (.cons (.mth "index" (.var 15) (.cons (.ix (.var 13) (.int 1)) .nil)) .nil) (LF s tp (wD w u) x3 (some (kD d.typ)) (some (.ref a)) x6 x7 (some (.ref c)) (some (vD (.con c' vs))) x10 x11 (some (.ref m)) (some (pD (.con d.s qs))) (some (.ref v14)) (some (.ref v15)) x16 x17 x18) A9 = .ok (some (((cases d.typ).takeWhile fun x => !decide (x = d)).length : Nat)) A9 := by
        show bnd (ev _ (.mth "index" (.var 15) (.cons (.ix (.var 13) (.int 1)) .nil)) _ A9) _ = _
        rw [show ev (callF pg N 228) (.mth "index" (.var 15) (.cons (.ix (.var 13) (.int 1)) .nil)) (LF s tp (wD w u) x3 (some (kD d.typ)) (some (.ref a)) x6 x7 (some (.ref c)) (some (vD (.con c' vs))) x10 x11 (some (.ref m)) (some (pD (.con d.s qs))) (some (.ref v14)) (some (.ref v15)) x16 x17 x18) A9 = .ok (.int ((((cases d.typ).takeWhile fun x => !decide (x = d)).length : Nat) : Int)) A9 from ok_of (by
          rw [wR_mth, wR_var (i := 15) (d := .ref v15) rfl, mkM_lst (k10 _ _ h15) rfl, wR_some, wR_cons, wR_tix (x := .str d.s) rfl rfl, wR_nil, index_of (k10 _ _ h15), wR_ok]
          exact ⟨rfl, rfl⟩)]
        rfl
      rw [hev, wR_ok]
      have e : opS A9 (.ref v15) none (some ((((cases d.typ).takeWhile fun x => !decide (x = d)).length : Nat) : Int)) = .ok (.ref A9.length) (A9 ++ [.lst (((cases d.typ).takeWhile fun x => !decide (x = d)).map sD)]) := by
        simp only [opS, seqL_of (k10 _ _ h15), cut_to, take_of]
      rw [e, wR_ok, mem_no new_at hni]
      exact wR_some.mpr ⟨rfl, Kp.refl.app⟩
    intro A9 k10
    rw [wR_ok, wR_nil, any_rep new_at, wR_ok, truth_bl, wR_some, if_neg (by decide), wS_skip, wS_skip, wS_skip]
    exact h _ _ _ (k9.trans k10).app
end
end K26

/-! ## K26Z -/
/-! K26Z: the law's turn: parts. -/
namespace K26
open Ev PySem
section
variable {N : Nat} {k : Kd} {ps : List Pt}
abbrev t13 : Sm := .seq (.set 13 (.call "left_out" (.cons (.var 2) (.cons (.var 5) (.cons (.var 4) .nil))))) (.seq (.ite (.or (.cmp .ne (.cmp .is (.var 13) .non) (.cmp .eq (.var 12) (.lst .nil))) (.cmp .ne (.call "useless" (.cons (.var 2) (.cons (.var 5) (.cons (.var 4) .nil)))) (.lc (.nm 16) (.rng (.cons (.bi "len" (.cons (.var 5) .nil)) .nil)) (.cons (.cmp .nmem (.var 16) (.var 11)) .nil) (.var 16) [16]))) ret0 .skip) (.seq (.ite (.cmp .isnt (.var 13) .non) t14 .skip) .skip))
theorem left_walk {s : D} {tp a c m f w u : Nat} {A : AH} {x3 x6 x7 x9 x10 x13 x14 x15 x16 x17 x18 : Option D} {Pn Pb Pc : Fr → AH → Prop} {Pr : D → AH → Prop} (hk : k ≠ .int) (hp : PsOk k ps) (hW : A[w]? = some (.dct W)) (ha : A[a]? = some (.lst (pDs ps))) (hc : A[c]? = some (.lst ((vals k).map vD))) (hf : A[f]? = some (.lst ((fsOf k ps).map iD))) (hm : A[m]? = some (.lst ((msOf k ps).map vD)))
    (h : ∀ A' y13 y14 y15, Kp A A' → Pn (LF s tp (wD w u) x3 (some (kD k)) (some (.ref a)) x6 x7 (some (.ref c)) x9 x10 (some (.ref f)) (some (.ref m)) y13 y14 y15 x16 x17 x18) A') :
    wS (sx (callF pg N 228) N t13 (LF s tp (wD w u) x3 (some (kD k)) (some (.ref a)) x6 x7 (some (.ref c)) x9 x10 (some (.ref f)) (some (.ref m)) x13 x14 x15 x16 x17 x18) A) Pn Pb Pc Pr := by
  have hms : ∀ v ∈ msOf k ps, VOK k 4 v := fun v hv => (mem_ms.mp hv).1
  have pms := vs_pl hms
  have hl5 := hp.len
  have hw3 := wc_3 k
  rw [wS_seq, wS_set, wR_cl, wR_cons, wR_v2, wR_cons, wR_v5, wR_cons, wR_v4, wR_nil]
  refine (left_spec (N := N) (n := 225) (h := 3) hW ha (by omega) (by omega) (by omega) hp.wt).mono fun d A1 ⟨ed, k1⟩ => ?_
  subst ed
  have ef : ∀ z, fset (LF s tp (wD w u) x3 (some (kD k)) (some (.ref a)) x6 x7 (some (.ref c)) x9 x10 (some (.ref f)) (some (.ref m)) x13 x14 x15 x16 x17 x18) 13 z = LF s tp (wD w u) x3 (some (kD k)) (some (.ref a)) x6 x7 (some (.ref c)) x9 x10 (some (.ref f)) (some (.ref m)) (some z) x14 x15 x16 x17 x18 := fun z => rfl
  rw [ef]
  have lo := left_ok (n := 225) (by decide) hp
  have use : ∀ {z : D} {A2 : AH} {P : D → AH → Prop}, Kp A A2 → (∀ A', Kp A A' → P (.bl false) A') → wR (ev (callF pg N 228) (.cmp .ne (.call "useless" (.cons (.var 2) (.cons (.var 5) (.cons (.var 4) .nil)))) (.lc (.nm 16) (.rng (.cons (.bi "len" (.cons (.var 5) .nil)) .nil)) (.cons (.cmp .nmem (.var 16) (.var 11)) .nil) (.var 16) [16])) (LF s tp (wD w u) x3 (some (kD k)) (some (.ref a)) x6 x7 (some (.ref c)) x9 x10 (some (.ref f)) (some (.ref m)) (some z) x14 x15 x16 x17 x18) A2) P := by
    intro z A2 P k2 hP
    rw [wR_cmp, wR_cl, wR_cons, wR_v2, wR_cons, wR_v5, wR_cons, wR_v4, wR_nil]
    have us := useless_spec (N := N) (u := u) (n := 225) (h := 3) (k2 _ _ hW) (k2 _ _ ha) (by omega) (by omega) (by omega) hp.wt
    unfold FL at us
    refine us.mono fun d A3 ⟨b, eb, k3, _, hb⟩ => ?_
    subst eb
    rw [usl_first (by decide) hp] at hb
    apply nofirst (F' := fun y => LF s tp (wD w u) x3 (some (kD k)) (some (.ref a)) x6 x7 (some (.ref c)) x9 x10 (some (.ref f)) (some (.ref m)) (some z) x14 x15 (some y) x17 x18) (k3 _ _ (k2 _ _ ha)) (k3 _ _ (k2 _ _ hf)) (by omega) rfl (fun d => rfl) (fun d => rfl) (fun d => rfl)
    intro b2 A4 k4 hb2
    rw [ne_same (ints_pl _).1 (by rw [(ints_pl _).2]; omega) (k4 _ _ hb) hb2]
    exact wR_some.mpr (hP A4 (k2.trans (k3.trans k4)))
  have hm1 := k1 _ _ hm
  cases e : leftO 225 ps k with
  | none =>
    rw [e] at lo
    have lo : msOf k ps = [] := lo
    show wS (sx _ N _ (LF s tp (wD w u) x3 (some (kD k)) (some (.ref a)) x6 x7 (some (.ref c)) x9 x10 (some (.ref f)) (some (.ref m)) (some .non) x14 x15 x16 x17 x18) A1) _ _ _ _
    rw [wS_seq, wS_ite, wR_tru, wR_or, wR_cmp, wR_cmp, wR_var (i := 13) (d := .non) rfl, wR_non, is_non]
    show wR (ofO (some (D.bl true)) A1) _
    rw [wR_some, wR_cmp, wR_var (i := 12) (d := .ref m) rfl, wR_lst, wR_nil, wR_ifok (sz1 (by simp)), eq_empty pms.1 (by omega) (app_at hm1) new_at, lo]
    show wR (ofO (some (D.bl true)) _) _
    rw [wR_some, ne_bl]
    show wR (ofO (some (D.bl false)) _) _
    rw [wR_some, truth_bl, wR_some, if_neg (by decide)]
    apply use k1.app
    intro A2 k2
    rw [truth_bl, wR_some, if_neg (by decide), wS_skip, wS_seq, wS_ite, wR_tru, wR_cmp, wR_var (i := 13) (d := .non) rfl, wR_non, isnt_non]
    show wR (ofO (some (D.bl false)) A2) _
    rw [wR_some, truth_bl, wR_some, if_neg (by decide), wS_skip, wS_skip]
    exact h A2 _ _ _ k2
  | some t =>
    rw [e] at lo
    dsimp only at lo
    have hne : ((msOf k ps).map vD).isEmpty = false := by
      obtain ⟨_, _, ⟨v, h1, h2⟩, h3, _⟩ := lo
      have := h3 v h1 h2
      cases hh : msOf k ps with
      | nil => rw [hh] at this; cases this
      | cons a l => rfl
    show wS (sx _ N _ (LF s tp (wD w u) x3 (some (kD k)) (some (.ref a)) x6 x7 (some (.ref c)) x9 x10 (some (.ref f)) (some (.ref m)) (some (pD t)) x14 x15 x16 x17 x18) A1) _ _ _ _
    rw [wS_seq, wS_ite, wR_tru, wR_or, wR_cmp, wR_cmp, wR_var (i := 13) (d := pD t) rfl, wR_non, is_pD]
    show wR (ofO (some (D.bl false)) A1) _
    rw [wR_some, wR_cmp, wR_var (i := 12) (d := .ref m) rfl, wR_lst, wR_nil, wR_ifok (sz1 (by simp)), eq_empty pms.1 (by omega) (app_at hm1) new_at, hne]
    show wR (ofO (some (D.bl false)) _) _
    rw [wR_some, ne_bl]
    show wR (ofO (some (D.bl false)) _) _
    rw [wR_some, truth_bl, wR_some, if_neg (by decide)]
    apply use k1.app
    intro A2 k2
    rw [truth_bl, wR_some, if_neg (by decide), wS_skip, wS_seq, wS_ite, wR_tru, wR_cmp, wR_var (i := 13) (d := pD t) rfl, wR_non, isnt_pD]
    show wR (ofO (some (D.bl true)) A2) _
    rw [wR_some, truth_bl, wR_some, if_pos rfl]
    refine told_walk hk hp (k2 _ _ hW) (k2 _ _ ha) (k2 _ _ hc) (k2 _ _ hm) lo ?_
    intro A3 y14 y15 k3
    rw [wS_skip]
    exact h A3 _ _ _ (k2.trans k3)
/-- all patterns are told alike -/
abbrev t7 : Sm := .seq (.ite (.not (.call "_law_same" (.cons (.call "_law_told" (.cons (.var 7) (.cons (.var 4) .nil))) (.cons (.call "_law_names" (.cons (.var 7) (.cons (.var 4) (.cons (.tup .nil) .nil)))) .nil)))) ret0 .skip) .skip
theorem pl_path (v : String) (q : List Nat) (hq : q.length ≤ 1000) : pl (.tup [.str "bad", .str v, pth q]) = true ∧ dp (.tup [.str "bad", .str v, pth q]) = 2 := by
  have h1 := ints_pl q
  refine ⟨?_, ?_⟩
  · have e : pl (.tup [.str "bad", .str v, pth q]) = ((true && (true && ((pls (q.map iD) && decide ((q.map iD).length ≤ 1000)) && true))) && decide (3 ≤ 1000)) := rfl
    rw [e, h1.1, decide_eq_true (by rw [List.length_map]; exact hq)]
    rfl
  · have e : dp (.tup [.str "bad", .str v, pth q]) = max 0 (max 0 (max (dps (q.map iD) + 1) 0)) + 1 := rfl
    rw [e, h1.2]
    rfl
mutual
theorem chk_path : ∀ (p : Pt) (k : Kd) (path : List Nat) {v : String} {q : List Nat}, chk p k path = .bad v q → q.length ≤ path.length + ph p
  | .any, _, _, v, q, h => by simp [chk] at h
  | .nm _, _, _, v, q, h => by simp [chk] at h
  | .con c ps, k, path, v, q, h => by
    simp only [chk] at h
    cases ef : fnd c with
    | none => rw [ef] at h; simp at h; rw [← h.2]; omega
    | some d =>
      rw [ef] at h
      dsimp only at h
      split at h
      · have := chks_path ps d.args 0 path false h
        unfold ph
        omega
      · simp at h; rw [← h.2]; omega
theorem chks_path : ∀ (ps : List Pt) (ks : List Kd) (i : Nat) (path : List Nat) (b : Bool) {v : String} {q : List Nat}, chks ps ks i path b = .bad v q → q.length ≤ path.length + 1 + phs ps
  | [], _, _, _, _, v, q, h => by simp [chks] at h
  | _ :: _, [], _, _, _, v, q, h => by simp [chks] at h
  | p :: ps, k :: ks, i, path, b, v, q, h => by
    simp only [chks] at h
    unfold phs
    cases ef : chk p k (path ++ [i]) with
    | bad w z =>
      rw [ef] at h
      have := chk_path p k (path ++ [i]) ef
      simp at h this
      rw [← h.2]
      omega
    | ok e =>
      rw [ef] at h
      dsimp only at h
      split at h
      · simp at h; rw [← h.2]; omega
      · have := chks_path ps ks (i + 1) path _ h
        omega
end
theorem t7_walk {s wd : D} {tp : Nat} {p : Pt} {A : AH} {x3 x5 x6 x8 x9 x10 x11 x12 x13 x14 x15 x16 x17 x18 : Option D} {Pn Pb Pc : Fr → AH → Prop} {Pr : D → AH → Prop} (hh : ph p ≤ 4) (hx : nmx p = true) (hkn : knw p)
    (h : ∀ A', Kp A A' → Pn (LF s tp wd x3 (some (kD k)) x5 x6 (some (pD p)) x8 x9 x10 x11 x12 x13 x14 x15 x16 x17 x18) A') :
    wS (sx (callF pg N 228) N t7 (LF s tp wd x3 (some (kD k)) x5 x6 (some (pD p)) x8 x9 x10 x11 x12 x13 x14 x15 x16 x17 x18) A) Pn Pb Pc Pr := by
  rw [wS_seq, wS_ite, wR_tru, wR_not, wR_cl, wR_cons, wR_cl, wR_cons, wR_v7, wR_cons, wR_v4, wR_nil]
  refine (told_spec (n := 227) (by omega) hx hkn (by omega)).mono fun r A1 ⟨k1, hr⟩ => ?_
  rw [wR_cons, wR_cl, wR_cons, wR_v7, wR_cons, wR_v4, wR_cons, wR_tup, wR_nil, wR_ifok (sz1 (by simp)), wR_nil]
  refine (names_spec (N := N) 228 p (by omega) hx hkn k [] A1 (by simp; omega)).mono fun r2 A2 ⟨k2, hr2⟩ => ?_
  rw [wR_nil]
  have sm : SM N 228 r r2 A2 := by
    cases e : chk p k [] with
    | ok b =>
      rw [e] at hr hr2
      dsimp only at hr hr2
      obtain ⟨a1, rfl, h1⟩ := hr
      obtain ⟨a2, rfl, h2⟩ := hr2
      refine same_tup2 (n := 226) rfl (by simp) ?_
      intro i x y hx hy A5 k5
      match i, hx, hy with
      | 0, hx, hy =>
        cases hx
        cases hy
        exact same_p rfl (by show 2 * 0 + 1 < 226; omega)
      | 1, hx, hy =>
        cases hx
        cases hy
        exact same_l (n := 224) (k5 _ _ (k2 _ _ h1)) (k5 _ _ h2) (by have := xl_len (c := b); omega) (by cases b <;> rfl) (by cases b <;> decide)
      | i + 2, hx, hy => simp at hx
    | bad v q =>
      rw [e] at hr hr2
      dsimp only at hr hr2
      subst hr hr2
      have hq := chk_path p k [] e
      have := pl_path v q (by simp at hq; omega)
      exact same_p this.1 (by rw [this.2]; omega)
  unfold SM at sm
  refine sm.mono fun d A3 ⟨ed, k3⟩ => ?_
  subst ed
  rw [truth_bl]
  show wR (ofO (some (D.bl false)) A3) _
  rw [wR_some, truth_bl, wR_some, if_neg (by decide), wS_skip, wS_skip]
  exact h A3 (k1.trans (k2.trans k3))
end
end K26

/-! ## K26ZA -/
/-! K26ZA: the law's turn, whole. -/
namespace K26
open Ev PySem
section
variable {N tp : Nat} {k : Kd} {ps : List Pt}
theorem lst_ne {A : AH} {a : Nat} {xs : List D} (t : TapeOk A tp) (h : A[a]? = some (.lst xs)) : a ≠ tp := fun z => by
  obtain ⟨_, _, _, _, _, _, h1, _⟩ := t
  rw [← z, h] at h1
  cases h1
theorem W_ne {A : AH} {w : Nat} (t : TapeOk A tp) (h : A[w]? = some (.dct W)) : w ≠ tp := fun z => by
  obtain ⟨_, _, _, _, _, _, h1, _⟩ := t
  rw [← z, h] at h1
  simp [W, tpD] at h1
abbrev kindE : Ex := .tup (.cons (.str "data") (.cons (.ix (.lst (.cons (.str "shape") (.cons (.str "shape") (.cons (.str "color") (.cons (.str "odd") .nil))))) (.call "_law_take" (.cons (.var 1) (.cons (.int 4) .nil)))) .nil))
theorem kind_ev {m : Nat} {F : Fr} {A : AH} (h1 : F[1]? = some (some (.ref tp))) (t : TapeOk A tp) : wR (ev (callF pg N (m + 1)) kindE F A) (fun r A' => (∃ k, k ≠ Kd.int ∧ r = kD k) ∧ Dr tp A A') := by
  rw [wR_tup, wR_cons, wR_str, wR_cons, wR_ix]
  refine wR_eq (a := .ref A.length) (A := A ++ [.lst [.str "shape", .str "shape", .str "color", .str "odd"]]) (by kernel_rfl) ?_
  have t1 : TapeOk (A ++ [.lst [.str "shape", .str "shape", .str "color", .str "odd"]]) tp := t.kp Kp.refl.app
  rw [wR_cl, wR_cons, wR_var h1, wR_cons, wR_int, wR_nil]
  refine (take_spec rfl t1 (by decide) (by decide)).mono fun r A2 ⟨j, ej, j0, j3, d2⟩ => ?_
  subst ej
  rw [opI_lst (d2.kp _ _ (tp_ne t) new_at)]
  have fin : ∀ k : Kd, k ≠ .int → wR (ofO (some (D.str k.s)) A2) (fun x A1 => wR (evs (callF pg N (m + 1)) .nil F A1) fun xs A2 => wR (if (D.str "data" :: x :: xs).length ≤ PySem.sizeLine then Res.ok (.tup (D.str "data" :: x :: xs)) A2 else .no) (fun r A' => (∃ k, k ≠ Kd.int ∧ r = kD k) ∧ Dr tp A A')) := fun k hk => by
    rw [wR_some, wR_nil, wR_ifok (sz1 (by simp))]
    exact ⟨⟨k, hk, (kD_tag hk).symm⟩, (Dr.of t Kp.refl.app).trans d2⟩
  have : j = 0 ∨ j = 1 ∨ j = 2 ∨ j = 3 := by omega
  rcases this with rfl | rfl | rfl | rfl
  · exact fin .shape (by decide)
  · exact fin .shape (by decide)
  · exact fin .color (by decide)
  · exact fin .odd (by decide)
abbrev patsE : Ex := .lc (.nm 16) (.rng (.cons (.call "_law_take" (.cons (.var 1) (.cons (.int 6) .nil))) .nil)) .nil (.call "_law_pattern" (.cons (.var 1) (.cons (.var 4) (.cons (.op .add (.int 1) (.call "_law_take" (.cons (.var 1) (.cons (.int 3) .nil)))) .nil)))) [16]
theorem ploop {m : Nat} {F : Fr} {F' : D → Fr} {A0 : AH} {P : List D → AH → Prop} (hm : 10 ≤ m) (hF : ∀ d, asgT (.nm 16) d F = some (F' d)) (h1 : ∀ d, (F' d)[1]? = some (some (.ref tp))) (h4 : ∀ d, (F' d)[4]? = some (some (kD k))) :
    ∀ (items : List D) (acc : List Pt) (A : AH), acc.length + items.length ≤ 5 → (∀ p ∈ acc, WT k 3 p ∧ nmx p = true) → Dr tp A0 A → (∀ ps A', PsOk k ps → Dr tp A0 A' → P (pDs ps) A') →
    wR (lcL (asgT (.nm 16)) [] (lcB (callF pg N (m + 1)) .nil (.call "_law_pattern" (.cons (.var 1) (.cons (.var 4) (.cons (.op .add (.int 1) (.call "_law_take" (.cons (.var 1) (.cons (.int 3) .nil)))) .nil))))) F items (pDs acc) A) P
  | [], acc, A, hz, ha, d, h => by
    apply lcL_nil rfl
    exact h acc A ⟨hz, fun p hp => (ha p hp).1, fun p hp => (ha p hp).2⟩ d
  | x :: items, acc, A, hz, ha, d, h => by
    have hz : acc.length + (items.length + 1) ≤ 5 := hz
    refine lcL_cons (F' := F' x) rfl (hF _) ?_
    rw [wR_lcB, wR_evc0, if_pos rfl, wR_cl, wR_cons, wR_var (h1 _), wR_cons, wR_var (h4 _), wR_cons, wR_op, wR_int, wR_cl, wR_cons, wR_var (h1 _), wR_cons, wR_int, wR_nil]
    refine (take_spec rfl d.tape (by decide) (by decide)).mono fun r A1 ⟨j, ej, j0, j3, d1⟩ => ?_
    subst ej
    obtain ⟨i, rfl⟩ : ∃ i : Nat, j = (i : Nat) := ⟨j.toNat, by omega⟩
    have e : opB A1 .add (.int 1) (.int (i : Nat)) = .ok (.int ((i + 1 : Nat) : Int)) A1 := by
      show Res.ok (D.int (1 + (i : Nat))) A1 = _
      rw [show (1 : Int) + (i : Nat) = ((i + 1 : Nat) : Int) by omega]
    rw [e, wR_ok, wR_nil]
    refine (pattern_spec (i + 1) (m + 1) k (by omega) A1 d1.tape).mono fun r A2 ⟨⟨p, er, wp, np⟩, d2⟩ => ?_
    subst er
    dsimp only
    refine ⟨by rw [pDs_len, ev_sz]; omega, ?_⟩
    have e : pDs acc ++ [pD p] = pDs (acc ++ [p]) := by rw [pDs_app]; rfl
    rw [e]
    refine ploop hm hF h1 h4 items (acc ++ [p]) A2 (by simp; omega) (fun q hq => ?_) (d.trans (d1.trans d2)) h
    rcases List.mem_append.mp hq with hq | hq
    · exact ha q hq
    · rw [List.mem_singleton.mp hq]
      exact ⟨wp.mono p (by omega), np⟩
theorem pats_ev {m : Nat} {F : Fr} {F' : D → Fr} {A : AH} {P : D → AH → Prop} (hm : 10 ≤ m) (t : TapeOk A tp) (h0 : F[1]? = some (some (.ref tp))) (hF : ∀ d, asgT (.nm 16) d (wipeF F [16]) = some (F' d)) (h1 : ∀ d, (F' d)[1]? = some (some (.ref tp))) (h4 : ∀ d, (F' d)[4]? = some (some (kD k)))
    (h : ∀ ps a A', PsOk k ps → A'[a]? = some (.lst (pDs ps)) → Dr tp A A' → P (.ref a) A') : wR (ev (callF pg N (m + 1)) patsE F A) P := by
  rw [wR_lc, wR_rng, wR_cons, wR_cl, wR_cons, wR_var h0, wR_cons, wR_int, wR_nil]
  refine (take_spec rfl t (by decide) (by decide)).mono fun r A1 ⟨j, ej, j0, j3, d1⟩ => ?_
  subst ej
  obtain ⟨i, rfl⟩ : ∃ i : Nat, j = (i : Nat) := ⟨j.toNat, by omega⟩
  rw [wR_nil, wkRng_nat (by omega), wR_some]
  dsimp only
  have hun : ∀ {α : Type} (r : Res α), unlR none r = r := fun r => rfl
  rw [hun, wR_bnd]
  show wR (lcL _ _ _ _ _ (pDs []) A1) _
  refine ploop (A0 := A) hm hF h1 h4 _ [] A1 (by simp; omega) (fun p hp => by cases hp) d1 ?_
  intro ps A2 hp d2
  rw [wR_ok]
  exact h ps _ _ hp new_at d2.app
def qLine : Pt := .con "Line" []
def qNo : Pt := .con "No" []
def qBox : Pt := .con "Box" [.con "Line" [.any], .any]
abbrev otherE : Ex := .ix (.lst (.cons (.call "_law_pattern" (.cons (.var 1) (.cons (.tup (.cons (.str "data") (.cons (.str "shape") .nil))) (.cons (.int 3) .nil)))) (.cons (.tup (.cons (.str "con") (.cons (.str "Line") (.cons (.tup .nil) .nil)))) (.cons (.tup (.cons (.str "con") (.cons (.str "No") (.cons (.tup .nil) .nil)))) (.cons (.tup (.cons (.str "con") (.cons (.str "Box") (.cons (.tup (.cons (.tup (.cons (.str "con") (.cons (.str "Line") (.cons (.tup (.cons (.tup (.cons (.str "any") .nil)) .nil)) .nil)))) (.cons (.tup (.cons (.str "any") .nil)) .nil))) .nil)))) .nil))))) (.call "_law_take" (.cons (.var 1) (.cons (.int 4) .nil)))
def QOk (q : Pt) : Prop := nmx q = true ∧ knw q ∧ ph q ≤ 4
theorem other_ev {m : Nat} {F : Fr} {A : AH} (hm : 10 ≤ m) (h0 : F[1]? = some (some (.ref tp))) (t : TapeOk A tp) : wR (ev (callF pg N (m + 1)) otherE F A) (fun r A' => (∃ q, QOk q ∧ r = pD q) ∧ Dr tp A A') := by
  rw [wR_ix, wR_lst, wR_cons, wR_cl, wR_cons, wR_var h0, wR_cons]
  refine wR_eq (a := kD .shape) (A := A) (by kernel_rfl) ?_
  rw [wR_cons, wR_int, wR_nil]
  refine (pattern_spec (N := N) 3 (m + 1) .shape (by omega) A t).mono fun r A1 ⟨⟨p, er, wp, np⟩, d1⟩ => ?_
  subst er
  refine wR_eq (a := [pD qLine, pD qNo, pD qBox]) (A := A1) (by kernel_rfl) ?_
  rw [wR_ifok (sz1 (by simp)), wR_cl, wR_cons, wR_var h0, wR_cons, wR_int, wR_nil]
  have t1 : TapeOk (A1 ++ [.lst [pD p, pD qLine, pD qNo, pD qBox]]) tp := d1.tape.kp Kp.refl.app
  refine (take_spec rfl t1 (by decide) (by decide)).mono fun r A2 ⟨j, ej, j0, j3, d2⟩ => ?_
  subst ej
  rw [opI_lst (d2.kp _ _ (tp_ne d1.tape) new_at)]
  have fin : ∀ q, QOk q → wR (ofO (some (pD q)) A2) (fun r A' => (∃ q, QOk q ∧ r = pD q) ∧ Dr tp A A') := fun q hq => by
    rw [wR_some]
    exact ⟨⟨q, hq, rfl⟩, d1.trans ((Dr.of d1.tape Kp.refl.app).trans d2)⟩
  have : j = 0 ∨ j = 1 ∨ j = 2 ∨ j = 3 := by omega
  rcases this with rfl | rfl | rfl | rfl
  · have := WT_knw p wp
    exact fin p ⟨np, this.1, by omega⟩
  · exact fin qLine ⟨rfl, ⟨.inr ⟨.line, rfl⟩, trivial⟩, by decide⟩
  · exact fin qNo ⟨rfl, ⟨.inl rfl, trivial⟩, by decide⟩
  · exact fin qBox ⟨rfl, ⟨.inr ⟨.box, rfl⟩, ⟨⟨.inr ⟨.line, rfl⟩, trivial, trivial⟩, trivial, trivial⟩⟩, by decide⟩
theorem tloop {s wd : D} {b : Nat} {L : List D} {A0 : AH} {x3 x5 x6 x8 x9 x10 x11 x12 x13 x14 x15 x16 x17 x18 : Option D} {Pn Pb Pc : Fr → AH → Prop} {Pr : D → AH → Prop} (hb : A0[b]? = some (.lst L)) : ∀ (l : List Pt) (A : AH) (x7 : Option D), (∀ p ∈ l, QOk p) → Kp A0 A →
    (∀ A' x7, Kp A0 A' → Pn (LF s tp wd x3 (some (kD k)) x5 x6 x7 x8 x9 x10 x11 x12 x13 x14 x15 x16 x17 x18) A') →
    wS (forL (asgT (.nm 7)) [(b, .lst L)] (fun F' A' => sx (callF pg N 228) N t7 F' A') (pDs l) (LF s tp wd x3 (some (kD k)) x5 x6 x7 x8 x9 x10 x11 x12 x13 x14 x15 x16 x17 x18) A) Pn Pb Pc Pr
  | [], A, x7, _, kp, h => by
    apply forS_nil (gOk_one (kp _ _ hb))
    exact h A x7 kp
  | p :: l, A, x7, hq, kp, h => by
    obtain ⟨h1, h2, h3⟩ := hq p List.mem_cons_self
    show wS (forL _ _ _ (pD p :: pDs l) _ _) _ _ _ _
    refine forS_cons (F' := LF s tp wd x3 (some (kD k)) x5 x6 (some (pD p)) x8 x9 x10 x11 x12 x13 x14 x15 x16 x17 x18) (gOk_one (kp _ _ hb)) rfl ?_
    refine t7_walk h3 h1 h2 fun A1 k1 => ?_
    exact tloop hb l A1 _ (fun p hp => hq p (List.mem_cons_of_mem _ hp)) (kp.trans k1) h
theorem vloop {s wd : D} {a b : Nat} {L : List D} {A0 : AH} {x3 x6 x7 x8 x11 x12 x13 x14 x15 x16 x17 x18 : Option D} {Pn Pb Pc : Fr → AH → Prop} {Pr : D → AH → Prop} (hp : PsOk k ps) (ha : A0[a]? = some (.lst (pDs ps))) (hb : A0[b]? = some (.lst L)) : ∀ (l : List Vl) (A : AH) (x9 x10 : Option D), (∀ v ∈ l, VOK k 4 v) → Kp A0 A →
    (∀ A' x9 x10, Kp A0 A' → Pn (LF s tp wd x3 (some (kD k)) (some (.ref a)) x6 x7 x8 x9 x10 x11 x12 x13 x14 x15 x16 x17 x18) A') →
    wS (forL (asgT (.nm 9)) [(b, .lst L)] (fun F' A' => sx (callF pg N 228) N valB F' A') (l.map vD) (LF s tp wd x3 (some (kD k)) (some (.ref a)) x6 x7 x8 x9 x10 x11 x12 x13 x14 x15 x16 x17 x18) A) Pn Pb Pc Pr
  | [], A, x9, x10, _, kp, h => by
    apply forS_nil (gOk_one (kp _ _ hb))
    exact h A x9 x10 kp
  | v :: l, A, x9, x10, hv, kp, h => by
    show wS (forL _ _ _ (vD v :: l.map vD) _ _) _ _ _ _
    refine forS_cons (F' := LF s tp wd x3 (some (kD k)) (some (.ref a)) x6 x7 x8 (some (vD v)) x10 x11 x12 x13 x14 x15 x16 x17 x18) (gOk_one (kp _ _ hb)) rfl ?_
    refine val_ok hp (hv v List.mem_cons_self) (kp _ _ ha) fun b' A1 k1 => ?_
    exact vloop hp ha hb l A1 _ _ (fun v hv' => hv v (List.mem_cons_of_mem _ hv')) (kp.trans k1) h
end
end K26

/-! ## K26ZB -/
/-! K26ZB: the law. -/
namespace K26
open Ev PySem
section
variable {N tp : Nat}
theorem vals_len (k : Kd) : (vals k).length ≤ 100 := by
  cases k with
  | shape => exact shp_le (d := 4) (by decide)
  | color => decide
  | odd => decide
  | int => decide
theorem law_turn {s : D} {w u : Nat} {A : AH} {x3 x4 x5 x6 x7 x8 x9 x10 x11 x12 x13 x14 x15 x16 x17 x18 : Option D} {Pn Pb Pc : Fr → AH → Prop} {Pr : D → AH → Prop} (t : TapeOk A tp) (hW : A[w]? = some (.dct W))
    (h : ∀ A' y4 y5 y6 y7 y8 y9 y10 y11 y12 y13 y14 y15, Dr tp A A' → Pn (LF s tp (wD w u) x3 y4 y5 y6 y7 y8 y9 y10 y11 y12 y13 y14 y15 x16 x17 x18) A') :
    wS (sx (callF pg N 228) N turnB (LF s tp (wD w u) x3 x4 x5 x6 x7 x8 x9 x10 x11 x12 x13 x14 x15 x16 x17 x18) A) Pn Pb Pc Pr := by
  show wS (sx _ N (.seq (.set 4 kindE) (drp 1 turnB)) _ A) _ _ _ _
  rw [wS_seq, wS_set]
  refine (kind_ev (N := N) (m := 227) rfl t).mono fun r A1 ⟨⟨k, hk, er⟩, d1⟩ => ?_
  subst er
  have ef : fset (LF s tp (wD w u) x3 x4 x5 x6 x7 x8 x9 x10 x11 x12 x13 x14 x15 x16 x17 x18) 4 (kD k) = LF s tp (wD w u) x3 (some (kD k)) x5 x6 x7 x8 x9 x10 x11 x12 x13 x14 x15 x16 x17 x18 := rfl
  rw [ef]
  show wS (sx _ N (.seq (.set 5 patsE) (drp 2 turnB)) _ A1) _ _ _ _
  rw [wS_seq, wS_set]
  apply pats_ev (m := 227) (k := k) (F' := fun d => LF s tp (wD w u) x3 (some (kD k)) x5 x6 x7 x8 x9 x10 x11 x12 x13 x14 x15 (some d) x17 x18) (by omega) d1.tape rfl (fun d => rfl) (fun d => rfl) (fun d => rfl)
  intro ps a A2 hp ha d2
  have ef : fset (LF s tp (wD w u) x3 (some (kD k)) x5 x6 x7 x8 x9 x10 x11 x12 x13 x14 x15 x16 x17 x18) 5 (.ref a) = LF s tp (wD w u) x3 (some (kD k)) (some (.ref a)) x6 x7 x8 x9 x10 x11 x12 x13 x14 x15 x16 x17 x18 := rfl
  rw [ef]
  show wS (sx _ N (.seq (.set 6 otherE) (drp 3 turnB)) _ A2) _ _ _ _
  rw [wS_seq, wS_set]
  refine (other_ev (N := N) (m := 227) (by omega) rfl d2.tape).mono fun r A3 ⟨⟨q, hq, er⟩, d3⟩ => ?_
  subst er
  have ef : fset (LF s tp (wD w u) x3 (some (kD k)) (some (.ref a)) x6 x7 x8 x9 x10 x11 x12 x13 x14 x15 x16 x17 x18) 6 (pD q) = LF s tp (wD w u) x3 (some (kD k)) (some (.ref a)) (some (pD q)) x7 x8 x9 x10 x11 x12 x13 x14 x15 x16 x17 x18 := rfl
  rw [ef]
  have ha := d3.kp _ _ (lst_ne d2.tape ha) ha
  have dd : Dr tp A A3 := d1.trans (d2.trans d3)
  have hW := dd.kp _ _ (W_ne t hW) hW
  have h : ∀ A' y4 y5 y6 y7 y8 y9 y10 y11 y12 y13 y14 y15, Kp A3 A' → Pn (LF s tp (wD w u) x3 y4 y5 y6 y7 y8 y9 y10 y11 y12 y13 y14 y15 x16 x17 x18) A' := fun A' y4 y5 y6 y7 y8 y9 y10 y11 y12 y13 y14 y15 kp => h A' y4 y5 y6 y7 y8 y9 y10 y11 y12 y13 y14 y15 (dd.trans (Dr.of dd.tape kp))
  clear dd d3 d2 d1 t
  have hl5 := hp.len
  show wS (sx _ N (.seq (.for (.nm 7) (.wk (.op .add (.var 5) (.lst (.cons (.var 6) .nil)))) t7) (drp 4 turnB)) _ A3) _ _ _ _
  rw [wS_seq, wS_for, wR_wk, wR_op, wR_v5, wR_lst, wR_cons, wR_v6, wR_nil, wR_ifok (sz1 (by simp)), add_lst (app_at ha) new_at (by rw [pDs_len, ev_sz]; simp; omega), wR_ok, wk_lst new_at, wR_some]
  dsimp only
  have e : pDs ps ++ [pD q] = pDs (ps ++ [q]) := by rw [pDs_app]; rfl
  rw [e]
  have k4 : Kp A3 ((A3 ++ [AO.lst [pD q]]) ++ [AO.lst (pDs (ps ++ [q]))]) := Kp.refl.app.app
  have hL : ((A3 ++ [AO.lst [pD q]]) ++ [AO.lst (pDs (ps ++ [q]))])[(A3 ++ [AO.lst [pD q]]).length]? = some (.lst (pDs (ps ++ [q]))) := new_at
  generalize (A3 ++ [AO.lst [pD q]]).length = b at hL
  generalize (A3 ++ [AO.lst [pD q]]) ++ [AO.lst (pDs (ps ++ [q]))] = A4 at k4 hL
  show wS (forL _ _ _ (pDs (ps ++ [q])) _ A4) _ _ _ _
  refine tloop (A0 := A4) hL (ps ++ [q]) A4 _ (fun p hp' => ?_) .refl ?_
  · rcases List.mem_append.mp hp' with h' | h'
    · have := WT_knw p (hp.wt p h')
      exact ⟨hp.nx p h', this.1, by omega⟩
    · rw [List.mem_singleton.mp h']
      exact hq
  intro A5 y7 k5
  have k5 := k4.trans k5
  show wS (sx _ N (.seq (.set 8 (.call "_law_values" (.cons (.var 4) (.cons (.int 4) .nil)))) (drp 5 turnB)) _ A5) _ _ _ _
  rw [wS_seq, wS_set, wR_cl, wR_cons, wR_v4, wR_cons, wR_int, wR_nil]
  have vv := vals_spec (N := N) (n := 221) (k := k) A5
  unfold GL at vv
  refine vv.mono fun r A6 ⟨c, er, k6, hc⟩ => ?_
  subst er
  have k6 := k5.trans k6
  have ef : fset (LF s tp (wD w u) x3 (some (kD k)) (some (.ref a)) (some (pD q)) y7 x8 x9 x10 x11 x12 x13 x14 x15 x16 x17 x18) 8 (.ref c) = LF s tp (wD w u) x3 (some (kD k)) (some (.ref a)) (some (pD q)) y7 (some (.ref c)) x9 x10 x11 x12 x13 x14 x15 x16 x17 x18 := rfl
  rw [ef]
  show wS (sx _ N (.seq (.for (.nm 9) (.wk (.sl (.var 8) .nil (.cons (.int 6) .nil))) valB) (drp 6 turnB)) _ A6) _ _ _ _
  have hsl : ev (callF pg N 228) (.sl (.var 8) .nil (.cons (.int 6) .nil)) (LF s tp (wD w u) x3 (some (kD k)) (some (.ref a)) (some (pD q)) y7 (some (.ref c)) x9 x10 x11 x12 x13 x14 x15 x16 x17 x18) A6 = .ok (.ref A6.length) (A6 ++ [.lst (((vals k).take 6).map vD)]) := by
    obtain ⟨z, B, e1, e2, e3⟩ := eq_of_wR (show wR (ev (callF pg N 228) (.sl (.var 8) .nil (.cons (.int 6) .nil)) (LF s tp (wD w u) x3 (some (kD k)) (some (.ref a)) (some (pD q)) y7 (some (.ref c)) x9 x10 x11 x12 x13 x14 x15 x16 x17 x18) A6) (fun z B => z = .ref A6.length ∧ B = A6 ++ [.lst (((vals k).take 6).map vD)]) by
      rw [wR_sl, wR_var (i := 8) (d := .ref c) rfl]
      show wR (Res.ok none A6) _
      rw [wR_ok]
      show wR (Res.ok (some ((6 : Nat) : Int)) A6) _
      rw [wR_ok]
      have e : opS A6 (.ref c) none (some ((6 : Nat) : Int)) = .ok (.ref A6.length) (A6 ++ [.lst (cutD ((vals k).map vD) none (some ((6 : Nat) : Int)))]) := by
        simp only [opS, seqL_of hc]
      rw [e, wR_ok, cut_to, ← List.map_take]
      exact ⟨rfl, rfl⟩)
    rw [e1, e2, e3]
  rw [wS_seq, wS_for, wR_wk, hsl, wR_ok, wk_lst new_at, wR_some]
  dsimp only
  have hL6 : (A6 ++ [AO.lst (((vals k).take 6).map vD)])[A6.length]? = some (.lst (((vals k).take 6).map vD)) := new_at
  have k7 : Kp A6 (A6 ++ [AO.lst (((vals k).take 6).map vD)]) := Kp.refl.app
  generalize A6.length = b6 at hL6
  generalize A6 ++ [AO.lst (((vals k).take 6).map vD)] = A7 at hL6 k7
  show wS (forL _ _ _ (((vals k).take 6).map vD) _ A7) _ _ _ _
  refine vloop (A0 := A7) hp (k7 _ _ (k6 _ _ ha)) hL6 ((vals k).take 6) A7 _ _ (fun v hv => mem_vals.mp (List.mem_of_mem_take hv)) .refl ?_
  intro A8 y9 y10 k8
  have k8 := k7.trans k8
  have hc := k8 _ _ hc
  have k8 := k6.trans k8
  show wS (sx _ N (.seq (.set 11 (.lst .nil)) (.seq (.set 12 (.lst .nil)) (.seq (.for (.nm 9) (.wk (.var 8)) fmB) t13))) _ A8) _ _ _ _
  rw [wS_seq, wS_set, wR_lst, wR_nil, wR_ifok (sz1 (by simp))]
  have ef : fset (LF s tp (wD w u) x3 (some (kD k)) (some (.ref a)) (some (pD q)) y7 (some (.ref c)) y9 y10 x11 x12 x13 x14 x15 x16 x17 x18) 11 (.ref A8.length) = LF s tp (wD w u) x3 (some (kD k)) (some (.ref a)) (some (pD q)) y7 (some (.ref c)) y9 y10 (some (.ref A8.length)) x12 x13 x14 x15 x16 x17 x18 := rfl
  rw [ef]
  have hf : (A8 ++ [AO.lst []])[A8.length]? = some (.lst (([] : List Nat).map iD)) := new_at
  have k9 : Kp A8 (A8 ++ [AO.lst []]) := Kp.refl.app
  generalize A8.length = f at hf
  generalize A8 ++ [AO.lst []] = A9 at hf k9
  rw [wS_seq, wS_set, wR_lst, wR_nil, wR_ifok (sz1 (by simp))]
  have ef : fset (LF s tp (wD w u) x3 (some (kD k)) (some (.ref a)) (some (pD q)) y7 (some (.ref c)) y9 y10 (some (.ref f)) x12 x13 x14 x15 x16 x17 x18) 12 (.ref A9.length) = LF s tp (wD w u) x3 (some (kD k)) (some (.ref a)) (some (pD q)) y7 (some (.ref c)) y9 y10 (some (.ref f)) (some (.ref A9.length)) x13 x14 x15 x16 x17 x18 := rfl
  rw [ef]
  have hm : (A9 ++ [AO.lst []])[A9.length]? = some (.lst (([] : List Vl).map vD)) := new_at
  have k10 : Kp A9 (A9 ++ [AO.lst []]) := Kp.refl.app
  generalize A9.length = m at hm
  generalize A9 ++ [AO.lst []] = A10 at hm k10
  have kA : Kp A3 A10 := k8.trans (k9.trans k10)
  have hc10 := k10 _ _ (k9 _ _ hc)
  have hvl := vals_len k
  rw [wS_seq, wS_for, wR_wk, wR_var (i := 8) (d := .ref c) rfl, wk_lst hc10, wR_some]
  dsimp only
  show wS (forL _ _ _ ((vals k).map vD) _ A10) _ _ _ _
  refine fmloop (A0 := A10) hp (kA _ _ ha) hc10 (vals k) [] [] f m A10 _ _ (by simp; omega) (by simp; omega) .refl (k10 _ _ hf) hm ?_
  intro A11 f' m' y9 y10 k11 hf' hm'
  have kB := kA.trans k11
  refine left_walk hk hp (kB _ _ hW) (kB _ _ ha) (k11 _ _ hc10) hf' hm' ?_
  intro A12 y13 y14 y15 k12
  exact h A12 _ _ _ _ _ _ _ _ _ _ _ _ (kB.trans k12)
theorem law_end (N : Nat) (ns : List Int) (h : ns.length ≤ 63) : ∃ A1, callF pg N 229 "law" [.frl (ns.map .int)] [] = .ok (.bl true) A1 := by
  have key : wR (callF pg N 229 "law" [.frl (ns.map .int)] []) (fun r A' => r = .bl true) := by
    rw [wR_call (fd := fn_28) rfl rfl]
    show wS (sx _ N (.seq (.set 1 (.call "_law_tape" (.cons (.var 0) .nil))) _) [some (.frl (ns.map .int)), none, none, none, none, none, none, none, none, none, none, none, none, none, none, none, none, none, none] []) _ _ _ _
    rw [wS_seq, wS_set, wR_cl, wR_cons, wR_v0, wR_nil]
    refine (tape_spec rfl h).mono ?_
    rintro r A ⟨tp, er, t⟩
    subst er
    show wS (sx _ N (.seq (.set 2 (.call "_law_world" .nil)) _) [some (.frl (ns.map .int)), some (.ref tp), none, none, none, none, none, none, none, none, none, none, none, none, none, none, none, none, none] A) _ _ _ _
    rw [wS_seq, wS_set, wR_cl, wR_nil, world_of, wR_ok]
    have hW : (A ++ [AO.dct W, .dct []])[A.length]? = some (.dct W) := by simp
    have t1 : TapeOk (A ++ [AO.dct W, .dct []]) tp := t.kp Kp.refl.app
    generalize A ++ [AO.dct W, .dct []] = A1 at hW t1
    generalize A.length + 1 = u
    generalize A.length = w at hW
    show wS (sx _ N (.seq (.for (.nm 3) (.rng (.cons (.int 3) .nil)) turnB) (.seq (.ret (.and (.cmp .eq (.call "left_out" (.cons (.var 2) (.cons (.lst .nil) (.cons (.tup (.cons (.str "data") (.cons (.str "shape") .nil))) .nil)))) (.tup (.cons (.str "any") .nil))) (.cmp .is (.call "left_out" (.cons (.var 2) (.cons (.lst (.cons (.tup (.cons (.str "any") .nil)) .nil)) (.cons (.tup (.cons (.str "data") (.cons (.str "shape") .nil))) .nil)))) .non))) .skip)) (LF (.frl (ns.map .int)) tp (wD w u) none none none none none none none none none none none none none none none none) A1) _ _ _ _
    have hr : wkRng [.int 3] = some ⟨rngD 0 3, [], none⟩ := by kernel_rfl
    rw [wS_seq, wS_for, wR_rng, wR_cons, wR_int, wR_nil, hr, wR_some]
    dsimp only
    show wS (forL (asgT (.nm 3)) [] _ (rngD 0 3) _ A1) _ _ _ _
    refine forL_ind (fun i F A' => Dr tp A1 A' ∧ ∃ x3 x4 x5 x6 x7 x8 x9 x10 x11 x12 x13 x14 x15 x16 x17 x18, F = LF (.frl (ns.map .int)) tp (wD w u) x3 x4 x5 x6 x7 x8 x9 x10 x11 x12 x13 x14 x15 x16 x17 x18) _ 0 _ _ ⟨.refl t1, none, none, none, none, none, none, none, none, none, none, none, none, none, none, none, none, rfl⟩ ?_ ?_
    · rintro j d F A' e ⟨dd, x3, x4, x5, x6, x7, x8, x9, x10, x11, x12, x13, x14, x15, x16, x17, x18, rfl⟩
      refine ⟨rfl, LF (.frl (ns.map .int)) tp (wD w u) (some d) x4 x5 x6 x7 x8 x9 x10 x11 x12 x13 x14 x15 x16 x17 x18, rfl, ?_⟩
      apply law_turn dd.tape (dd.kp _ _ (W_ne t1 hW) hW)
      intro A2 y4 y5 y6 y7 y8 y9 y10 y11 y12 y13 y14 y15 d2
      exact ⟨dd.trans d2, _, _, _, _, _, _, _, _, _, _, _, _, _, _, _, _, rfl⟩
    · rintro F A' ⟨dd, x3, x4, x5, x6, x7, x8, x9, x10, x11, x12, x13, x14, x15, x16, x17, x18, rfl⟩
      refine ⟨rfl, ?_⟩
      have hW := dd.kp _ _ (W_ne t1 hW) hW
      rw [wS_seq, wS_ret, wR_and, wR_cmp, wR_cl, wR_cons, wR_v2, wR_cons, wR_lst, wR_nil, wR_ifok (sz1 (by simp)), wR_cons]
      refine wR_eq (a := kD .shape) (A := A' ++ [.lst []]) (by kernel_rfl) ?_
      rw [wR_nil]
      have l0 : leftO 225 [] .shape = some .any := rfl
      have l1 : leftO 225 [.any] .shape = none := rfl
      refine (left_spec (N := N) (n := 225) (h := 3) (k := .shape) (ps := []) (app_at hW) (a := A'.length) new_at (by decide) (by decide) (by decide) (fun p hp => by cases hp)).mono fun r A2 ⟨er, k2⟩ => ?_
      rw [l0] at er
      subst er
      rw [wR_tup, wR_cons, wR_str, wR_nil, wR_ifok (sz1 (by simp))]
      have e1 : opC A2 .eq (optD (some .any)) (.tup [.str "any"]) = some true := by kernel_rfl
      rw [e1]
      show wR (ofO (some (D.bl true)) A2) _
      rw [wR_some, truth_bl, wR_some, if_pos rfl, wR_cmp, wR_cl, wR_cons, wR_v2, wR_cons, wR_lst, wR_cons]
      refine wR_eq (a := pD .any) (A := A2) (by kernel_rfl) ?_
      rw [wR_nil, wR_ifok (sz1 (by simp)), wR_cons]
      refine wR_eq (a := kD .shape) (A := A2 ++ [.lst [pD .any]]) (by kernel_rfl) ?_
      rw [wR_nil]
      have hW2 := k2 _ _ (app_at (J := [AO.lst []]) hW)
      refine (left_spec (N := N) (n := 225) (h := 3) (k := .shape) (ps := [.any]) (app_at hW2) (a := A2.length) new_at (by decide) (by decide) (by decide) (fun p hp => by rw [List.mem_singleton.mp hp]; simp [WT])).mono fun r A3 ⟨er, k3⟩ => ?_
      rw [l1] at er
      subst er
      rw [wR_non]
      show wR (ofO (some (D.bl true)) A3) _
      rw [wR_some]
  obtain ⟨a, A1, e, e2⟩ := eq_of_wR key
  exact ⟨A1, by rw [e, e2]⟩
end
end K26

/-! ## K26Head -/
namespace K26
abbrev ROOM : Nat := 231
abbrev CALLS : Nat := 229
abbrev TURNS : Nat := 1000
open PySem PySem.Spec PyProof.Rows L2
/-! ### the head: facts by names, the run -/
def top (i : Nat) : Stmt := PySem.Challenge.pw_effecthouse_k26_whole_patterns.main.body.getD i (.Pass ⟨0, 0, 0, 0⟩)
def inCls (s : Stmt) (j : Nat) : Stmt := match s with
  | .ClassDef _ _ _ b _ _ _ _ _ _ _ => b.getD j (.Pass ⟨0, 0, 0, 0⟩)
  | _ => .Pass ⟨0, 0, 0, 0⟩
abbrev st_4 : Stmt := top 4
def d_4 : He.DefD := ⟨("constructor", none), "constructor", "constructor", defArgs st_4, defBody st_4, defScope st_4, [], []⟩
abbrev st_5 : Stmt := top 5
def d_5 : He.DefD := ⟨("constructors", none), "constructors", "constructors", defArgs st_5, defBody st_5, defScope st_5, [], []⟩
abbrev st_8 : Stmt := top 8
def d_8 : He.DefD := ⟨("check_pattern", none), "check_pattern", "check_pattern", defArgs st_8, defBody st_8, defScope st_8, [], []⟩
abbrev st_9 : Stmt := top 9
def d_9 : He.DefD := ⟨("matched", none), "matched", "matched", defArgs st_9, defBody st_9, defScope st_9, [], []⟩
abbrev st_10 : Stmt := top 10
def d_10 : He.DefD := ⟨("first_match", none), "first_match", "first_match", defArgs st_10, defBody st_10, defScope st_10, [], []⟩
abbrev st_11 : Stmt := top 11
def d_11 : He.DefD := ⟨("opened", none), "opened", "opened", defArgs st_11, defBody st_11, defScope st_11, [], []⟩
abbrev st_12 : Stmt := top 12
def d_12 : He.DefD := ⟨("missing", none), "missing", "missing", defArgs st_12, defBody st_12, defScope st_12, [], []⟩
abbrev st_13 : Stmt := top 13
def d_13 : He.DefD := ⟨("left_out", none), "left_out", "left_out", defArgs st_13, defBody st_13, defScope st_13, [], []⟩
abbrev st_14 : Stmt := top 14
def d_14 : He.DefD := ⟨("is_useful", none), "is_useful", "is_useful", defArgs st_14, defBody st_14, defScope st_14, [], []⟩
abbrev st_15 : Stmt := top 15
def d_15 : He.DefD := ⟨("useless", none), "useless", "useless", defArgs st_15, defBody st_15, defScope st_15, [], []⟩
abbrev st_17 : Stmt := top 17
def d_17 : He.DefD := ⟨("_law_tape", none), "_law_tape", "_law_tape", defArgs st_17, defBody st_17, defScope st_17, [], []⟩
abbrev st_18 : Stmt := top 18
def d_18 : He.DefD := ⟨("_law_take", none), "_law_take", "_law_take", defArgs st_18, defBody st_18, defScope st_18, [], []⟩
abbrev st_19 : Stmt := top 19
def d_19 : He.DefD := ⟨("_law_is_integer", none), "_law_is_integer", "_law_is_integer", defArgs st_19, defBody st_19, defScope st_19, [], []⟩
abbrev st_20 : Stmt := top 20
def d_20 : He.DefD := ⟨("_law_same_items", none), "_law_same_items", "_law_same_items", defArgs st_20, defBody st_20, defScope st_20, [], []⟩
abbrev st_21 : Stmt := top 21
def d_21 : He.DefD := ⟨("_law_same", none), "_law_same", "_law_same", defArgs st_21, defBody st_21, defScope st_21, [], []⟩
abbrev st_22 : Stmt := top 22
def d_22 : He.DefD := ⟨("_law_world", none), "_law_world", "_law_world", defArgs st_22, defBody st_22, defScope st_22, [], []⟩
abbrev st_23 : Stmt := top 23
def d_23 : He.DefD := ⟨("_law_pattern", none), "_law_pattern", "_law_pattern", defArgs st_23, defBody st_23, defScope st_23, [], []⟩
abbrev st_24 : Stmt := top 24
def d_24 : He.DefD := ⟨("_law_values", none), "_law_values", "_law_values", defArgs st_24, defBody st_24, defScope st_24, [], []⟩
abbrev st_25 : Stmt := top 25
def d_25 : He.DefD := ⟨("_law_match", none), "_law_match", "_law_match", defArgs st_25, defBody st_25, defScope st_25, [], []⟩
abbrev st_26 : Stmt := top 26
def d_26 : He.DefD := ⟨("_law_names", none), "_law_names", "_law_names", defArgs st_26, defBody st_26, defScope st_26, [], []⟩
abbrev st_27 : Stmt := top 27
def d_27 : He.DefD := ⟨("_law_told", none), "_law_told", "_law_told", defArgs st_27, defBody st_27, defScope st_27, [], []⟩
abbrev st_28 : Stmt := top 28
def d_28 : He.DefD := ⟨("law", none), "law", "law", defArgs st_28, defBody st_28, defScope st_28, [], []⟩
def fn : List He.DefD := ([d_4, d_5, d_8, d_9, d_10, d_11, d_12, d_13, d_14, d_15, d_17, d_18, d_19, d_20, d_21, d_22, d_23, d_24, d_25, d_26, d_27, d_28] : List He.DefD)
def fa : List He.Fa := ([.glo "constructor", .glo "constructors", .glo "check_pattern", .glo "matched", .glo "first_match", .glo "opened", .glo "missing", .glo "left_out", .glo "is_useful", .glo "useless", .glo "_law_tape", .glo "_law_take", .glo "_law_is_integer", .glo "_law_same_items", .glo "_law_same", .glo "_law_world", .glo "_law_pattern", .glo "_law_values", .glo "_law_match", .glo "_law_names", .glo "_law_told", .glo "law", .free "len", .free "abs", .free "isinstance", .free "sum", .free "sorted", .free "max", .free "any", .free "all"] : List He.Fa) ++ ([.free "tuple", .free "list", .free "dict", .free "int", .free "enumerate", .free "zip", .free "range", .free "bool", .free "str", .glo "TypeProblem", .exm "TypeProblem" "TypeProblem" true, .free "super"] : List He.Fa)
abbrev R : PySem.W.OpenRow := PySem.W.OpenLaw.row PySem.Challenge.rw_effecthouse_k26_whole_patterns
def qP : Nat → Pos := fun n => match n with
  | 0 => ⟨6, 17, 6, 21⟩
  | 1 => ⟨6, 23, 6, 27⟩
  | 2 => ⟨6, 29, 6, 33⟩
  | 3 => ⟨7, 8, 7, 13⟩
  | 4 => ⟨7, 8, 7, 15⟩
  | 5 => ⟨7, 8, 7, 24⟩
  | 6 => ⟨7, 25, 7, 50⟩
  | 7 => ⟨7, 8, 7, 51⟩
  | 8 => ⟨7, 8, 7, 51⟩
  | 9 => ⟨8, 8, 8, 12⟩
  | 10 => ⟨8, 8, 8, 17⟩
  | 11 => ⟨8, 20, 8, 24⟩
  | 12 => ⟨8, 8, 8, 24⟩
  | 13 => ⟨9, 8, 9, 12⟩
  | 14 => ⟨9, 8, 9, 17⟩
  | 15 => ⟨9, 20, 9, 24⟩
  | 16 => ⟨9, 8, 9, 24⟩
  | _ => ⟨0, 0, 0, 0⟩
def msgP : Str := "the program has no type"
def cts : List (String × List Ev.D) := [("ANY", [.str "any"])]
def fileP : Str := PySem.Challenge.pw_effecthouse_k26_whole_patterns.main.file
abbrev hk : PySem.W.Hook := Ev.hookE 4 fa fn fileP cts (Ev.prVal qP msgP)
def ob (s : PySem.W.SharedT) : Ev.AlE := Ev.obsE 4 fa fn fileP cts (HandSHeadRun.getT s)
theorem ob_eq (s : PySem.W.SharedT) : ob s = hk.obs s.abs := Ev.obsE_eq (HandSHeadRun.getT_eq s)
def loose : List PySem.Str := (["HouseError", "TypeProblem", "constructor", "constructors", "ANY", "check_pattern", "matched", "first_match", "opened", "missing", "left_out", "is_useful", "useless", "_law_tape", "_law_take", "_law_is_integer", "_law_same_items", "_law_same", "_law_world", "_law_pattern", "_law_values", "_law_match", "_law_names", "_law_told"] : List PySem.Str)
theorem run (w : World) : HandSHeadRun.RunEq R (PySem.W.view R.prog [28]) hk ob 3000 loose w := by
  intro os
  kernel_rfl
/-! ### each def is the evaluator's -/
def tb : Ev.Tb := { fns := (["constructor", "constructors", "check_pattern", "matched", "first_match", "opened", "missing", "left_out", "is_useful", "useless", "_law_tape", "_law_take", "_law_is_integer", "_law_same_items", "_law_same", "_law_world", "_law_pattern", "_law_values", "_law_match", "_law_names", "_law_told", "law"] : List String), csts := [("ANY", .tup [.str "any"])], flds := [], mks := [], meths := [], xos := [], xcs := ["TypeProblem"], xpb := true }
section
variable {K : PySem.W.Frag} {h : Heap} {mg : Str → Option Value}
def t_4 : Ev.FT := ⟨"constructor", 2, ns_4, d_4, none⟩
theorem b_4 : Ev.rowB pg (if Ev.isInit t_4 then tb.leaf else tb) t_4 = true := by decide +kernel
theorem ro_4 (X : K.In h) (G : h.Ns mainGlobals mg) (c : He.SaysD fa fn K) : Ev.RowOk K mg pg tb t_4 := by
  obtain ⟨fd, F⟩ := c.def_ 0 (d := d_4) rfl
  exact ⟨⟨_, fd, _, _, He.glo_ok X G (c.fact 0 (f := .glo "constructor") rfl), F, F.bindsN fun _ _ _ _ _ _ us hl => match us, hl with | [_, _], _ => rfl⟩, ⟨rfl, rfl, rfl, by decide +kernel, rfl, by decide +kernel, by decide +kernel⟩, b_4⟩
def t_5 : Ev.FT := ⟨"constructors", 2, ns_5, d_5, none⟩
theorem b_5 : Ev.rowB pg (if Ev.isInit t_5 then tb.leaf else tb) t_5 = true := by decide +kernel
theorem ro_5 (X : K.In h) (G : h.Ns mainGlobals mg) (c : He.SaysD fa fn K) : Ev.RowOk K mg pg tb t_5 := by
  obtain ⟨fd, F⟩ := c.def_ 1 (d := d_5) rfl
  exact ⟨⟨_, fd, _, _, He.glo_ok X G (c.fact 1 (f := .glo "constructors") rfl), F, F.bindsN fun _ _ _ _ _ _ us hl => match us, hl with | [_, _], _ => rfl⟩, ⟨rfl, rfl, rfl, by decide +kernel, rfl, by decide +kernel, by decide +kernel⟩, b_5⟩
def t_8 : Ev.FT := ⟨"check_pattern", 4, ns_8, d_8, none⟩
theorem b_8 : Ev.rowB pg (if Ev.isInit t_8 then tb.leaf else tb) t_8 = true := by decide +kernel
theorem ro_8 (X : K.In h) (G : h.Ns mainGlobals mg) (c : He.SaysD fa fn K) : Ev.RowOk K mg pg tb t_8 := by
  obtain ⟨fd, F⟩ := c.def_ 2 (d := d_8) rfl
  exact ⟨⟨_, fd, _, _, He.glo_ok X G (c.fact 2 (f := .glo "check_pattern") rfl), F, F.bindsN fun _ _ _ _ _ _ us hl => match us, hl with | [_, _, _, _], _ => rfl⟩, ⟨rfl, rfl, rfl, by decide +kernel, rfl, by decide +kernel, by decide +kernel⟩, b_8⟩
def t_9 : Ev.FT := ⟨"matched", 2, ns_9, d_9, none⟩
theorem b_9 : Ev.rowB pg (if Ev.isInit t_9 then tb.leaf else tb) t_9 = true := by decide +kernel
theorem ro_9 (X : K.In h) (G : h.Ns mainGlobals mg) (c : He.SaysD fa fn K) : Ev.RowOk K mg pg tb t_9 := by
  obtain ⟨fd, F⟩ := c.def_ 3 (d := d_9) rfl
  exact ⟨⟨_, fd, _, _, He.glo_ok X G (c.fact 3 (f := .glo "matched") rfl), F, F.bindsN fun _ _ _ _ _ _ us hl => match us, hl with | [_, _], _ => rfl⟩, ⟨rfl, rfl, rfl, by decide +kernel, rfl, by decide +kernel, by decide +kernel⟩, b_9⟩
def t_10 : Ev.FT := ⟨"first_match", 2, ns_10, d_10, none⟩
theorem b_10 : Ev.rowB pg (if Ev.isInit t_10 then tb.leaf else tb) t_10 = true := by decide +kernel
theorem ro_10 (X : K.In h) (G : h.Ns mainGlobals mg) (c : He.SaysD fa fn K) : Ev.RowOk K mg pg tb t_10 := by
  obtain ⟨fd, F⟩ := c.def_ 4 (d := d_10) rfl
  exact ⟨⟨_, fd, _, _, He.glo_ok X G (c.fact 4 (f := .glo "first_match") rfl), F, F.bindsN fun _ _ _ _ _ _ us hl => match us, hl with | [_, _], _ => rfl⟩, ⟨rfl, rfl, rfl, by decide +kernel, rfl, by decide +kernel, by decide +kernel⟩, b_10⟩
def t_11 : Ev.FT := ⟨"opened", 3, ns_11, d_11, none⟩
theorem b_11 : Ev.rowB pg (if Ev.isInit t_11 then tb.leaf else tb) t_11 = true := by decide +kernel
theorem ro_11 (X : K.In h) (G : h.Ns mainGlobals mg) (c : He.SaysD fa fn K) : Ev.RowOk K mg pg tb t_11 := by
  obtain ⟨fd, F⟩ := c.def_ 5 (d := d_11) rfl
  exact ⟨⟨_, fd, _, _, He.glo_ok X G (c.fact 5 (f := .glo "opened") rfl), F, F.bindsN fun _ _ _ _ _ _ us hl => match us, hl with | [_, _, _], _ => rfl⟩, ⟨rfl, rfl, rfl, by decide +kernel, rfl, by decide +kernel, by decide +kernel⟩, b_11⟩
def t_12 : Ev.FT := ⟨"missing", 3, ns_12, d_12, none⟩
theorem b_12 : Ev.rowB pg (if Ev.isInit t_12 then tb.leaf else tb) t_12 = true := by decide +kernel
theorem ro_12 (X : K.In h) (G : h.Ns mainGlobals mg) (c : He.SaysD fa fn K) : Ev.RowOk K mg pg tb t_12 := by
  obtain ⟨fd, F⟩ := c.def_ 6 (d := d_12) rfl
  exact ⟨⟨_, fd, _, _, He.glo_ok X G (c.fact 6 (f := .glo "missing") rfl), F, F.bindsN fun _ _ _ _ _ _ us hl => match us, hl with | [_, _, _], _ => rfl⟩, ⟨rfl, rfl, rfl, by decide +kernel, rfl, by decide +kernel, by decide +kernel⟩, b_12⟩
def t_13 : Ev.FT := ⟨"left_out", 3, ns_13, d_13, none⟩
theorem b_13 : Ev.rowB pg (if Ev.isInit t_13 then tb.leaf else tb) t_13 = true := by decide +kernel
theorem ro_13 (X : K.In h) (G : h.Ns mainGlobals mg) (c : He.SaysD fa fn K) : Ev.RowOk K mg pg tb t_13 := by
  obtain ⟨fd, F⟩ := c.def_ 7 (d := d_13) rfl
  exact ⟨⟨_, fd, _, _, He.glo_ok X G (c.fact 7 (f := .glo "left_out") rfl), F, F.bindsN fun _ _ _ _ _ _ us hl => match us, hl with | [_, _, _], _ => rfl⟩, ⟨rfl, rfl, rfl, by decide +kernel, rfl, by decide +kernel, by decide +kernel⟩, b_13⟩
def t_14 : Ev.FT := ⟨"is_useful", 4, ns_14, d_14, none⟩
theorem b_14 : Ev.rowB pg (if Ev.isInit t_14 then tb.leaf else tb) t_14 = true := by decide +kernel
theorem ro_14 (X : K.In h) (G : h.Ns mainGlobals mg) (c : He.SaysD fa fn K) : Ev.RowOk K mg pg tb t_14 := by
  obtain ⟨fd, F⟩ := c.def_ 8 (d := d_14) rfl
  exact ⟨⟨_, fd, _, _, He.glo_ok X G (c.fact 8 (f := .glo "is_useful") rfl), F, F.bindsN fun _ _ _ _ _ _ us hl => match us, hl with | [_, _, _, _], _ => rfl⟩, ⟨rfl, rfl, rfl, by decide +kernel, rfl, by decide +kernel, by decide +kernel⟩, b_14⟩
def t_15 : Ev.FT := ⟨"useless", 3, ns_15, d_15, none⟩
theorem b_15 : Ev.rowB pg (if Ev.isInit t_15 then tb.leaf else tb) t_15 = true := by decide +kernel
theorem ro_15 (X : K.In h) (G : h.Ns mainGlobals mg) (c : He.SaysD fa fn K) : Ev.RowOk K mg pg tb t_15 := by
  obtain ⟨fd, F⟩ := c.def_ 9 (d := d_15) rfl
  exact ⟨⟨_, fd, _, _, He.glo_ok X G (c.fact 9 (f := .glo "useless") rfl), F, F.bindsN fun _ _ _ _ _ _ us hl => match us, hl with | [_, _, _], _ => rfl⟩, ⟨rfl, rfl, rfl, by decide +kernel, rfl, by decide +kernel, by decide +kernel⟩, b_15⟩
def t_17 : Ev.FT := ⟨"_law_tape", 1, ns_17, d_17, none⟩
theorem b_17 : Ev.rowB pg (if Ev.isInit t_17 then tb.leaf else tb) t_17 = true := by decide +kernel
theorem ro_17 (X : K.In h) (G : h.Ns mainGlobals mg) (c : He.SaysD fa fn K) : Ev.RowOk K mg pg tb t_17 := by
  obtain ⟨fd, F⟩ := c.def_ 10 (d := d_17) rfl
  exact ⟨⟨_, fd, _, _, He.glo_ok X G (c.fact 10 (f := .glo "_law_tape") rfl), F, F.bindsN fun _ _ _ _ _ _ us hl => match us, hl with | [_], _ => rfl⟩, ⟨rfl, rfl, rfl, by decide +kernel, rfl, by decide +kernel, by decide +kernel⟩, b_17⟩
def t_18 : Ev.FT := ⟨"_law_take", 2, ns_18, d_18, none⟩
theorem b_18 : Ev.rowB pg (if Ev.isInit t_18 then tb.leaf else tb) t_18 = true := by decide +kernel
theorem ro_18 (X : K.In h) (G : h.Ns mainGlobals mg) (c : He.SaysD fa fn K) : Ev.RowOk K mg pg tb t_18 := by
  obtain ⟨fd, F⟩ := c.def_ 11 (d := d_18) rfl
  exact ⟨⟨_, fd, _, _, He.glo_ok X G (c.fact 11 (f := .glo "_law_take") rfl), F, F.bindsN fun _ _ _ _ _ _ us hl => match us, hl with | [_, _], _ => rfl⟩, ⟨rfl, rfl, rfl, by decide +kernel, rfl, by decide +kernel, by decide +kernel⟩, b_18⟩
def t_19 : Ev.FT := ⟨"_law_is_integer", 1, ns_19, d_19, none⟩
theorem b_19 : Ev.rowB pg (if Ev.isInit t_19 then tb.leaf else tb) t_19 = true := by decide +kernel
theorem ro_19 (X : K.In h) (G : h.Ns mainGlobals mg) (c : He.SaysD fa fn K) : Ev.RowOk K mg pg tb t_19 := by
  obtain ⟨fd, F⟩ := c.def_ 12 (d := d_19) rfl
  exact ⟨⟨_, fd, _, _, He.glo_ok X G (c.fact 12 (f := .glo "_law_is_integer") rfl), F, F.bindsN fun _ _ _ _ _ _ us hl => match us, hl with | [_], _ => rfl⟩, ⟨rfl, rfl, rfl, by decide +kernel, rfl, by decide +kernel, by decide +kernel⟩, b_19⟩
def t_20 : Ev.FT := ⟨"_law_same_items", 2, ns_20, d_20, none⟩
theorem b_20 : Ev.rowB pg (if Ev.isInit t_20 then tb.leaf else tb) t_20 = true := by decide +kernel
theorem ro_20 (X : K.In h) (G : h.Ns mainGlobals mg) (c : He.SaysD fa fn K) : Ev.RowOk K mg pg tb t_20 := by
  obtain ⟨fd, F⟩ := c.def_ 13 (d := d_20) rfl
  exact ⟨⟨_, fd, _, _, He.glo_ok X G (c.fact 13 (f := .glo "_law_same_items") rfl), F, F.bindsN fun _ _ _ _ _ _ us hl => match us, hl with | [_, _], _ => rfl⟩, ⟨rfl, rfl, rfl, by decide +kernel, rfl, by decide +kernel, by decide +kernel⟩, b_20⟩
def t_21 : Ev.FT := ⟨"_law_same", 2, ns_21, d_21, none⟩
theorem b_21 : Ev.rowB pg (if Ev.isInit t_21 then tb.leaf else tb) t_21 = true := by decide +kernel
theorem ro_21 (X : K.In h) (G : h.Ns mainGlobals mg) (c : He.SaysD fa fn K) : Ev.RowOk K mg pg tb t_21 := by
  obtain ⟨fd, F⟩ := c.def_ 14 (d := d_21) rfl
  exact ⟨⟨_, fd, _, _, He.glo_ok X G (c.fact 14 (f := .glo "_law_same") rfl), F, F.bindsN fun _ _ _ _ _ _ us hl => match us, hl with | [_, _], _ => rfl⟩, ⟨rfl, rfl, rfl, by decide +kernel, rfl, by decide +kernel, by decide +kernel⟩, b_21⟩
def t_22 : Ev.FT := ⟨"_law_world", 0, ns_22, d_22, none⟩
theorem b_22 : Ev.rowB pg (if Ev.isInit t_22 then tb.leaf else tb) t_22 = true := by decide +kernel
theorem ro_22 (X : K.In h) (G : h.Ns mainGlobals mg) (c : He.SaysD fa fn K) : Ev.RowOk K mg pg tb t_22 := by
  obtain ⟨fd, F⟩ := c.def_ 15 (d := d_22) rfl
  exact ⟨⟨_, fd, _, _, He.glo_ok X G (c.fact 15 (f := .glo "_law_world") rfl), F, F.bindsN fun _ _ _ _ _ _ us hl => match us, hl with | [], _ => rfl⟩, ⟨rfl, rfl, rfl, by decide +kernel, rfl, by decide +kernel, by decide +kernel⟩, b_22⟩
def t_23 : Ev.FT := ⟨"_law_pattern", 3, ns_23, d_23, none⟩
theorem b_23 : Ev.rowB pg (if Ev.isInit t_23 then tb.leaf else tb) t_23 = true := by decide +kernel
theorem ro_23 (X : K.In h) (G : h.Ns mainGlobals mg) (c : He.SaysD fa fn K) : Ev.RowOk K mg pg tb t_23 := by
  obtain ⟨fd, F⟩ := c.def_ 16 (d := d_23) rfl
  exact ⟨⟨_, fd, _, _, He.glo_ok X G (c.fact 16 (f := .glo "_law_pattern") rfl), F, F.bindsN fun _ _ _ _ _ _ us hl => match us, hl with | [_, _, _], _ => rfl⟩, ⟨rfl, rfl, rfl, by decide +kernel, rfl, by decide +kernel, by decide +kernel⟩, b_23⟩
def t_24 : Ev.FT := ⟨"_law_values", 2, ns_24, d_24, none⟩
theorem b_24 : Ev.rowB pg (if Ev.isInit t_24 then tb.leaf else tb) t_24 = true := by decide +kernel
theorem ro_24 (X : K.In h) (G : h.Ns mainGlobals mg) (c : He.SaysD fa fn K) : Ev.RowOk K mg pg tb t_24 := by
  obtain ⟨fd, F⟩ := c.def_ 17 (d := d_24) rfl
  exact ⟨⟨_, fd, _, _, He.glo_ok X G (c.fact 17 (f := .glo "_law_values") rfl), F, F.bindsN fun _ _ _ _ _ _ us hl => match us, hl with | [_, _], _ => rfl⟩, ⟨rfl, rfl, rfl, by decide +kernel, rfl, by decide +kernel, by decide +kernel⟩, b_24⟩
def t_25 : Ev.FT := ⟨"_law_match", 2, ns_25, d_25, none⟩
theorem b_25 : Ev.rowB pg (if Ev.isInit t_25 then tb.leaf else tb) t_25 = true := by decide +kernel
theorem ro_25 (X : K.In h) (G : h.Ns mainGlobals mg) (c : He.SaysD fa fn K) : Ev.RowOk K mg pg tb t_25 := by
  obtain ⟨fd, F⟩ := c.def_ 18 (d := d_25) rfl
  exact ⟨⟨_, fd, _, _, He.glo_ok X G (c.fact 18 (f := .glo "_law_match") rfl), F, F.bindsN fun _ _ _ _ _ _ us hl => match us, hl with | [_, _], _ => rfl⟩, ⟨rfl, rfl, rfl, by decide +kernel, rfl, by decide +kernel, by decide +kernel⟩, b_25⟩
def t_26 : Ev.FT := ⟨"_law_names", 3, ns_26, d_26, none⟩
theorem b_26 : Ev.rowB pg (if Ev.isInit t_26 then tb.leaf else tb) t_26 = true := by decide +kernel
theorem ro_26 (X : K.In h) (G : h.Ns mainGlobals mg) (c : He.SaysD fa fn K) : Ev.RowOk K mg pg tb t_26 := by
  obtain ⟨fd, F⟩ := c.def_ 19 (d := d_26) rfl
  exact ⟨⟨_, fd, _, _, He.glo_ok X G (c.fact 19 (f := .glo "_law_names") rfl), F, F.bindsN fun _ _ _ _ _ _ us hl => match us, hl with | [_, _, _], _ => rfl⟩, ⟨rfl, rfl, rfl, by decide +kernel, rfl, by decide +kernel, by decide +kernel⟩, b_26⟩
def t_27 : Ev.FT := ⟨"_law_told", 2, ns_27, d_27, none⟩
theorem b_27 : Ev.rowB pg (if Ev.isInit t_27 then tb.leaf else tb) t_27 = true := by decide +kernel
theorem ro_27 (X : K.In h) (G : h.Ns mainGlobals mg) (c : He.SaysD fa fn K) : Ev.RowOk K mg pg tb t_27 := by
  obtain ⟨fd, F⟩ := c.def_ 20 (d := d_27) rfl
  exact ⟨⟨_, fd, _, _, He.glo_ok X G (c.fact 20 (f := .glo "_law_told") rfl), F, F.bindsN fun _ _ _ _ _ _ us hl => match us, hl with | [_, _], _ => rfl⟩, ⟨rfl, rfl, rfl, by decide +kernel, rfl, by decide +kernel, by decide +kernel⟩, b_27⟩
def t_28 : Ev.FT := ⟨"law", 1, ns_28, d_28, none⟩
theorem b_28 : Ev.rowB pg (if Ev.isInit t_28 then tb.leaf else tb) t_28 = true := by decide +kernel
theorem ro_28 (X : K.In h) (G : h.Ns mainGlobals mg) (c : He.SaysD fa fn K) : Ev.RowOk K mg pg tb t_28 := by
  obtain ⟨fd, F⟩ := c.def_ 21 (d := d_28) rfl
  exact ⟨⟨_, fd, _, _, He.glo_ok X G (c.fact 21 (f := .glo "law") rfl), F, F.bindsN fun _ _ _ _ _ _ us hl => match us, hl with | [_], _ => rfl⟩, ⟨rfl, rfl, rfl, by decide +kernel, rfl, by decide +kernel, by decide +kernel⟩, b_28⟩
def rows : List Ev.FT := ([t_4, t_5, t_8, t_9, t_10, t_11, t_12, t_13, t_14, t_15, t_17, t_18, t_19, t_20, t_21, t_22, t_23, t_24, t_25, t_26, t_27, t_28] : List Ev.FT)
theorem ro (X : K.In h) (G : h.Ns mainGlobals mg) (c : He.SaysD fa fn K) : ∀ t ∈ rows, Ev.RowOk K mg pg tb t := by
  intro t ht
  simp only [rows, List.mem_append, List.mem_cons, List.not_mem_nil, or_false, or_assoc] at ht
  rcases ht with ht | ht | ht | ht | ht | ht | ht | ht | ht | ht | ht | ht | ht | ht | ht | ht | ht | ht | ht | ht | ht | ht
  · subst ht; exact ro_4 X G c
  · subst ht; exact ro_5 X G c
  · subst ht; exact ro_8 X G c
  · subst ht; exact ro_9 X G c
  · subst ht; exact ro_10 X G c
  · subst ht; exact ro_11 X G c
  · subst ht; exact ro_12 X G c
  · subst ht; exact ro_13 X G c
  · subst ht; exact ro_14 X G c
  · subst ht; exact ro_15 X G c
  · subst ht; exact ro_17 X G c
  · subst ht; exact ro_18 X G c
  · subst ht; exact ro_19 X G c
  · subst ht; exact ro_20 X G c
  · subst ht; exact ro_21 X G c
  · subst ht; exact ro_22 X G c
  · subst ht; exact ro_23 X G c
  · subst ht; exact ro_24 X G c
  · subst ht; exact ro_25 X G c
  · subst ht; exact ro_26 X G c
  · subst ht; exact ro_27 X G c
  · subst ht; exact ro_28 X G c
theorem bn (X : K.In h) (G : h.Ns mainGlobals mg) (c : He.SaysD fa fn K) : ∀ x ∈ Ev.biNames ++ Ev.tyBi ++ ["enumerate", "zip", "range"] ++ Ev.tyNames, mg (Str.ofString x) = none := by
  intro x hx
  have hx : x = "len" ∨ x = "abs" ∨ x = "isinstance" ∨ x = "sum" ∨ x = "sorted" ∨ x = "max" ∨ x = "any" ∨ x = "all" ∨ x = "tuple" ∨ x = "list" ∨ x = "dict" ∨ x = "int" ∨ x = "enumerate" ∨ x = "zip" ∨ x = "range" ∨ x = "bool" ∨ x = "int" ∨ x = "str" ∨ x = "tuple" ∨ x = "list" ∨ x = "dict" := by simpa [Ev.biNames, Ev.tyBi, Ev.tyNames] using hx
  rcases hx with rfl | rfl | rfl | rfl | rfl | rfl | rfl | rfl | rfl | rfl | rfl | rfl | rfl | rfl | rfl | rfl | rfl | rfl | rfl | rfl | rfl
  · exact He.free_ok X G (c.fact 22 (f := .free "len") rfl)
  · exact He.free_ok X G (c.fact 23 (f := .free "abs") rfl)
  · exact He.free_ok X G (c.fact 24 (f := .free "isinstance") rfl)
  · exact He.free_ok X G (c.fact 25 (f := .free "sum") rfl)
  · exact He.free_ok X G (c.fact 26 (f := .free "sorted") rfl)
  · exact He.free_ok X G (c.fact 27 (f := .free "max") rfl)
  · exact He.free_ok X G (c.fact 28 (f := .free "any") rfl)
  · exact He.free_ok X G (c.fact 29 (f := .free "all") rfl)
  · exact He.free_ok X G (c.fact 30 (f := .free "tuple") rfl)
  · exact He.free_ok X G (c.fact 31 (f := .free "list") rfl)
  · exact He.free_ok X G (c.fact 32 (f := .free "dict") rfl)
  · exact He.free_ok X G (c.fact 33 (f := .free "int") rfl)
  · exact He.free_ok X G (c.fact 34 (f := .free "enumerate") rfl)
  · exact He.free_ok X G (c.fact 35 (f := .free "zip") rfl)
  · exact He.free_ok X G (c.fact 36 (f := .free "range") rfl)
  · exact He.free_ok X G (c.fact 37 (f := .free "bool") rfl)
  · exact He.free_ok X G (c.fact 33 (f := .free "int") rfl)
  · exact He.free_ok X G (c.fact 38 (f := .free "str") rfl)
  · exact He.free_ok X G (c.fact 30 (f := .free "tuple") rfl)
  · exact He.free_ok X G (c.fact 31 (f := .free "list") rfl)
  · exact He.free_ok X G (c.fact 32 (f := .free "dict") rfl)
theorem ho : Ev.TbOk rows tb := Ev.tbOk_by (by decide +kernel)
theorem hcs (X : K.In h) (G : h.Ns mainGlobals mg) (c : He.SaysD fa fn K) (pc : ∀ p ∈ cts, Ev.ctB K p = true) : ∀ p ∈ tb.csts, ∃ v u, mg (Str.ofString p.1) = some u ∧ RelV v u ∧ ∀ φ H, Ev.Rep ⟨K, mg⟩ φ H p.2 v := by
  intro p hp
  simp only [tb, List.mem_cons, List.not_mem_nil, or_false] at hp
  rcases hp with rfl
  · exact Ev.ct_ok X G (pc ("ANY", [.str "any"]) (by decide))
theorem htb {P : Program} (X : K.In h) (G : h.Ns mainGlobals mg) (c : He.SaysD fa fn K) (hp : ∃ C fI, PySem.ProbX.ProbTxt P K mg C fI) : Ev.TabOk P K mg tb.flds tb.xos tb.xcs tb.xpb := by
  refine ⟨?_, ?_, ?_, ?_⟩
  · intro p hp; cases hp
  · intro p hp; cases hp
  · intro x hx y hy
    simp only [tb, List.mem_cons, List.not_mem_nil, or_false] at hx hy
    rcases hx with rfl <;> rcases hy with rfl
    · exact ⟨_, _, He.glo_ok X G (c.fact 39 (f := .glo "TypeProblem") rfl), He.glo_ok X G (c.fact 39 (f := .glo "TypeProblem") rfl), He.exm_ok (c.fact 40 (f := .exm "TypeProblem" "TypeProblem" true) rfl)⟩
  · exact fun _ => hp
theorem facts {P : Program} {w : World} {f : Addr} (X : K.In h) (G : h.Ns mainGlobals mg) (hfa : mg ("law" : Str) = some (.ref f)) (c : He.SaysD fa fn K) (hp : ∃ C fI, PySem.ProbX.ProbTxt P K mg C fI) (pc : ∀ p ∈ cts, Ev.ctB K p = true) :
    ∃ fd : FuncData, (∀ (s : Shared) (v : Value), BindsTo s fd ⟨[v], []⟩ [("script", v)]) ∧ ∀ base : Heap, K.In base → base.Ns mainGlobals mg → FnOk P w K mg base (Ev.CXw P) ROOM f fd ["script"] (Ev.spEv ⟨K, mg⟩ (Ev.callF pg TURNS CALLS) "law") := by
  obtain ⟨fd, F⟩ := c.def_ 21 (d := d_28) rfl
  have e := hfa.symm.trans (He.glo_ok X G (c.fact 21 (f := .glo "law") rfl))
  cases e
  have b := FunD.bindsA (ps := ["script"]) F fun _ _ _ _ _ _ us hl => match us, hl with | [_], _ => rfl
  refine ⟨fd, fun s v => b s [v] rfl, fun base _ _ => ?_⟩
  have fb : Ev.FreeB mg := fun t ht => bn X G c t (List.mem_append_right _ ht)
  have hbn := fun x hx => bn X G c x (List.mem_append_left Ev.tyNames hx)
  exact Ev.cxw_of (Ev.fn_law (t := t_28) (k := CALLS + 1) fb hbn (hcs X G c pc) (htb X G c hp) (fun A hr => Ev.fns_ok (rows := rows) fb hbn (hcs X G c pc) (htb X G c hp) ho (ro X G c) _ A hr) F (ro_28 X G c).S b_28)
end
def endLaw (ns : List Int) : Prop := ∃ A1, Ev.callF pg TURNS CALLS "law" [.frl (ns.map .int)] [] = .ok (.bl true) A1
theorem law_pure (ns : List Int) (h : ns.length ≤ 63) : endLaw ns := law_end TURNS ns h
end K26
open PySem PySem.W PySem.Calls PyProof.Rows
theorem PySem.Challenge.cw_effecthouse_k26_whole_patterns_holds : PySem.Challenge.rw_effecthouse_k26_whole_patterns.Holds := by
  w_on; o_law
  refine HandSHeadRun.head_any (r := OpenLaw.row PySem.Challenge.rw_effecthouse_k26_whole_patterns) (q := view (OpenLaw.row PySem.Challenge.rw_effecthouse_k26_whole_patterns).prog [28]) (H := K26.hk) (ob := K26.ob) (M := 3000) (loose := K26.loose) (d := HandSHeadRun.topDef (OpenLaw.row PySem.Challenge.rw_effecthouse_k26_whole_patterns).prog 28) (kwd := []) K26.ob_eq
    (by kernel_rfl) (fun s => by kernel_rfl) K26.run (by kernel_rfl) (by kernel_rfl) (by kernel_rfl) (by rfl) (by first | assumption | decide +kernel) (by decide +kernel) ⟨rfl, rfl, rfl, rfl, rfl, by decide +kernel⟩ ?hw ?hc
  case hw => w_witness2
  case hc =>
    refine L2.walk_ofE (l := PySem.Challenge.rw_effecthouse_k26_whole_patterns) (n := 63) (k := K26.ROOM) (x := "script") (CX := Ev.CXw (PySem.Challenge.rw_effecthouse_k26_whole_patterns).prog) rfl (by decide) (by kernel_rfl) ⟨rfl, by decide, by decide⟩ ?F ?G
    case G => exact fun H s e s' z => Ev.noex z
    intro w mg fa h Y G hmg0
    obtain ⟨K, KX, c, pb, pv⟩ := Y
    have hmg : mg ("law" : PySem.Str) = some (.ref fa) := by
      have e : (HandSHeadRun.topDef (OpenLaw.row PySem.Challenge.rw_effecthouse_k26_whole_patterns).prog 28).name = ("law" : PySem.Str) := by kernel_rfl
      rw [← e]
      exact hmg0
    obtain ⟨fd, hb, hF⟩ := K26.facts (P := (PySem.Challenge.rw_effecthouse_k26_whole_patterns).prog) (w := w) KX G hmg c ⟨_, _, Ev.prob_of KX G (c.fact 39 (f := .glo "TypeProblem") rfl) (c.fact 41 (f := .free "super") rfl) (Ev.ex_pr pb) pv (by decide +kernel) (by kernel_rfl)⟩ (fun p hp => Ev.ex_ct pb hp)
    exact ⟨K, fd, _, KX, hb, fun H a ns hl hO hS => Ev.law_of (t := K26.t_28) (pg := K26.pg) (NN := K26.TURNS) (n := K26.CALLS) hO hS (K26.law_pure ns hl), hF⟩

