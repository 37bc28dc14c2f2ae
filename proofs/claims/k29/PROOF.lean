import PyProof.Rows.All
import Wide.All
import OpenK.AllK
import Wide.FinOn
import HandS.List
import HandS.Base
import HandS.Call
import HandS.Exc
import HandS.CallSlots
import HandS.Defaults
import KE.KExcSuper
import HandS.ExcInit
import HandS.Comp
import HandS.Dict
import HandS.Iter
import HandS.TupAny
import HandS.IsInst
import HandS.More
import HandS.Flow
import KE.KEqDict
import HandS.DictComp
import KE.GoesMore
import KE.GoesZip
import KE.GoesEnum
import HandS.Style
import HandS.TryOnly
import HandS.ExcOwn
import HandS.HeadEnd
import HandS.HeadHook2
import KE.KStateDown
import HandS.Ends
import HandS.Words
import HandS.WordsExc
import HandS.Head0
import HandS.Head1
import HandS.Head2
import HandS.HeadHook1
import PySem.Challenge.RW_effecthouse_k29_whole_secrets
set_option Elab.async false
set_option linter.all false
set_option maxRecDepth 100000
set_option maxHeartbeats 4000000
/-! ## EvCore -/
/-! EvCore: values, heaps, terms, the evaluator. -/
namespace Ev
open PySem

/-- values: tuples are trees; frl: a list that is only read (the script); ref: an object of the evaluator's own heap; gl: what a module's name stands for -/
inductive D where
  | non | bl (b : Bool) | int (i : Int) | str (s : String) | tup (xs : List D) | frl (xs : List D) | ref (n : Nat) | gl (x : String)
  deriving Inhabited

mutual
def D.beq : D → D → Bool
  | .non, .non => true
  | .bl a, .bl b => a == b
  | .int a, .int b => a == b
  | .str a, .str b => a == b
  | .tup xs, .tup ys => D.beqs xs ys
  | .frl xs, .frl ys => D.beqs xs ys
  | .ref a, .ref b => a == b
  | .gl a, .gl b => a == b
  | _, _ => false
def D.beqs : List D → List D → Bool
  | [], [] => true
  | a :: r, b :: s => D.beq a b && D.beqs r s
  | _, _ => false
end
mutual
theorem D.beq_eq : ∀ a b : D, D.beq a b = true → a = b
  | .non, b, h => by cases b <;> simp_all [D.beq]
  | .bl a, b, h => by cases b <;> simp_all [D.beq]
  | .int a, b, h => by cases b <;> simp_all [D.beq]
  | .str a, b, h => by cases b <;> simp_all [D.beq]
  | .tup xs, b, h => by
    cases b with
    | tup ys => rw [D.beqs_eq xs ys (by simpa [D.beq] using h)]
    | _ => simp [D.beq] at h
  | .frl xs, b, h => by
    cases b with
    | frl ys => rw [D.beqs_eq xs ys (by simpa [D.beq] using h)]
    | _ => simp [D.beq] at h
  | .ref a, b, h => by cases b <;> simp_all [D.beq]
  | .gl a, b, h => by cases b <;> simp_all [D.beq]
theorem D.beqs_eq : ∀ a b : List D, D.beqs a b = true → a = b
  | [], b, h => by cases b <;> simp_all [D.beqs]
  | a :: r, b, h => by
    cases b with
    | nil => simp [D.beqs] at h
    | cons c s =>
      have h' : D.beq a c = true ∧ D.beqs r s = true := by simpa [D.beqs] using h
      rw [D.beq_eq a c h'.1, D.beqs_eq r s h'.2]
end
mutual
theorem D.beq_refl : ∀ a : D, D.beq a a = true
  | .non => rfl
  | .bl a => by simp [D.beq]
  | .int a => by simp [D.beq]
  | .str a => by simp [D.beq]
  | .tup xs => by simp [D.beq, D.beqs_refl xs]
  | .frl xs => by simp [D.beq, D.beqs_refl xs]
  | .ref a => by simp [D.beq]
  | .gl a => by simp [D.beq]
theorem D.beqs_refl : ∀ a : List D, D.beqs a a = true
  | [] => rfl
  | a :: r => by simp [D.beqs, D.beq_refl a, D.beqs_refl r]
end
instance : DecidableEq D := fun a b => match h : D.beq a b with
  | true => isTrue (D.beq_eq a b h)
  | false => isFalse fun e => by rw [e, D.beq_refl] at h; cases h

/-- objects: a list, a dict, a dict that is walked, an instance -/
inductive AO where
  | lst (xs : List D) | dct (kvs : List (D × D)) | lk (kvs : List (D × D)) | ins (c : String) (fs : List (String × D))
  deriving Inhabited, DecidableEq
abbrev AH := List AO
structure Xc where
  cls : String
  fs : List (String × D)

inductive Res (α : Type) where
  | ok (a : α) (A : AH) | exc (x : Xc) (A : AH) | no
abbrev Fr := List (Option D)
/-- a statement's end -/
inductive SR where
  | nx (F : Fr) (A : AH) | bk (F : Fr) (A : AH) | ct (F : Fr) (A : AH) | rt (d : D) (A : AH) | exc (x : Xc) (F : Fr) (A : AH) | no

def bnd {α β : Type} (r : Res α) (f : α → AH → Res β) : Res β := match r with
  | .ok a A => f a A
  | .exc x A => .exc x A
  | .no => .no
/-- a value on the way to a statement's end -/
def bns {α : Type} (F : Fr) (r : Res α) (f : α → AH → SR) : SR := match r with
  | .ok a A => f a A
  | .exc x A => .exc x F A
  | .no => .no
def ofO {α : Type} (o : Option α) (A : AH) : Res α := match o with
  | some a => .ok a A
  | none => .no

inductive BOp where
  | add | sub | mul | fdiv | mod
  deriving DecidableEq
inductive COp where
  | eq | ne | lt | le | gt | ge | is | isnt | mem | nmem
  deriving DecidableEq
/-- what is stored to -/
inductive Tg where
  | nm (i : Nat) | tu (ts : Tg) | nil | cons (a r : Tg)

inductive Ex where
  | var (i : Nat)
  | int (i : Int) | str (s : String) | bl (b : Bool) | non
  | gl (x : String) | cst (x : String) (d : D)
  | tup (es : Ex) | lst (es : Ex) | dct (es : Ex)
  | nil | cons (a r : Ex)
  | op (o : BOp) (a b : Ex) | neg (a : Ex)
  | cmp (o : COp) (a b : Ex) | chn (o p : COp) (a b c : Ex)
  | and (a b : Ex) | or (a b : Ex) | not (a : Ex) | ite (c a b : Ex)
  | ix (a i : Ex) | sl (a lo hi : Ex)
  | call (f : String) (es : Ex) | bi (f : String) (es : Ex) | mth (m : String) (o es : Ex)
  | lc (t : Tg) (it cond elt : Ex) (own : List Nat)
  | dc (t : Tg) (it cond k v : Ex) (own : List Nat)
  | wk (e : Ex) | enm (e : Ex) | zip (a b : Ex) | rng (es : Ex)
  | fld (a : Ex) (c f : String) | mk (c f : String) (es : Ex) | mc (c m f : String) (o es : Ex)

/-- what an except clause's suite may say: values of written things and of the exception's fields -/
inductive HE where
  | non | bl (b : Bool) | int (i : Int) | str (s : String) | fld (f : String) | tup (es : HE) | nil | cons (a r : HE)
inductive Hd where
  | ret (e : HE) | set (i : Nat) (e : HE) | cont | brk | pas

inductive Sm where
  | skip | seq (a b : Sm)
  | ex (e : Ex) | set (i : Nat) (e : Ex) | asg (t : Tg) (e : Ex) | sub (o i e : Ex)
  | ret (e : Ex) | ite (c : Ex) (a b : Sm) | for (t : Tg) (it : Ex) (b : Sm) | whl (c : Ex) (b : Sm) | brk | cont
  | fst (o : Ex) (c f : String) (e : Ex) | fau (o : Ex) (c f : String) (op : BOp) (e : Ex)
  | rs0 (c : String) | rs2 (c : String) (es : Ex) | tr (b : Sm) (c : String) (cs : List String) (i : Option Nat) (h : Hd)

/-! ### values -/
def keyOk : D → Bool
  | .int _ | .str _ => true
  | _ => false
/-- keys: ints and texts alone -/
def keyEq : D → D → Bool
  | .int i, .int j => i == j
  | .str s, .str t => s == t
  | _, _ => false
def dget (kvs : List (D × D)) (k : D) : Option D := (kvs.find? fun kv => keyEq kv.1 k).map (·.2)
def dput (kvs : List (D × D)) (k v : D) : List (D × D) :=
  if kvs.any fun kv => keyEq kv.1 k then kvs.map fun kv => if keyEq kv.1 k then (kv.1, v) else kv else kvs ++ [(k, v)]
def ddrop (kvs : List (D × D)) (k : D) : List (D × D) := kvs.filter fun kv => !keyEq kv.1 k
def dmerge (kvs more : List (D × D)) : List (D × D) := more.foldl (fun a kv => dput a kv.1 kv.2) kvs

/-- a list's items, for reading -/
def seqL (A : AH) (n : Nat) : Option (List D) := match A[n]? with
  | some (.lst xs) => some xs
  | _ => none
def dctL (A : AH) (n : Nat) : Option (List (D × D)) := match A[n]? with
  | some (.dct kvs) => some kvs
  | some (.lk kvs) => some kvs
  | _ => none
/-- a list's or a tuple's items -/
def seqOf (A : AH) : D → Option (List D)
  | .tup xs => some xs
  | .ref n => seqL A n
  | _ => none
def truth (A : AH) : D → Option Bool
  | .non => some false
  | .bl b => some b
  | .int i => some (i != 0)
  | .str s => if s.length ≤ sizeLine then some (s != "") else none
  | .tup xs => some (!xs.isEmpty)
  | .ref n => match A[n]? with
    | some (.lst xs) => some (!xs.isEmpty)
    | some (.dct kvs) => some (!kvs.isEmpty)
    | _ => none
  | .frl _ => none
  | .gl _ => none

/-! ### data without objects but lists, for == -/
mutual
def toPd : D → Option PyData
  | .non => some .none
  | .bl b => some (.bool b)
  | .int i => some (.int i)
  | .str s => some (.str (Str.ofString s))
  | .tup xs => (toPds xs).map .tuple
  | .frl _ => none
  | .ref _ => none
  | .gl _ => none
def toPds : List D → Option (List PyData)
  | [] => some []
  | d :: r => match toPd d, toPds r with
    | some p, some ps => some (p :: ps)
    | _, _ => none
end
def toP (A : AH) : D → Option PyData
  | .ref a => match seqL A a with
    | some xs => (toPds xs).map .list
    | none => none
  | d => toPd d
def eqD (A : AH) (x y : D) : Option Bool := match toP A x, toP A y with
  | some p, some q => if SeqAt.shaped p && SeqAt.shaped q then some (PyData.eqv p q) else none
  | _, _ => none
/-- dicts of such data, whatever the order -/
def dctO (A : AH) : D → Option (List (D × D))
  | .ref n => match A[n]? with
    | some (.dct kvs) => some kvs
    | _ => none
  | _ => none
def eqH (kb : List (D × D)) : List (D × D) → Option Bool
  | [] => some true
  | (k, v) :: r => match dget kb k with
    | none => some false
    | some w => match toPd v, toPd w with
      | some p, some q => if SeqAt.shaped p && SeqAt.shaped q then (match eqH kb r with
        | some b => some (PyData.eqv p q && b)
        | none => none) else none
      | _, _ => none
def eqK (ka kb : List (D × D)) : Option Bool := if ka.length = kb.length then eqH kb ka else some false
def eqO (A : AH) (x y : D) : Option Bool := match dctO A x, dctO A y with
  | some ka, some kb => eqK ka kb
  | _, _ => eqD A x y
/-- a value for == by its kind alone -/
def flatD : D → Bool
  | .non | .bl _ | .int _ | .str _ => true
  | _ => false
def flatEq : D → D → Bool
  | .non, .non => true
  | .bl a, .bl b => a == b
  | .bl a, .int j => (if a then 1 else 0) == j
  | .int i, .bl b => i == (if b then 1 else 0)
  | .int i, .int j => i == j
  | .str s, .str t => s == t
  | _, _ => false
def memD (A : AH) (x y : D) : Option Bool := match y with
  | .ref n => match dctL A n with
    | some kvs => if keyOk x then some (dget kvs x).isSome else none
    | none => match seqL A n with
      | some xs => if flatD x && xs.all flatD then some (xs.any fun z => flatEq z x) else none
      | none => none
  | .tup xs => if flatD x && xs.all flatD then some (xs.any fun z => flatEq z x) else none
  | _ => none

/-! ### operators -/
def opB (A : AH) (o : BOp) (x y : D) : Res D := match o, x, y with
  | .add, .int i, .int j => .ok (.int (i + j)) A
  | .sub, .int i, .int j => .ok (.int (i - j)) A
  | .mul, .int i, .int j => if i.natAbs < 18446744073709551616 || j.natAbs < 18446744073709551616 then .ok (.int (i * j)) A else .no
  | .fdiv, .int i, .int j => if 0 < j && j < 1073741824 then .ok (.int (i / j)) A else .no
  | .mod, .int i, .int j => if 0 < j then .ok (.int (i % j)) A else .no
  | .add, .str s, .str t => if s.length + t.length ≤ sizeLine then .ok (.str (s ++ t)) A else .no
  | .add, .tup xs, .tup ys => if xs.length + ys.length ≤ sizeLine then .ok (.tup (xs ++ ys)) A else .no
  | .add, .ref a, .ref b => match A[a]?, A[b]? with
    | some (.lst xs), some (.lst ys) => if xs.length + ys.length ≤ sizeLine then .ok (.ref A.length) (A ++ [.lst (xs ++ ys)]) else .no
    | _, _ => .no
  | _, _, _ => .no
def cmpI (f : Int → Int → Bool) : D → D → Option Bool
  | .int i, .int j => some (f i j)
  | _, _ => none
def isNon : D → Bool
  | .non => true
  | _ => false
/-- is None -/
def isN (d : D) : D → Option Bool
  | .non => some (isNon d)
  | _ => none
def opC (A : AH) (o : COp) (x y : D) : Option Bool := match o with
  | .eq => eqO A x y
  | .ne => (eqO A x y).map (!·)
  | .lt => cmpI (fun i j => decide (i < j)) x y
  | .le => cmpI (fun i j => decide (i ≤ j)) x y
  | .gt => cmpI (fun i j => decide (j < i)) x y
  | .ge => cmpI (fun i j => decide (j ≤ i)) x y
  | .is => match x with
    | .gl _ => none
    | _ => isN x y
  | .isnt => match x with
    | .gl _ => none
    | _ => (isN x y).map (!·)
  | .mem => memD A x y
  | .nmem => (memD A x y).map (!·)

def opI (A : AH) (o i : D) : Option D := match o with
  | .tup xs => match i with
    | .int k => L2.atI xs k
    | _ => none
  | .ref n => match dctL A n with
    | some kvs => if keyOk i then dget kvs i else none
    | none => match seqL A n, i with
      | some xs, .int k => L2.atI xs k
      | _, _ => none
  | _ => none
def cutD (xs : List D) (lo hi : Option Int) : List D := (xs.drop (HT.sIx xs.length 0 lo)).take (HT.sIx xs.length xs.length hi - HT.sIx xs.length 0 lo)
def opS (A : AH) (o : D) (lo hi : Option Int) : Res D := match o with
  | .tup xs => .ok (.tup (cutD xs lo hi)) A
  | .ref n => match seqL A n with
    | some xs => .ok (.ref A.length) (A ++ [.lst (cutD xs lo hi)])
    | none => .no
  | _ => .no
/-- o[i] = v -/
def opSet (A : AH) (o i v : D) : Option AH := match o with
  | .ref n => match A[n]? with
    | some (.lst xs) => match i with
      | .int k => (L2.ixN xs.length k).map fun j => A.set n (.lst (xs.set j v))
      | _ => none
    | some (.dct kvs) => if keyOk i && kvs.length < sizeLine then some (A.set n (.dct (dput kvs i v))) else none
    | _ => none
  | _ => none

/-! ### instances -/
def fput (f : String) (v : D) : List (String × D) → List (String × D)
  | [] => [(f, v)]
  | (g, x) :: r => if g = f then (g, v) :: r else (g, x) :: fput f v r
def fget (fs : List (String × D)) (f : String) : Option D := match fs with
  | [] => none
  | (g, x) :: r => if g = f then some x else fget r f
def fldD (A : AH) (c f : String) : D → Option D
  | .ref n => match A[n]? with
    | some (.ins k fs) => if k = c then fget fs f else none
    | _ => none
  | _ => none
def fstD (A : AH) (c f : String) (x v : D) : Option AH := match x with
  | .ref n => match A[n]? with
    | some (.ins k fs) => if k = c ∧ fs.length < 1000 then some (A.set n (.ins c (fput f v fs))) else none
    | _ => none
  | _ => none
/-- an instance of c without a field m -/
def isMe (A : AH) (c m : String) : D → Bool
  | .ref n => match A[n]? with
    | some (.ins k fs) => decide (k = c) && (fget fs m).isNone
    | _ => false
  | _ => false
def augI : BOp → D → D → Option D
  | .add, .int i, .int j => some (.int (i + j))
  | .sub, .int i, .int j => some (.int (i - j))
  | _, _, _ => none
/-! ### exceptions -/
mutual
def evH (x : Xc) : HE → Option D
  | .non => some .non
  | .bl b => some (.bl b)
  | .int i => some (.int i)
  | .str s => some (.str s)
  | .fld f => fget x.fs f
  | .tup es => match evHs x es with
    | some ds => if ds.length ≤ sizeLine then some (.tup ds) else none
    | none => none
  | .nil => none
  | .cons _ _ => none
def evHs (x : Xc) : HE → Option (List D)
  | .nil => some []
  | .cons a r => match evH x a, evHs x r with
    | some d, some ds => some (d :: ds)
    | _, _ => none
  | _ => none
end
def fset (F : Fr) (i : Nat) (d : D) : Fr := F.set i (some d)
def wipeO (F : Fr) : Option Nat → Fr
  | none => F
  | some i => F.set i none
def hdS (x : Xc) (h : Hd) (F : Fr) (A : AH) : SR := match h with
  | .ret e => match evH x e with
    | some d => .rt d A
    | none => .no
  | .set j e => match evH x e with
    | some d => .nx (fset F j d) A
    | none => .no
  | .cont => .ct F A
  | .brk => .bk F A
  | .pas => .nx F A
def wipS (i : Option Nat) : SR → SR
  | .nx F A => .nx (wipeO F i) A
  | .bk F A => .bk (wipeO F i) A
  | .ct F A => .ct (wipeO F i) A
  | .rt d A => .rt d A
  | _ => .no
def inO (F : Fr) : Option Nat → Bool
  | none => true
  | some i => decide (i < F.length)
def trR (c : String) (cs : List String) (i : Option Nat) (h : Hd) : SR → SR
  | .exc x F A => if x.cls = c then (if inO F i then wipS i (hdS x h (wipeO F i) A) else .no) else if cs.contains x.cls then .exc x F A else .no
  | r => r

def tyName (A : AH) : D → Option String
  | .non => some "NoneType"
  | .bl _ => some "bool"
  | .int _ => some "int"
  | .str _ => some "str"
  | .tup _ => some "tuple"
  | .ref n => match A[n]? with
    | some (.lst _) => some "list"
    | some (.dct _) => some "dict"
    | some (.lk _) => some "dict"
    | _ => none
  | _ => none
def tyNames : List String := ["bool", "int", "str", "tuple", "list", "dict"]
def isA (A : AH) (x : D) (t : String) : Option Bool := match tyName A x with
  | some n => if tyNames.contains t then some (n == t || (n == "bool" && t == "int")) else none
  | none => none
def intsOf : List D → Option (List Int)
  | [] => some []
  | .int i :: r => (intsOf r).map (i :: ·)
  | _ :: _ => none
def strsOf : List D → Option (List String)
  | [] => some []
  | .str s :: r => (strsOf r).map (s :: ·)
  | _ :: _ => none
def strLe (a b : String) : Bool := decide (a.toList.map Char.toNat ≤ b.toList.map Char.toNat)
def sortI (xs : List Int) : List Int := xs.mergeSort (fun a b => decide (a ≤ b))
def sortS (xs : List String) : List String := xs.mergeSort strLe
/-- built-in functions -/
def biLen (A : AH) : List D → Res D
  | [.tup xs] => .ok (.int xs.length) A
  | [.ref n] => match dctL A n with
    | some kvs => .ok (.int kvs.length) A
    | none => match seqL A n with
      | some xs => .ok (.int xs.length) A
      | none => .no
  | _ => .no
def biTuple (A : AH) : List D → Res D
  | [.tup xs] => .ok (.tup xs) A
  | [.ref n] => match seqL A n with
    | some xs => .ok (.tup xs) A
    | none => .no
  | _ => .no
def biList (A : AH) : List D → Res D
  | [.tup xs] => .ok (.ref A.length) (A ++ [.lst xs])
  | [.ref n] => match seqL A n with
    | some xs => .ok (.ref A.length) (A ++ [.lst xs])
    | none => .no
  | _ => .no
/-- a list of pairs with keys -/
def pairsOf : List D → Option (List (D × D))
  | [] => some []
  | .tup [k, v] :: r => if keyOk k then (pairsOf r).map ((k, v) :: ·) else none
  | _ :: _ => none
def biDict (A : AH) : List D → Res D
  | [.ref n] => match dctL A n with
    | some kvs => .ok (.ref A.length) (A ++ [.dct kvs])
    | none => match (seqL A n).bind pairsOf with
      | some kvs => if kvs.length ≤ sizeLine then .ok (.ref A.length) (A ++ [.dct (dmerge [] kvs)]) else .no
      | none => .no
  | _ => .no
def biMax (A : AH) : List D → Res D
  | [.int i, .int j] => .ok (.int (if j > i then j else i)) A
  | _ => .no
def blsOf : List D → Option (List Bool)
  | [] => some []
  | .bl b :: r => (blsOf r).map (b :: ·)
  | _ :: _ => none
def biAny (A : AH) : List D → Res D
  | [.ref n] => match (seqL A n).bind blsOf with
    | some bs => .ok (.bl (bs.any id)) A
    | none => .no
  | _ => .no
def biAll (A : AH) : List D → Res D
  | [.ref n] => match (seqL A n).bind blsOf with
    | some bs => .ok (.bl (bs.all id)) A
    | none => .no
  | _ => .no
def biInt (A : AH) : List D → Res D
  | [.int i] => .ok (.int i) A
  | [.bl b] => .ok (.int (if b then 1 else 0)) A
  | _ => .no
def biAbs (A : AH) : List D → Res D
  | [.int i] => .ok (.int (if i < 0 then -i else i)) A
  | _ => .no
def biIsi (A : AH) : List D → Res D
  | [x, .gl t] => ofO ((isA A x t).map .bl) A
  | _ => .no
def biSum (A : AH) : List D → Res D
  | [.ref n] => match (seqL A n).bind intsOf with
    | some ns => .ok (.int ns.sum) A
    | none => .no
  | _ => .no
def biSorted (A : AH) : List D → Res D
  | [.ref n] => match dctL A n with
    | some kvs => match strsOf (kvs.map (·.1)) with
      | some ss => if ss.length < 64 then .ok (.ref A.length) (A ++ [.lst ((sortS ss).map .str)]) else .no
      | none => .no
    | none => match (seqL A n).bind strsOf with
      | some ss => if ss.length < 64 then .ok (.ref A.length) (A ++ [.lst ((sortS ss).map .str)]) else .no
      | none => .no
  | _ => .no
def biF (A : AH) (f : String) (vs : List D) : Res D :=
  match f with
  | "len" => biLen A vs
  | "tuple" => biTuple A vs
  | "list" => biList A vs
  | "dict" => biDict A vs
  | "int" => biInt A vs
  | "abs" => biAbs A vs
  | "isinstance" => biIsi A vs
  | "sum" => biSum A vs
  | "sorted" => biSorted A vs
  | "max" => biMax A vs
  | "any" => biAny A vs
  | "all" => biAll A vs
  | _ => .no
/-- methods of built-in types -/
def mtAppend (A : AH) (n : Nat) : List D → Res D
  | [y] => match A[n]? with
    | some (.lst xs) => if xs.length < sizeLine then .ok .non (A.set n (.lst (xs ++ [y]))) else .no
    | _ => .no
  | _ => .no
def mtExtend (A : AH) (n : Nat) : List D → Res D
  | [.ref b] => match A[n]?, A[b]? with
    | some (.lst xs), some (.lst ys) => if xs.length + ys.length ≤ sizeLine then .ok .non (A.set n (.lst (xs ++ ys))) else .no
    | _, _ => .no
  | _ => .no
def mtPop (A : AH) (n : Nat) : List D → Res D
  | [] => match A[n]? with
    | some (.lst xs) => match xs.getLast? with
      | some y => .ok y (A.set n (.lst xs.dropLast))
      | none => .no
    | _ => .no
  | [k, d] => match A[n]? with
    | some (.dct kvs) => if keyOk k then (match dget kvs k with
      | some v => .ok v (A.set n (.dct (ddrop kvs k)))
      | none => .ok d A) else .no
    | _ => .no
  | _ => .no
def mtGet (A : AH) (n : Nat) : List D → Res D
  | [k] => match A[n]? with
    | some (.dct kvs) => if keyOk k then .ok ((dget kvs k).getD .non) A else .no
    | _ => .no
  | [k, d] => match A[n]? with
    | some (.dct kvs) => if keyOk k then .ok ((dget kvs k).getD d) A else .no
    | _ => .no
  | _ => .no
def mtUpdate (A : AH) (n : Nat) : List D → Res D
  | [.ref b] => if b = n then .no else match A[n]?, A[b]? with
    | some (.dct kvs), some (.dct more) => if kvs.length + more.length ≤ sizeLine then .ok .non (A.set n (.dct (dmerge kvs more))) else .no
    | _, _ => .no
  | _ => .no
def mtLPop (A : AH) (n : Nat) (vs : List D) : Res D := match vs with
  | [] => mtPop A n []
  | _ => .no
def mtDPop (A : AH) (n : Nat) (vs : List D) : Res D := match vs with
  | [k, d] => mtPop A n [k, d]
  | _ => .no
/-- the receiver's kind: a list, a dict -/
def mkD (A : AH) : D → Option Bool
  | .ref n => match A[n]? with
    | some (.lst _) => some false
    | some (.dct _) => some true
    | _ => none
  | _ => none
def mtG (k : Bool) (m : String) : Option (AH → Nat → List D → Res D) := match k with
  | false => match m with
    | "append" => some mtAppend
    | "extend" => some mtExtend
    | "pop" => some mtLPop
    | _ => none
  | true => match m with
    | "get" => some mtGet
    | "pop" => some mtDPop
    | "update" => some mtUpdate
    | _ => none
def mkM (A : AH) (m : String) (d : D) : Option Bool := match mkD A d with
  | some k => if (mtG k m).isSome then some k else none
  | none => none
def mtF (A : AH) (k : Bool) (m : String) (o : D) (vs : List D) : Res D := match o with
  | .ref n => match mtG k m with
    | some f => f A n vs
    | none => .no
  | _ => .no

/-! ### what is walked -/
abbrev Guard := List (Nat × AO)
def gOk (A : AH) (g : Guard) : Bool := g.all fun p => decide (A[p.1]? = some p.2)
/-- a walk: the items, what must stand as it stood, a dict that is locked -/
structure Wk where
  items : List D
  g : Guard
  lock : Option Nat := none
def lockA (A : AH) : Option Nat → AH
  | none => A
  | some n => match A[n]? with
    | some (.dct kvs) => A.set n (.lk kvs)
    | _ => A
def unlockA (A : AH) : Option Nat → AH
  | none => A
  | some n => match A[n]? with
    | some (.lk kvs) => A.set n (.dct kvs)
    | _ => A
/-- the walk of a value -/
def wkOf (A : AH) (d : D) : Option Wk := match d with
  | .tup xs => some ⟨xs, [], none⟩
  | .frl xs => some ⟨xs, [], none⟩
  | .ref n => match A[n]? with
    | some (.lst xs) => some ⟨xs, [(n, .lst xs)], none⟩
    | some (.dct kvs) => some ⟨kvs.map (·.1), [(n, .lk kvs)], some n⟩
    | _ => none
  | _ => none
def enumD : Nat → List D → List D
  | _, [] => []
  | i, d :: r => .tup [.int i, d] :: enumD (i + 1) r
def zipD : List D → List D → List D
  | a :: r, b :: s => .tup [a, b] :: zipD r s
  | _, _ => []
/-- enumerate, zip: no dicts -/
def wkEnum (A : AH) (d : D) : Option Wk := match wkOf A d with
  | some ⟨xs, g, none⟩ => some ⟨enumD 0 xs, g, none⟩
  | _ => none
def wkZip (A : AH) (d e : D) : Option Wk := match wkOf A d, wkOf A e with
  | some ⟨xs, g, none⟩, some ⟨ys, k, none⟩ => some ⟨zipD xs ys, g ++ k, none⟩
  | _, _ => none
def small (i : Int) : Bool := -4611686018427387904 ≤ i && i < 4611686018427387904
def rngD (lo hi : Int) : List D := (List.range (hi - lo).toNat).map fun (i : Nat) => .int (lo + i)
def wkRng : List D → Option Wk
  | [.int j] => if small j then some ⟨rngD 0 j, [], none⟩ else none
  | [.int i, .int j] => if small i && small j then some ⟨rngD i j, [], none⟩ else none
  | _ => none

/-! ### stores -/
mutual
def asgT : Tg → D → Fr → Option Fr
  | .nm i, d, F => some (fset F i d)
  | .tu ts, .tup xs, F => asgTs ts xs F
  | _, _, _ => none
def asgTs : Tg → List D → Fr → Option Fr
  | .nil, [], F => some F
  | .cons a r, d :: ds, F => match asgT a d F with
    | some F' => asgTs r ds F'
    | none => none
  | _, _, _ => none
end
def wipeF (F : Fr) : List Nat → Fr
  | [] => F
  | i :: r => (wipeF F r).set i none

/-! ### loops -/
def lcL (asg : D → Fr → Option Fr) (g : Guard) (body : Fr → AH → Res (Option D)) (F : Fr) : List D → List D → AH → Res (List D)
  | [], acc, A => if gOk A g then .ok acc A else .no
  | d :: r, acc, A => if gOk A g then (match asg d F with
    | some F' => bnd (body F' A) fun o A' => (match o with
      | some y => if acc.length < sizeLine then lcL asg g body F r (acc ++ [y]) A' else .no
      | none => lcL asg g body F r acc A')
    | none => .no) else .no
def dcL (asg : D → Fr → Option Fr) (g : Guard) (body : Fr → AH → Res (Option (D × D))) (F : Fr) : List D → List (D × D) → AH → Res (List (D × D))
  | [], acc, A => if gOk A g then .ok acc A else .no
  | d :: r, acc, A => if gOk A g then (match asg d F with
    | some F' => bnd (body F' A) fun o A' => (match o with
      | some (k, v) => if acc.length < sizeLine && keyOk k then dcL asg g body F r (dput acc k v) A' else .no
      | none => dcL asg g body F r acc A')
    | none => .no) else .no
def forL (asg : D → Fr → Option Fr) (g : Guard) (body : Fr → AH → SR) : List D → Fr → AH → SR
  | [], F, A => if gOk A g then .nx F A else .no
  | d :: r, F, A => if gOk A g then (match asg d F with
    | some F' => (match body F' A with
      | .nx F2 A2 => forL asg g body r F2 A2
      | .ct F2 A2 => forL asg g body r F2 A2
      | .bk F2 A2 => .nx F2 A2
      | x => x)
    | none => .no) else .no
def whlL (c : Fr → AH → Res Bool) (body : Fr → AH → SR) : Nat → Fr → AH → SR
  | 0, _, _ => .no
  | n + 1, F, A => match c F A with
    | .ok false A' => .nx F A'
    | .ok true A' => (match body F A' with
      | .nx F2 A2 => whlL c body n F2 A2
      | .ct F2 A2 => whlL c body n F2 A2
      | .bk F2 A2 => .nx F2 A2
      | x => x)
    | .exc x A' => .exc x F A'
    | .no => .no
/-- a walk's end: the dict is unlocked; an exception within is not served -/
def unlR {α : Type} (l : Option Nat) (r : Res α) : Res α := match l, r with
  | none, r => r
  | some n, .ok a A => .ok a (unlockA A (some n))
  | some _, _ => .no
def unlS (l : Option Nat) (r : SR) : SR := match l, r with
  | none, r => r
  | some n, .nx F A => .nx F (unlockA A (some n))
  | some n, .bk F A => .bk F (unlockA A (some n))
  | some n, .ct F A => .ct F (unlockA A (some n))
  | some n, .rt d A => .rt d (unlockA A (some n))
  | some _, _ => .no
/-- nothing is raised -/
def nox {α : Type} : Res α → Res α
  | .ok a A => .ok a A
  | _ => .no
def tru (r : Res D) : Res Bool := bnd r fun d A => ofO (truth A d) A
/-- pairs of a display -/
def pairUp : List D → Option (List (D × D))
  | [] => some []
  | k :: v :: r => if keyOk k then (pairUp r).map ((k, v) :: ·) else none
  | _ => none

/-! ### the evaluator -/
section
variable (cl : String → List D → AH → Res D)
mutual
def ev : Ex → Fr → AH → Res D
  | .var i, F, A => match F[i]? with
    | some (some d) => .ok d A
    | _ => .no
  | .int i, _, A => .ok (.int i) A
  | .str s, _, A => .ok (.str s) A
  | .bl b, _, A => .ok (.bl b) A
  | .non, _, A => .ok .non A
  | .gl x, _, A => .ok (.gl x) A
  | .cst _ d, _, A => .ok d A
  | .tup es, F, A => bnd (evs es F A) fun ds A' => if ds.length ≤ sizeLine then .ok (.tup ds) A' else .no
  | .lst es, F, A => bnd (evs es F A) fun ds A' => if ds.length ≤ sizeLine then .ok (.ref A'.length) (A' ++ [.lst ds]) else .no
  | .dct es, F, A => bnd (evs es F A) fun ds A' => match pairUp ds with
    | some kvs => if kvs.length ≤ 15 then .ok (.ref A'.length) (A' ++ [.dct (dmerge [] kvs)]) else .no
    | none => .no
  | .op o a b, F, A => bnd (ev a F A) fun x A1 => bnd (ev b F A1) fun y A2 => opB A2 o x y
  | .neg a, F, A => bnd (ev a F A) fun x A1 => match x with
    | .int i => .ok (.int (-i)) A1
    | _ => .no
  | .cmp o a b, F, A => bnd (ev a F A) fun x A1 => bnd (ev b F A1) fun y A2 => ofO ((opC A2 o x y).map .bl) A2
  | .chn o p a b c, F, A => bnd (ev a F A) fun x A1 => bnd (ev b F A1) fun y A2 => bnd (ofO (opC A2 o x y) A2) fun r A3 =>
    if r then bnd (ev c F A3) fun z A4 => ofO ((opC A4 p y z).map .bl) A4 else .ok (.bl false) A3
  | .and a b, F, A => bnd (ev a F A) fun x A1 => bnd (ofO (truth A1 x) A1) fun r A2 => if r then ev b F A2 else .ok x A2
  | .or a b, F, A => bnd (ev a F A) fun x A1 => bnd (ofO (truth A1 x) A1) fun r A2 => if r then .ok x A2 else ev b F A2
  | .not a, F, A => bnd (ev a F A) fun x A1 => ofO ((truth A1 x).map fun b => .bl (!b)) A1
  | .ite c a b, F, A => bnd (ev c F A) fun x A1 => bnd (ofO (truth A1 x) A1) fun r A2 => if r then ev a F A2 else ev b F A2
  | .ix a i, F, A => bnd (ev a F A) fun x A1 => bnd (ev i F A1) fun y A2 => ofO (opI A2 x y) A2
  | .sl a lo hi, F, A => bnd (ev a F A) fun x A1 => bnd (evo lo F A1) fun l A2 => bnd (evo hi F A2) fun h A3 => opS A3 x l h
  | .call f es, F, A => bnd (evs es F A) fun ds A1 => cl f ds A1
  | .bi f es, F, A => bnd (evs es F A) fun ds A1 => biF A1 f ds
  | .mth m o es, F, A => bnd (ev o F A) fun x A1 => bnd (ofO (mkM A1 m x) A1) fun k A2 => bnd (evs es F A2) fun ds A3 => mtF A3 k m x ds
  | .lc t it c e own, F, A => bnd (evw it F A) fun w A1 => unlR w.lock (bnd
      (lcL (asgT t) w.g (fun F' A' => nox (bnd (evc c F' A') fun b A2 => if b then bnd (ev e F' A2) fun y A3 => .ok (some y) A3 else .ok none A2)) (wipeF F own) w.items [] (lockA A1 w.lock))
      fun ds A2 => .ok (.ref A2.length) (A2 ++ [.lst ds]))
  | .dc t it c k v own, F, A => bnd (evw it F A) fun w A1 => unlR w.lock (bnd
      (dcL (asgT t) w.g (fun F' A' => nox (bnd (evc c F' A') fun b A2 => if b then bnd (ev k F' A2) fun x A3 => bnd (ev v F' A3) fun y A4 => .ok (some (x, y)) A4 else .ok none A2)) (wipeF F own) w.items [] (lockA A1 w.lock))
      fun ds A2 => .ok (.ref A2.length) (A2 ++ [.dct ds]))
  | .fld a c f, F, A => bnd (ev a F A) fun x A1 => ofO (fldD A1 c f x) A1
  | .mk c f es, F, A => bnd (evs es F A) fun ds A1 => bnd (cl f (.ref A1.length :: ds) (A1 ++ [.ins c []])) fun r A2 => match r with
    | .non => .ok (.ref A1.length) A2
    | _ => .no
  | .mc c m f o es, F, A => bnd (ev o F A) fun x A1 => if isMe A1 c m x then bnd (evs es F A1) fun ds A2 => cl f (x :: ds) A2 else .no
  | .nil, _, _ => .no
  | .cons _ _, _, _ => .no
  | .wk _, _, _ => .no
  | .enm _, _, _ => .no
  | .zip _ _, _, _ => .no
  | .rng _, _, _ => .no
def evs : Ex → Fr → AH → Res (List D)
  | .nil, _, A => .ok [] A
  | .cons a r, F, A => bnd (ev a F A) fun x A1 => bnd (evs r F A1) fun xs A2 => .ok (x :: xs) A2
  | _, _, _ => .no
/-- a slice's part -/
def evo : Ex → Fr → AH → Res (Option Int)
  | .nil, _, A => .ok none A
  | .cons e _, F, A => bnd (ev e F A) fun x A1 => match x with
    | .int i => .ok (some i) A1
    | _ => .no
  | _, _, _ => .no
/-- a comprehension's test -/
def evc : Ex → Fr → AH → Res Bool
  | .nil, _, A => .ok true A
  | .cons e _, F, A => tru (ev e F A)
  | _, _, _ => .no
/-- what is walked -/
def evw : Ex → Fr → AH → Res Wk
  | .enm e, F, A => bnd (ev e F A) fun x A1 => ofO (wkEnum A1 x) A1
  | .zip a b, F, A => bnd (ev a F A) fun x A1 => bnd (ev b F A1) fun y A2 => ofO (wkZip A2 x y) A2
  | .rng es, F, A => bnd (evs es F A) fun ds A1 => ofO (wkRng ds) A1
  | .wk e, F, A => bnd (ev e F A) fun x A1 => ofO (wkOf A1 x) A1
  | _, _, _ => .no
end
/-- statements; N: the turns that a while may take -/
def sx (N : Nat) : Sm → Fr → AH → SR
  | .skip, F, A => .nx F A
  | .seq a b, F, A => match sx N a F A with
    | .nx F' A' => sx N b F' A'
    | x => x
  | .ex e, F, A => bns F (ev cl e F A) fun _ A' => .nx F A'
  | .set i e, F, A => bns F (ev cl e F A) fun d A' => .nx (fset F i d) A'
  | .asg t e, F, A => bns F (ev cl e F A) fun d A' => match asgT t d F with
    | some F' => .nx F' A'
    | none => .no
  | .sub o i e, F, A => bns F (ev cl e F A) fun v A1 => bns F (ev cl o F A1) fun x A2 => bns F (ev cl i F A2) fun y A3 => match opSet A3 x y v with
    | some A4 => .nx F A4
    | none => .no
  | .ret e, F, A => bns F (ev cl e F A) fun d A' => .rt d A'
  | .ite c a b, F, A => bns F (tru (ev cl c F A)) fun r A' => if r then sx N a F A' else sx N b F A'
  | .for t it b, F, A => bns F (evw cl it F A) fun w A1 => unlS w.lock (forL (asgT t) w.g (fun F' A' => sx N b F' A') w.items F (lockA A1 w.lock))
  | .whl c b, F, A => whlL (fun F' A' => tru (ev cl c F' A')) (fun F' A' => sx N b F' A') N F A
  | .brk, F, A => .bk F A
  | .cont, F, A => .ct F A
  | .fst o c f e, F, A => bns F (ev cl e F A) fun v A1 => bns F (ev cl o F A1) fun x A2 => match fstD A2 c f x v with
    | some A3 => .nx F A3
    | none => .no
  | .fau o c f op e, F, A => bns F (ev cl o F A) fun x A1 => match fldD A1 c f x with
    | some u => bns F (ev cl e F A1) fun v A2 => match augI op u v with
      | some w => match fstD A2 c f x w with
        | some A3 => .nx F A3
        | none => .no
      | none => .no
    | none => .no
  | .rs0 c, F, A => .exc ⟨c, []⟩ F A
  | .rs2 c es, F, A => bns F (evs cl es F A) fun ds A1 => match ds with
    | [a, b] => .exc ⟨c, [("code", a), ("path", b)]⟩ F A1
    | _ => .no
  | .tr b c cs i h, F, A => trR c cs i h (sx N b F A)
end

/-! ### programs -/
structure Fd where
  np : Nat
  ns : Nat
  body : Sm
abbrev Pg := String → Option Fd
def startF (fd : Fd) (ds : List D) : Fr := ds.map some ++ List.replicate (fd.ns - fd.np) none
/-- a call, by at most n calls one in another -/
def callF (P : Pg) (N : Nat) : Nat → String → List D → AH → Res D
  | 0, _, _, _ => .no
  | n + 1, f, ds, A => match P f with
    | none => .no
    | some fd => if ds.length = fd.np then (match sx (callF P N n) N fd.body (startF fd ds) A with
      | .nx _ A' => .ok .non A'
      | .rt d A' => .ok d A'
      | .exc x _ A' => .exc x A'
      | _ => .no) else .no
end Ev

/-! ## XProb -/
/-! XProb: an own exception over an own class over ValueError, whose __init__ calls super's with a written text and stores two fields. -/
namespace PySem
namespace ProbX
open PySem.W PySem.Calls PyProof.Rows PySem.HandSPX
def pA (q : Nat → Pos) : Arguments := { posonlyargs := [], args := [{ arg := "self", annotation := none, pos := q 0 }, { arg := "code", annotation := none, pos := q 1 }, { arg := "path", annotation := none, pos := q 2 }], vararg := none, kwonlyargs := [], kw_defaults := [], kwarg := none, defaults := [] }
def pB (q : Nat → Pos) (msg : Str) : List Stmt :=
  [.Expr (.Call (.Attribute (.Call (.Name "super" (q 3)) [] [] (q 4)) "__init__" (q 5)) [.Constant (.str msg) 0 (q 6)] [] (q 7)) (q 8),
   .Assign [.Attribute (.Name "self" (q 9)) "code" (q 10)] (.Name "code" (q 11)) (q 12),
   .Assign [.Attribute (.Name "self" (q 13)) "path" (q 14)] (.Name "path" (q 15)) (q 16)]
def pS : Scope := { kind := .function, names := [(PySem.Str.ofString "self", .local), (PySem.Str.ofString "code", .local), (PySem.Str.ofString "path", .local), (PySem.Str.ofString "__class__", .free), (PySem.Str.ofString "super", .globalImplicit)], isGenerator := false, isCoroutine := false, more := [] }
abbrev veTail : List Value := [.type "ValueError", .type "Exception", .type "BaseException", .type "object"]
/-- what the written part says of the class, at C, of its __init__, at fI, and of the cell of __class__ -/
structure ProbTxt (prog : Program) (K : Frag) (mg : Str → Option Value) (C fI : Addr) : Prop where
  gC : mg "TypeProblem" = some (.ref C)
  gS : mg "super" = none
  cls : ∃ nm q N bs bm sn sub ab col dd k0 k1 k2 k3 k5, K.lookup C = some (excClassObj nm q C N bs bm true sn sub ab col dd k0 k1 k2 k3 k5 "ValueError.__new__") ∧ refsVE bm = true
  ini : excInitIn K C veTail "ValueError.__new__" = true
  sup : ks_superIn K C C "__init__" = some (some (.builtin "ValueError.__init__"))
  opq : nsIn K cStatics "thirdparty.any" = some none
  subC : mroIn K C (.ref C) = some true
  subV : subIn K (.ref C) (.type "ValueError") = some true
  sa : findIn K (.ref C) "__setattr__" = some (some (.builtin "object.__setattr__"))
  ga : findIn K (.ref C) "__getattribute__" = some (some (.builtin "BaseException.__getattribute__"))
  gg : findIn K (.ref C) "__getattr__" = some none
  noC : findIn K (.ref C) "code" = some none
  noP : findIn K (.ref C) "path" = some none
  iC : findIn K (.ref C) "__init__" = some (some (.ref fI))
  tC : typeIn K (.ref fI) = some (.type "function")
  kC : keepIn K (.ref C) = true
  exC : subIn K (.ref C) (.type "BaseException") = some true
  tyC : typeIn K (.ref C) = some (.type "type")
  hdC : hasDictIn K C = true
  te : exmOne K (.ref C) (.ref C) = some true
  top : (prog.main.scope.names.lookup ("super" : Str)).isSome = false
  fn : ∃ (oc : Value) (od : Option Addr) (doc pm : Value) (an : Option Addr) (cda cc : Addr) (ct : Value) (osl : Array (Option Value)) (q : Nat → Pos) (msg : Str)
    (ccl cl : Value) (cdd cld : Option Addr) (ccs csl : Array (Option Value)) (vs : Array Value) (file : Str) (tf : Tok),
    K.lookup fI = some ⟨oc, od, .func (ksFn "__init__" "TypeProblem.__init__" (pA q) (pB q msg) pS .none .none doc pm an (.ref cda) ct cc), osl⟩ ∧ codeIn K (.ref cda) "TypeProblem.__init__" = true ∧
    K.lookup cda = some ⟨ccl, cdd, .fields vs, ccs⟩ ∧ vs[2]? = some (.str file tf) ∧ ((prog.main.file : Str) == file) = true ∧ K.lookup cc = some ⟨cl, cld, .cell (some (.ref C)), csl⟩ ∧ ((q 5).endLine == (q 7).line) = true
theorem call_line {o : Expr} {name : Str} {apos pos : Pos} {args : List Expr} {env : Env} (hf : methodCallForm (args.length + ([] : List Keyword).length) (backTo pos (starEach args env)) (backToKw pos (keywordEach [] env)) = true) (hl : (apos.endLine == pos.line) = true) :
    eval (.Call (.Attribute o name apos) args [] pos) env = (do
      let ov ← attributeBase o name env (eval o env)
      standAt apos.atName
      let (f, first) ← holding [ov] (getMethod ov name (do return (← importBound o env).getD true))
      callWith pos f first (backTo pos (starEach args env)) []) := by
  have hpos : methodCallPos true o env apos pos = pure pos := by unfold methodCallPos; simp [hl]
  rw [arm_eval_Call]
  unfold methodCall
  rw [hf, hpos]
  simp only [pure_bind, calleeOf, if_true]
  rfl
theorem one_size (v : Value) : [v].length ≤ sizeLine := by
  rw [sizeLine_eq]
  exact (by decide : 1 ≤ 16777216)
theorem two_size (v u : Value) : [v, u].length ≤ sizeLine := by
  rw [sizeLine_eq]
  exact (by decide : 2 ≤ 16777216)
theorem kept_but {K : Frag} {h h' : Heap} {x : Addr} (X : K.In h) (hx : K.lookup x = none) (k : ∀ b o, b ≠ x → h.get? b = some o → h'.get? b = some o) : K.In h' := fun a o e =>
  k a o (fun z => by rw [z, hx] at e; cases e) (X a o e)
theorem ldX {M : Model} {s : Shared} {name : Str} {scope : Scope} {L a : Addr} {cd : Value} {cc : Addr} {m : Str → Option Value} {x : Str} {pos : Pos} {v : Value} {Q : Value → Shared → Prop} {A : Around} {E : Value → Shared → Prop} (hn : s.heap.Ns L m) (hv : m x = some v) (h : Q v s)
    (hk : scope.kind = .function := by rfl) (hl : (ksEnv name scope L a cd cc).kindOf x = some .local := by rfl) (hd : (x == ("__debug__" : Str)) = false := by decide) :
    wpAny M A (eval (.Name x pos) (ksEnv name scope L a cd cc)) Q E s := wpAny_Name (wpAny_loadName_local hk hl hn hv h) hd
/-- what __init__ leaves of a fresh exception at x -/
structure InitEnd (h h' : Heap) (x C dx : Addr) (v1 v2 : Value) : Prop where
  keep : ∀ b o, b ≠ x → h.get? b = some o → h'.get? b = some o
  obj : ∃ t1, h'.get? x = some { cls := .ref C, dict := some dx, data := .fields #[.ref t1, .none, .none, .none, .bool false, .none] }
  dbig : h.objs.size ≤ dx
  dne : dx ≠ x
  ns : h'.Ns1 dx (fun y => if y = "path" then some v2 else if y = "code" then some v1 else none)
/-- a made one -/
structure OwnMade (h h' : Heap) (e C d : Addr) (v1 v2 : Value) : Prop where
  keep : ∀ b o, h.get? b = some o → h'.get? b = some o
  new : h.objs.size ≤ e
  obj : ∃ oe vs, h'.get? e = some oe ∧ oe.cls = .ref C ∧ oe.dict = some d ∧ oe.data = .fields vs ∧ vs[1]? = some .none
  dbig : h.objs.size ≤ d
  dne : d ≠ e
  ns : h'.Ns1 d (fun y => if y = "path" then some v2 else if y = "code" then some v1 else none)
section
variable {prog : Program} {w : World} {A : Around} {E : Value → Shared → Prop} {R : Result → Shared → Prop} {s : Shared} {K : Frag} {mg : Str → Option Value} {C fI : Addr}
/-- super().__init__(msg) called: the args are laid anew -/
theorem sup_call (T : ProbTxt prog K mg C fI) {u x t0 : Addr} {rest : List Value} {Q : Value → Shared → Prop} (X : K.In s.heap) (hu : s.heap.get? u = some (kxs_mw "ValueError.__init__" x)) (he : s.heap.get? x = some (excO C t0)) (hz : rest.length ≤ sizeLine)
    (h : ∀ h' t1, (∀ b o, b ≠ x → s.heap.get? b = some o → h'.get? b = some o) → h'.get? x = some (excO C t1) → Q .none { s with heap := h' }) :
    wpAny (model prog w) A (call (.ref u) rest) Q E s := by
  obtain ⟨nm, N', qn, bs, bm, hdct, sn, sub, ab, col, dd, k0, k1, k2, k3, k5, hC, hT⟩ := excInit_of X T.ini
  obtain ⟨hh, g, d, tk, os⟩ := s
  refine wpAny_call (codeAny_of_tree ?_)
  show wpAny _ A.in1 (callAny (.ref u) ⟨rest, []⟩) _ _ _
  simp only [callAny]
  refine wpAny_bind (wpAny_load hu ?_)
  simp only [kxs_mw, show (Value.type "method-wrapper" == Value.type "method" || Value.type "method-wrapper" == Value.type "builtin_function_or_method" || Value.type "method-wrapper" == Value.type "method-wrapper") = true by decide, if_true]
  refine KFB.if_so (by decide) ?_
  refine wpAny_bind (PySem.W.check_bound_init PySem.F.excBase_ValueError.toExcCallFacts hC he rfl ?_)
  refine wpAny_bind (wpAny_pure (wpAny_pure ?_))
  refine ⟨plainId_quiet PySem.F.excBase_ValueError.init.plain _, codeAny_builtin PySem.F.excBase_ValueError.initEntry ?_⟩
  exact exc_init_tree (cls := .ref C) (t0 := t0) (dv := none) (c2 := .none) (c3 := .none) (b4 := .bool false) he hz fun h' k e' _ => h h' _ k e'
theorem prob_init (T : ProbTxt prog K mg C fI) {x t0 : Addr} {v1 v2 : Value} (X : K.In s.heap) (hlim : s.heap.NoLimit) (hg : s.heap.Ns mainGlobals mg) (hb : ∃ mb, s.heap.Ns builtinsNs mb ∧ ∀ y : Str, y ≠ "__name__" → mb y = bootBuiltins y)
    (hx : s.heap.get? x = some (excO C t0)) (hnx : K.lookup x = none) (hroom : A.depth < recursionLimit)
    (hq : ∀ h' tk dx, InitEnd s.heap h' x C dx v1 v2 → R (.ok (.ret .none)) { s with heap := h', toks := tk }) :
    codeAny (model prog w) A (.call (.ref fI) ⟨[.ref x, v1, v2], []⟩) R s := by
  obtain ⟨oc, od, doc, pm, an, cda, cc, ct, osl, q, msg, ccl, cl, cdd, cld, ccs, csl, vs, file, tf, ho, hcd, hcode, hvs, hfile, hcell, hline⟩ := T.fn
  obtain ⟨nm, qn, N, bs, bm, sn, sub, ab, col, dd, k0, k1, k2, k3, k5, hC, hbm⟩ := T.cls
  obtain ⟨mb, hb, hmb⟩ := hb
  have hcl : clsIn K C = some { name := nm, bases := bs, mro := .ref C :: bm, ns := N, qualname := qn, hasDict := true, slotNames := sn, subclasses := sub, abstract := ab, collection := col, hasDel := false } := by unfold clsIn; rw [hC] <;> rfl
  obtain ⟨hh, g, d, tk, os⟩ := s
  refine ks_codeAny_call_defAt (fd := ksFn "__init__" "TypeProblem.__init__" (pA q) (pB q msg) pS .none .none doc pm an (.ref cda) ct cc) (body := pB q msg) (binds := [("self", .ref x), ("code", v1), ("path", v2)]) hroom (X _ _ ho) rfl hlim (codeRec_of X hcd) rfl
    (BindsTo.of_eq (by first | rfl | with_unfolding_all rfl)) (show ∀ y ∈ pS.names, y.2 ≠ .cell by decide) (fun y hy => ?_) (fun h₀ hns k => ?_) rfl rfl rfl
  · simp only [List.mem_cons, List.not_mem_nil, or_false] at hy
    rcases hy with rfl | rfl | rfl <;> rfl
  show _root_.PySem.wpAt (model prog w) (A.deeper (ksEnv "TypeProblem.__init__" pS hh.objs.size fI (.ref cda) cc)) (.func (pB q msg) (ksEnv "TypeProblem.__init__" pS hh.objs.size fI (.ref cda) cc)) (execs (pB q msg) (ksEnv "TypeProblem.__init__" pS hh.objs.size fI (.ref cda) cc)) _ _ _
  have X₀ : K.In h₀ := X.keeps k
  have hx₀ := k _ _ hx
  have hxL : hh.objs.size ≠ x := Nat.ne_of_gt (Heap.lt_size hx)
  refine ks_wpAt_execs_cons (ks_wpAt_Expr_any (ks_wpAt_MethodCall ?_ (call_line rfl hline)))
  have hxc : x ≠ C := fun z => by
    rw [z, hC] at hnx
    cases hnx
  have hCl := X₀ _ _ hC
  have g₀ := hg.keeps k
  have b₀ := hb.keeps k
  refine ks_wpAt_super_base (env := ksEnv "TypeProblem.__init__" pS hh.objs.size fI (.ref cda) cc) rfl rfl (by decide) rfl (X₀ _ _ ho) rfl (ar := { arg := "self", annotation := none, pos := q 0 }) rfl rfl (X₀ _ _ hcode) rfl hvs hfile T.top ?_
  refine ks_loadName_global rfl rfl (loadGlobal_builtin (env := ksEnv "TypeProblem.__init__" pS hh.objs.size fI (.ref cda) cc) g₀ T.gS b₀ ((hmb "super" (by decide)).trans (by rfl)) ⟨rfl, ?_⟩)
  refine wpAny_loadName_free rfl rfl rfl ⟨_, X₀ _ _ hcell, rfl⟩ ?_
  refine wpAny_loadName_local rfl rfl hns (by rfl) ?_
  refine ks_wpAny_isType_cls hCl rfl ⟨rfl, ?_⟩
  refine ks_wpAny_call_super hCl rfl hx₀ rfl (fun c e => by cases e) (looks_mroIn X₀ T.subC) (fun h₁ e₁ k₁ => ?_)
  have X₁ : K.In h₁ := X₀.keeps k₁
  have hx₁ := k₁ _ _ hx₀
  have I₁ : InstAt h₁ x (excO C t0) C none := ⟨hx₁, rfl, rfl, trivial⟩
  have hcl' := T.sup
  unfold ks_superIn at hcl'
  rw [hcl] at hcl'
  refine kxs_getMethod (B := "ValueError") kxs_ValueError e₁ (looks_opaque X₁ T.opq) (l₀ := .ref C :: bm) (fun A Q E s k q => wpAny_bind ((looks_clsIn X₁ hcl) A _ E s k (wpAny_pure q))) rfl X₁ hcl' (I₁.type.andThen (looks_subIn X₁ T.subV)) hxc (by decide) ?_
  refine kxs_callWith (i := "ValueError.__init__") (x := x) rfl (evalArgs_plain (spliced_cons (wpAny_Constant_str (k := 0) (pos := q 6) ?_)))
  have hu : (h₁.push (kxs_mw "ValueError.__init__" x)).get? h₁.objs.size = some (kxs_mw "ValueError.__init__" x) := Heap.get?_push_at rfl rfl
  have kp : ∀ b o, h₁.get? b = some o → (h₁.push (kxs_mw "ValueError.__init__" x)).get? b = some o := fun b o e => Heap.get?_push_of_some _ e
  refine wpAny_pure ⟨hu, ?_⟩
  refine sup_call T (X₁.keeps kp) hu (kp _ _ hx₁) (one_size _) (fun h₂ t1 k₂ hx₂ => ?_)
  have keep₂ : ∀ b o, b ≠ x → h₀.get? b = some o → h₂.get? b = some o := fun b o hb e => k₂ b o hb (kp _ _ (k₁ _ _ e))
  have n₂ : h₂.Ns hh.objs.size (fun y => ([("self", .ref x), ("code", v1), ("path", v2)] : List (Str × Value)).reverse.lookup y) := by
    obtain ⟨oL, es, ep, hL, r⟩ := hns
    exact ⟨oL, es, ep, keep₂ _ _ hxL hL, r⟩
  have X₂ : K.In h₂ := kept_but X₀ hnx keep₂
  refine wpAt_of_wpAny ?_
  refine wpAny_execs_cons (plainObj_wpAny_Assign_Attribute ?_)
  refine ldX (v := v1) n₂ (by first | rfl | with_unfolding_all rfl | kernel_rfl) (ldX (v := .ref x) n₂ (by first | rfl | with_unfolding_all rfl | kernel_rfl) ?_)
  refine set_plain X₂ (ox := excO C t1) (od := none) ⟨hx₂, rfl, rfl, trivial⟩ T.sa ?_
  refine exc_osa X₂ hx₂ hcl (show refsVE (.ref C :: bm) = true from hbm) rfl T.noC (fun h₃ tk₃ dx k₃ dn dne hx₃ hn₃ => ?_)
  have X₃ : K.In h₃ := kept_but X₂ hnx k₃
  have n₃ : h₃.Ns hh.objs.size (fun y => ([("self", .ref x), ("code", v1), ("path", v2)] : List (Str × Value)).reverse.lookup y) := by
    obtain ⟨oL, es, ep, hL, r⟩ := n₂
    exact ⟨oL, es, ep, k₃ _ _ hxL hL, r⟩
  refine wpAny_execs_cons (plainObj_wpAny_Assign_Attribute ?_)
  refine ldX (v := v2) n₃ (by first | rfl | with_unfolding_all rfl | kernel_rfl) (ldX (v := .ref x) n₃ (by first | rfl | with_unfolding_all rfl | kernel_rfl) ?_)
  have w₃ : PySem.Within (fun y => if y = "code" then some v1 else none) ["code"] := PySem.Within.cons _ _ PySem.Within.nil
  obtain ⟨oD, esD, epD, hoD, hdD, _⟩ := hn₃.count w₃
  refine set_plain X₃ (od := some oD) ⟨hx₃, rfl, rfl, hoD⟩ T.sa ?_
  refine OEX.osa_old X₃ hx₃ hn₃ w₃ (by decide) hcl (show refsVE (.ref C :: bm) = true from hbm) rfl T.noP (fun h₄ tk₄ k₄ hn₄ => ?_)
  refine wpAny_execs_nil (hq h₄ tk₄ dx ⟨fun b o hb e => ?_, ⟨t1, (k₄ _ _ (Ne.symm dne) hx₃)⟩, ?_, dne, hn₄⟩)
  · have hbd : b ≠ dx := fun z => by
      have y := Heap.lt_size (keep₂ b o hb (k _ _ e))
      rw [z] at y
      exact absurd (Nat.lt_of_lt_of_le y dn) (Nat.lt_irrefl _)
    exact k₄ _ _ hbd (k₃ _ _ hb (keep₂ b o hb (k _ _ e)))
  · have z : hh.objs.size < h₂.objs.size := n₂.lt
    exact Nat.le_of_lt (Nat.lt_of_lt_of_le z dn)
theorem prob_made (T : ProbTxt prog K mg C fI) {v1 v2 : Value} (X : K.In s.heap) (hlim : s.heap.NoLimit) (hg : s.heap.Ns mainGlobals mg) (hb : ∃ mb, s.heap.Ns builtinsNs mb ∧ ∀ y : Str, y ≠ "__name__" → mb y = bootBuiltins y) (hroom : A.depth + 1 < recursionLimit)
    (hq : ∀ h' tk e d, OwnMade s.heap h' e C d v1 v2 → R (.ok (.ret (.ref e))) { s with heap := h', toks := tk }) :
    codeAny (model prog w) A (.call (.ref C) ⟨[v1, v2], []⟩) R s := by
  obtain ⟨nm, q, N, bs, bm, sn, sub, ab, col, dd, k0, k1, k2, k3, k5, hC, hbm⟩ := T.cls
  obtain ⟨hp, g, dr, tk, os⟩ := s
  have k : ∀ b o, hp.get? b = some o → ((hp.push (kdv_tup [v1, v2])).push (excO C hp.objs.size)).get? b = some o := fun b o e => Heap.get?_push_of_some _ (Heap.get?_push_of_some _ e)
  have hget : ((hp.push (kdv_tup [v1, v2])).push (excO C hp.objs.size)).get? (hp.objs.size + 1) = some (excO C hp.objs.size) := by heap_get
  have hnx : K.lookup (hp.objs.size + 1) = none := by
    cases e : K.lookup (hp.objs.size + 1) with
    | none => rfl
    | some o =>
      have z : hp.get? (hp.objs.size + 1) = some o := X _ _ e
      exact absurd (Nat.lt_of_succ_lt (Heap.lt_size z)) (Nat.lt_irrefl _)
  obtain ⟨mb, hb, hmb⟩ := hb
  refine call_own PySem.F.excBase_ValueError (fun X => refsVE_contains X bm hbm) (X _ _ hC) (looks_findIn X T.iC) (fun self => bind_fn X self T.tC) (two_size v1 v2) ?_
  refine prob_init (s := ⟨(hp.push (kdv_tup [v1, v2])).push (excO C hp.objs.size), g, dr, tk, os⟩) T (X.keeps k) (hlim.keeps k) (hg.keeps k) ⟨mb, hb.keeps k, hmb⟩ hget hnx ?_ fun h' tk' dx ⟨k', hx, dn, dne, hns⟩ => ?_
  · show A.depth + 1 < recursionLimit
    exact hroom
  · have old : ∀ b o, hp.get? b = some o → h'.get? b = some o := fun b o e => k' b o (Nat.ne_of_lt (Nat.lt_succ_of_lt (Heap.lt_size e))) (k b o e)
    have z : hp.objs.size + 1 + 1 ≤ dx := by
      first
        | (simpa only [Heap.size_push] using dn)
        | exact dn
        | (have q := dn; rw [Heap.size_push, Heap.size_push] at q; exact q)
    obtain ⟨t1, hx⟩ := hx
    exact ⟨rfl, hq h' tk' (hp.objs.size + 1) dx ⟨old, Nat.le_succ _, ⟨_, _, hx, rfl, rfl, rfl, rfl⟩, Nat.le_trans (Nat.le_trans (Nat.le_succ _) (Nat.le_succ _)) z, dne, hns⟩⟩
end
end ProbX
end PySem
namespace L2
open PySem PySem.Spec PyProof.Rows
abbrev xdP (v1 v2 : V) : List (Str × V) := [(("path" : Str), v2), (("code" : Str), v1)]
theorem xdP_code {v1 v2 : V} : List.lookup ("code" : Str) (xdP v1 v2) = some v1 := by
  have q : (("code" : Str) == ("path" : Str)) = false := by decide +kernel
  simp [xdP, List.lookup, q]
theorem xdP_path {v1 v2 : V} : List.lookup ("path" : Str) (xdP v1 v2) = some v2 := by simp [xdP, List.lookup]
theorem relO_prob {v1 v2 : V} {u1 u2 : Value} (r1 : RelV v1 u1) (r2 : RelV v2 u2) (f : Str) : RelO (List.lookup f (xdP v1 v2)) (if f = "path" then some u2 else if f = "code" then some u1 else none) := by
  by_cases hp : f = "path"
  · subst hp
    rw [if_pos rfl, xdP_path]
    exact r2
  · rw [if_neg hp]
    by_cases hc : f = "code"
    · subst hc
      rw [if_pos rfl, xdP_code]
      exact r1
    · rw [if_neg hc]
      have qp : (f == ("path" : Str)) = false := by simpa using hp
      have qc : (f == ("code" : Str)) = false := by simpa using hc
      have q2 : List.lookup f (xdP v1 v2) = none := by simp [xdP, List.lookup, qp, qc]
      rw [q2]
      trivial
section
variable {X : Cx} {C fI : Addr}
/-- TypeProblem(e1, e2) -/
def tMkProb (C : Addr) (ta : TA) : St → Hp → XK → Prop := fun σ H Q => ta σ H fun vs H1 => ∃ v1 v2, vs = [v1, v2] ∧ ∀ d, H1 d = none → Q (.ref C) (some d) (upd H1 d (.xd (xdP v1 v2)))
theorem pmk_prob {a b : Expr} {ta : TA} {p pos : Pos} {k : Nat} (T : PySem.ProbX.ProbTxt X.prog X.K X.mg C fI) (hr : Room k X.A) (ha : PA X [a, b] ta) (hg : Gl X "TypeProblem")
    (he : starEach (a :: [b]) X.env = (false, eval a X.env) :: starEach [b] X.env) (hpl : (backTo pos (starEach [b] X.env)).any (·.1) = false) :
    PMk X (.Call (.Name "TypeProblem" p) [a, b] [] pos) (tMkProb C ta) := by
  intro pins s σ H Q I h
  refine wpAny_Call_Name_kw (ld_glob I hg T.gC ?_)
  refine PySem.W.callWith_K (h₀ := X.base) I.ok.mod.kin T.kC (thn (ha.run pos pins s σ H _ I h) fun us s1 hh => ?_) he hpl
  obtain ⟨vs, H1, I1, r1, v1, v2, ev, q1⟩ := hh
  subst ev
  refine ⟨I1.kIn, ?_⟩
  cases r1 with
  | cons rv rn =>
    rename_i u1 us'
    cases rn with
    | cons rw' rn =>
      rename_i u2 us''
      cases rn
      show wpAny _ _ (call (.ref C) [u1, u2]) _ _ _
      have hlim := I1.nolimit
      have hgl := I1.mod.glob.keeps I1.bk
      obtain ⟨mb, hb1, hb2⟩ := I1.mod.blt
      have hbl := hb1.keeps I1.bk
      obtain ⟨hp, g, dr, tk, os⟩ := s1
      refine wpAny_call (PySem.ProbX.prob_made T I1.kIn hlim hgl ⟨mb, hbl, hb2⟩ (by have := hr.dp; omega) fun h' tk' e d M => ?_)
      show MkP X pins σ Q (.ref e) ⟨h', g, dr, tk', os⟩
      obtain ⟨oe, fv, hoe, hc, hd, hdat, h1⟩ := M.obj
      have hns := M.ns
      obtain ⟨G', g1, g2⟩ := restrict h' fun b => decide (b ≠ e)
      have gk : ∀ b, b ≠ e → G'.get? b = h'.get? b := fun b hb => g1 b (decide_eq_true hb)
      have ge : G'.get? e = none := g2 e (by simp)
      have old : ∀ b o, hp.get? b = some o → G'.get? b = some o := fun b o q => (gk b (Nat.ne_of_lt (Nat.lt_of_lt_of_le (Heap.lt_size q) M.new))).trans (M.keep b o q)
      have ob : ObjOk X.prog X.w (upd H1 d (.xd (xdP v1 v2))) G' d (.xd (xdP v1 v2)) :=
        ⟨_, hns.at (fun o q => (gk d M.dne).trans q), fun f => relO_prob rv rw' f⟩
      have J : Inv X pins σ (upd H1 d (.xd (xdP v1 v2))) ⟨G', g, dr, tk', os⟩ := I1.laid (t' := tk') old M.dbig ob
      refine ⟨e, oe, fv, ⟨G', g, dr, tk', os⟩, _, .ref C, some d, rfl, J, fun b o q => ?_, ge, hoe, ⟨hc, hd⟩, hdat, h1, ?_, rfl, I1.bare, raises_own T.exC T.tyC, q1 d (I1.hok.fresh M.dbig)⟩
      · by_cases hb : b = e
        · have q' : G'.get? b = some o := q
          rw [hb, ge] at q'; cases q'
        · exact (gk b hb).symm.trans q
      · rw [upd_ne (Ne.symm M.dne)]
        exact I1.hok.fresh M.new
/-- e.code, e.path: e the exception that the suite holds (at a; its class cls, its dict d) -/
def tFldP (C : Addr) (f : Str) (a : Addr) (cls : Value) (d : Option Addr) (te : TE) : TE := fun σ H Q => te σ H fun x H1 => x = .ref a ∧ cls = .ref C ∧ ∃ (dd : Addr) (v1 v2 v : V), d = some dd ∧ H1 dd = some (.xd (xdP v1 v2)) ∧ List.lookup f (xdP v1 v2) = some v ∧ Q v H1
theorem pe_fldP {a : Addr} {oe : Obj} {cls : Value} {d : Option Addr} {pn : List (Addr × Obj)} {e : Expr} {te : TE} {f : Str} {pos : Pos} (T : PySem.ProbX.ProbTxt X.prog X.K X.mg C fI) (hn : PySem.W.findIn X.K (.ref C) f = some none) (hz : Zc cls d oe) (hf : ∃ vs, oe.data = .fields vs) (he : PE (X.suite a ((a, oe) :: pn)) e te)
    (hb : attributeBase e f X.env (eval e X.env) = eval e X.env) :
    PE (X.suite a ((a, oe) :: pn)) (.Attribute e f pos) (tFldP C f a cls d te) := by
  refine ⟨fun pins s σ H Q I h => ?_⟩
  refine attr_of hb (thn (he.run pins s σ H _ I h) fun u s1 hh => ?_)
  obtain ⟨x, H1, I1, rx, ex, ec, dd, v1, v2, v, ed, ea, l, q⟩ := hh
  subst ex
  obtain rfl : u = Value.ref a := rx
  subst ec
  subst ed
  obtain ⟨ha, _⟩ := I1.pin (a, oe) (List.mem_append_left _ List.mem_cons_self)
  obtain ⟨vs, hd⟩ := hf
  have hx : ObjOk X.prog X.w H1 s1.heap dd (.xd (xdP v1 v2)) := I1.hok dd _ ea
  obtain ⟨mA, hns, hr⟩ := hx
  obtain ⟨od, ho, hl⟩ := lookIn_ns hns
  obtain ⟨u, hu, ru⟩ := RelO.some_of (v := v) (o := mA f) (by rw [← l]; exact hr f)
  have J : PySem.W.InstAt s1.heap a oe C (some od) := ⟨ha, hz.1, by unfold PySem.W.notCls; rw [hd] <;> rfl, by rw [hz.2]; exact ho⟩
  exact HandSPX.exc_get I1.kIn J T.ga T.gg T.exC (PySem.W.findObj_own T.hdC hn rfl (by rw [hl, hu])) (handed_of ru) ⟨v, H1, I1.tok _, ru, q⟩
end
end L2

/-! ## EvRep -/
/-! EvRep: how the evaluator's values and heaps stand in the abstract heap of the hand layer. -/
namespace Ev
open PySem PySem.Spec PyProof.Rows L2

/-- what the module's names stand for: the written part, the globals -/
structure Md where
  K : PySem.W.Frag
  mg : Str → Option Value
abbrev Ph := List Addr

def FzL (K : PySem.W.Frag) (H : Hp) (a : Addr) (xs : List V) : Prop :=
  (∃ o, H a = some (.frz o (.lst xs))) ∨
    ∃ (o : Obj) (its : Array Value) (n : Nat), K.lookup a = some o ∧ o.cls = .type "list" ∧ o.dict = none ∧ o.data = .seq its n ∧ its.size ≤ sizeLine ∧ Vals xs its.toList
theorem FzL.sq {K : PySem.W.Frag} {H : Hp} {a : Addr} {xs : List V} (h : FzL K H a xs) : SqL K H a xs := by
  rcases h with h | h
  · exact .inl (.inr h)
  · exact .inr h
def GV (mg : Str → Option Value) (x : Str) (v : V) : Prop := ∃ u, RelV v u ∧ (mg x = some u ∨ (mg x = none ∧ bootBuiltins x = some u))

mutual
def Rep (G : Md) (φ : Ph) (H : Hp) : D → V → Prop
  | .non, v => v = .non
  | .bl b, v => v = .bl b
  | .int i, v => v = .int i
  | .str s, v => v = .str (Str.ofString s)
  | .tup ds, v => ∃ a vs, v = .ref a ∧ SqT G.K H a vs ∧ Reps G φ H ds vs
  | .frl ds, v => ∃ a vs, v = .ref a ∧ FzL G.K H a vs ∧ Reps G φ H ds vs
  | .ref n, v => ∃ a, φ[n]? = some a ∧ v = .ref a
  | .gl x, v => GV G.mg (Str.ofString x) v
def Reps (G : Md) (φ : Ph) (H : Hp) : List D → List V → Prop
  | [], vs => vs = []
  | d :: ds, vs => ∃ v r, vs = v :: r ∧ Rep G φ H d v ∧ Reps G φ H ds r
end
def KR : D → Key → Prop
  | .int i, .inl j => j = i
  | .str s, .inr x => x = Str.ofString s
  | _, _ => False
def KReps (G : Md) (φ : Ph) (H : Hp) : List (D × D) → List (Key × V) → Prop
  | [], ks => ks = []
  | (k, d) :: r, ks => ∃ j v s, ks = (j, v) :: s ∧ KR k j ∧ Rep G φ H d v ∧ KReps G φ H r s
/-- an instance's fields -/
def FReps (G : Md) (φ : Ph) (H : Hp) : List (String × D) → List (Str × V) → Prop
  | [], ks => ks = []
  | (f, d) :: r, ks => ∃ v s, ks = (Str.ofString f, v) :: s ∧ Rep G φ H d v ∧ FReps G φ H r s
def ORep (G : Md) (φ : Ph) (H : Hp) : AO → HO → Prop
  | .lst ds, ho => ∃ vs, ho = .lst vs ∧ Reps G φ H ds vs
  | .dct kvs, ho => ∃ ks, ho = .dK ks ∧ KReps G φ H kvs ks
  | .lk kvs, ho => ∃ o ks, ho = .frz o (.dK ks) ∧ KReps G φ H kvs ks
  | .ins c fs, ho => ∃ C dx vs, ho = .ins C dx vs ∧ G.mg (Str.ofString c) = some (.ref C) ∧ FReps G φ H fs vs
structure HR (G : Md) (φ : Ph) (H : Hp) (A : AH) : Prop where
  len : φ.length = A.length
  inj : ∀ (i j : Nat) (a : Addr), φ[i]? = some a → φ[j]? = some a → i = j
  at_ : ∀ (n : Nat) (a : Addr) (o : AO), φ[n]? = some a → A[n]? = some o → ∃ ho, H a = some ho ∧ ORep G φ H o ho
structure Ext (φ : Ph) (H : Hp) (φ' : Ph) (H' : Hp) : Prop where
  pre : ∃ m, φ' = φ ++ m
  keep : ∀ a o, H a = some o → a ∉ φ → H' a = some o
  new : ∀ a, a ∈ φ' → a ∉ φ → H a = none
  frz : ∀ a o u, H a = some (.frz o u) → H' a = some (.frz o u)
/-- not locked -/
def NF (H : Hp) (a : Addr) : Prop := ∀ o u, H a ≠ some (.frz o u)
theorem NF.lst {H : Hp} {a : Addr} {vs : List V} (e : H a = some (.lst vs)) : NF H a := fun o u z => by rw [e] at z; cases z
theorem NF.dK {H : Hp} {a : Addr} {ks : List (Key × V)} (e : H a = some (.dK ks)) : NF H a := fun o u z => by rw [e] at z; cases z

theorem Ext.refl {φ : Ph} {H : Hp} : Ext φ H φ H := ⟨⟨[], by simp⟩, fun _ _ e _ => e, fun a h n => absurd h n, fun _ _ _ e => e⟩
theorem Ext.trans {φ φ1 φ2 : Ph} {H H1 H2 : Hp} (a : Ext φ H φ1 H1) (b : Ext φ1 H1 φ2 H2) : Ext φ H φ2 H2 := by
  obtain ⟨m1, e1⟩ := a.pre
  obtain ⟨m2, e2⟩ := b.pre
  refine ⟨⟨m1 ++ m2, by rw [e2, e1, List.append_assoc]⟩, fun c o e n => ?_, fun c h n => ?_, fun c o u e => b.frz c o u (a.frz c o u e)⟩
  · refine b.keep c o (a.keep c o e n) fun h => ?_
    rw [a.new c h n] at e; cases e
  · by_cases h1 : c ∈ φ1
    · exact a.new c h1 n
    · have := b.new c h h1
      cases e : H c with
      | none => rfl
      | some o => rw [a.keep c o e n] at this; cases this
theorem Ext.get {φ φ' : Ph} {H H' : Hp} (x : Ext φ H φ' H') {n : Nat} {a : Addr} (h : φ[n]? = some a) : φ'[n]? = some a := by
  obtain ⟨m, e⟩ := x.pre
  rw [e, List.getElem?_append_left (List.getElem?_eq_some_iff.mp h).1]; exact h
theorem Ext.mem {φ φ' : Ph} {H H' : Hp} (x : Ext φ H φ' H') {a : Addr} (h : a ∈ φ) : a ∈ φ' := by
  obtain ⟨m, e⟩ := x.pre
  rw [e]; exact List.mem_append_left _ h

/-- an object that the evaluator's heap may hold -/
def Held : HO → Prop
  | .lst _ => True
  | .dK _ => True
  | .frz _ (.dK _) => True
  | .ins _ _ _ => True
  | _ => False
section
variable {G : Md} {φ φ' : Ph} {H H' : Hp} {A : AH}
theorem ORep.held {o : AO} {ho : HO} (h : ORep G φ H o ho) : Held ho := by
  cases o with
  | lst ds => obtain ⟨vs, rfl, _⟩ := h; trivial
  | dct kvs => obtain ⟨ks, rfl, _⟩ := h; trivial
  | lk kvs => obtain ⟨o, ks, rfl, _⟩ := h; trivial
  | ins c fs => obtain ⟨C, dx, vs, rfl, _⟩ := h; trivial
theorem HR.mem (h : HR G φ H A) {a : Addr} (ha : a ∈ φ) : ∃ (n : Nat) (o : AO) (ho : HO), φ[n]? = some a ∧ A[n]? = some o ∧ H a = some ho ∧ ORep G φ H o ho := by
  obtain ⟨n, hn, e⟩ := List.mem_iff_getElem.mp ha
  have h1 : φ[n]? = some a := by rw [List.getElem?_eq_getElem hn, e]
  have h2 : n < A.length := by rw [← h.len]; exact hn
  obtain ⟨ho, e1, e2⟩ := h.at_ n a _ h1 (List.getElem?_eq_getElem h2)
  exact ⟨n, _, ho, h1, List.getElem?_eq_getElem h2, e1, e2⟩
theorem HR.notMem (h : HR G φ H A) {a : Addr} {ho : HO} (e : H a = some ho) (n : ¬ Held ho) : a ∉ φ := fun ha => by
  obtain ⟨_, _, ho', _, _, e1, e2⟩ := h.mem ha
  rw [e] at e1; cases e1
  exact n e2.held
theorem HR.notMemN (h : HR G φ H A) {a : Addr} (e : H a = none) : a ∉ φ := fun ha => by
  obtain ⟨_, _, ho', _, _, e1, e2⟩ := h.mem ha
  rw [e] at e1; cases e1
/-- tuples and what is known -/
def Still : HO → Prop
  | .tup _ => True
  | .frz _ (.tup _) => True
  | .frz _ (.lst _) => True
  | _ => False
theorem Still.notHeld {o : HO} (s : Still o) : ¬ Held o := fun h => by
  cases o with
  | frz o u => cases u <;> first | exact s | exact h
  | _ => first | exact s | exact h
structure Mono (φ : Ph) (H : Hp) (φ' : Ph) (H' : Hp) : Prop where
  pre : ∃ m, φ' = φ ++ m
  still : ∀ a o, H a = some o → Still o → H' a = some o
theorem Mono.get (x : Mono φ H φ' H') {n : Nat} {a : Addr} (h : φ[n]? = some a) : φ'[n]? = some a := by
  obtain ⟨m, e⟩ := x.pre
  rw [e, List.getElem?_append_left (List.getElem?_eq_some_iff.mp h).1]; exact h
theorem Ext.mono (h : HR G φ H A) (x : Ext φ H φ' H') : Mono φ H φ' H' := ⟨x.pre, fun a o e s => x.keep a o e (h.notMem e s.notHeld)⟩
theorem SqT.mono {a : Addr} {xs : List V} (x : Mono φ H φ' H') (q : SqT G.K H a xs) : SqT G.K H' a xs := by
  rcases q with (q | ⟨o, q⟩) | q
  · exact .inl (.inl (x.still _ _ q trivial))
  · exact .inl (.inr ⟨o, x.still _ _ q trivial⟩)
  · exact .inr q
theorem FzL.mono {a : Addr} {xs : List V} (x : Mono φ H φ' H') (q : FzL G.K H a xs) : FzL G.K H' a xs := by
  rcases q with ⟨o, q⟩ | q
  · exact .inl ⟨o, x.still _ _ q trivial⟩
  · exact .inr q
mutual
theorem Rep.mono (x : Mono φ H φ' H') : ∀ (d : D) (v : V), Rep G φ H d v → Rep G φ' H' d v
  | .non, _, r => r
  | .bl _, _, r => r
  | .int _, _, r => r
  | .str _, _, r => r
  | .tup ds, v, r => by
    obtain ⟨a, vs, e, q, rs⟩ := r
    exact ⟨a, vs, e, SqT.mono x q, Reps.mono x ds vs rs⟩
  | .frl ds, v, r => by
    obtain ⟨a, vs, e, q, rs⟩ := r
    exact ⟨a, vs, e, FzL.mono x q, Reps.mono x ds vs rs⟩
  | .ref n, v, r => by
    obtain ⟨a, e1, e2⟩ := r
    exact ⟨a, x.get e1, e2⟩
  | .gl _, _, r => r
theorem Reps.mono (x : Mono φ H φ' H') : ∀ (ds : List D) (vs : List V), Reps G φ H ds vs → Reps G φ' H' ds vs
  | [], _, r => r
  | d :: ds, vs, r => by
    obtain ⟨v, s, e, r1, r2⟩ := r
    exact ⟨v, s, e, Rep.mono x d v r1, Reps.mono x ds s r2⟩
end
theorem KReps.mono (x : Mono φ H φ' H') : ∀ (kvs : List (D × D)) (ks : List (Key × V)), KReps G φ H kvs ks → KReps G φ' H' kvs ks
  | [], _, r => r
  | (k, d) :: kvs, ks, r => by
    obtain ⟨j, v, s, e, r0, r1, r2⟩ := r
    exact ⟨j, v, s, e, r0, Rep.mono x d v r1, KReps.mono x kvs s r2⟩
theorem FReps.mono (x : Mono φ H φ' H') : ∀ (kvs : List (String × D)) (ks : List (Str × V)), FReps G φ H kvs ks → FReps G φ' H' kvs ks
  | [], _, r => r
  | (k, d) :: kvs, ks, r => by
    obtain ⟨v, s, e, r1, r2⟩ := r
    exact ⟨v, s, e, Rep.mono x d v r1, FReps.mono x kvs s r2⟩
theorem ORep.mono (x : Mono φ H φ' H') {o : AO} {ho : HO} (r : ORep G φ H o ho) : ORep G φ' H' o ho := by
  cases o with
  | lst ds => obtain ⟨vs, e, r⟩ := r; exact ⟨vs, e, Reps.mono x _ _ r⟩
  | dct kvs => obtain ⟨ks, e, r⟩ := r; exact ⟨ks, e, KReps.mono x _ _ r⟩
  | lk kvs => obtain ⟨o, ks, e, r⟩ := r; exact ⟨o, ks, e, KReps.mono x _ _ r⟩
  | ins c fs => obtain ⟨C, dx, vs, e, g, r⟩ := r; exact ⟨C, dx, vs, e, g, FReps.mono x _ _ r⟩
theorem SqT.ext {a : Addr} {xs : List V} (h : HR G φ H A) (x : Ext φ H φ' H') (q : SqT G.K H a xs) : SqT G.K H' a xs := SqT.mono (x.mono h) q
theorem FzL.ext {a : Addr} {xs : List V} (h : HR G φ H A) (x : Ext φ H φ' H') (q : FzL G.K H a xs) : FzL G.K H' a xs := FzL.mono (x.mono h) q
theorem Rep.ext {d : D} {v : V} (h : HR G φ H A) (x : Ext φ H φ' H') (r : Rep G φ H d v) : Rep G φ' H' d v := Rep.mono (x.mono h) d v r
theorem Reps.ext {ds : List D} {vs : List V} (h : HR G φ H A) (x : Ext φ H φ' H') (r : Reps G φ H ds vs) : Reps G φ' H' ds vs := Reps.mono (x.mono h) ds vs r
theorem KReps.ext {kvs : List (D × D)} {ks : List (Key × V)} (h : HR G φ H A) (x : Ext φ H φ' H') (r : KReps G φ H kvs ks) : KReps G φ' H' kvs ks := KReps.mono (x.mono h) kvs ks r
theorem ORep.ext {o : AO} {ho : HO} (h : HR G φ H A) (x : Ext φ H φ' H') (r : ORep G φ H o ho) : ORep G φ' H' o ho := ORep.mono (x.mono h) r
/-- a new thing beside -/
theorem Ext.beside {p : Addr} {o : HO} (hp : H p = none) : Ext φ H φ (upd H p o) :=
  ⟨⟨[], by simp⟩, fun a o' e _ => by rw [upd_ne (ne_of_none e hp)]; exact e, fun a h n => absurd h n, fun a o' u e => by rw [upd_ne (ne_of_none e hp)]; exact e⟩
theorem HR.beside (h : HR G φ H A) {p : Addr} {o : HO} (hp : H p = none) : HR G φ (upd H p o) A := by
  have x : Ext φ H φ (upd H p o) := Ext.beside hp
  refine ⟨h.len, h.inj, fun n a ob e1 e2 => ?_⟩
  obtain ⟨ho, e3, r⟩ := h.at_ n a ob e1 e2
  exact ⟨ho, by rw [upd_ne (ne_of_none e3 hp)]; exact e3, r.ext h x⟩
/-- a new object -/
theorem Ext.push {p : Addr} {o : HO} (hp : H p = none) : Ext φ H (φ ++ [p]) (upd H p o) := by
  refine ⟨⟨[p], rfl⟩, fun a o' e _ => by rw [upd_ne (ne_of_none e hp)]; exact e, fun a h n => ?_, fun a o' u e => by rw [upd_ne (ne_of_none e hp)]; exact e⟩
  rcases List.mem_append.mp h with h | h
  · exact absurd h n
  · rw [List.mem_singleton.mp h]; exact hp
theorem HR.push (h : HR G φ H A) {p : Addr} {o : AO} {ho : HO} (hp : H p = none) (r : ORep G φ H o ho) : HR G (φ ++ [p]) (upd H p ho) (A ++ [o]) := by
  have x : Ext φ H (φ ++ [p]) (upd H p ho) := Ext.push hp
  have np : p ∉ φ := h.notMemN hp
  have cases_ : ∀ (n : Nat) (a : Addr), (φ ++ [p])[n]? = some a → φ[n]? = some a ∨ (n = φ.length ∧ a = p) := fun n a e => by
    by_cases hn : n < φ.length
    · rw [List.getElem?_append_left hn] at e; exact .inl e
    · rw [List.getElem?_append_right (Nat.le_of_not_lt hn)] at e
      obtain ⟨h1, h2⟩ := List.getElem?_eq_some_iff.mp e
      have : n - φ.length = 0 := by simpa using h1
      refine .inr ⟨by omega, ?_⟩
      have h3 : [p][n - φ.length] = p := by simp
      rw [← h2, h3]
  refine ⟨by simp [h.len], fun i j a e1 e2 => ?_, fun n a ob e1 e2 => ?_⟩
  · rcases cases_ i a e1 with e1 | ⟨h1, e1⟩ <;> rcases cases_ j a e2 with e2 | ⟨h2, e2⟩
    · exact h.inj i j a e1 e2
    · exact absurd (e2 ▸ List.mem_of_getElem? e1 : p ∈ φ) np
    · exact absurd (e1 ▸ List.mem_of_getElem? e2 : p ∈ φ) np
    · omega
  · rcases cases_ n a e1 with e1 | ⟨h1, e1⟩
    · have hn : n < A.length := by rw [← h.len]; exact (List.getElem?_eq_some_iff.mp e1).1
      rw [List.getElem?_append_left hn] at e2
      obtain ⟨ho', e3, r'⟩ := h.at_ n a ob e1 e2
      exact ⟨ho', by rw [upd_ne (ne_of_none e3 hp)]; exact e3, r'.ext h x⟩
    · subst e1
      rw [h1, h.len] at e2
      simp at e2
      subst e2
      exact ⟨ho, upd_same, r.ext h x⟩
/-- an object that was laid ahead of what goes in -/
theorem Ext.lay {φ2 : Ph} {H2 : Hp} {p : Addr} {o ho : HO} (x : Ext φ (upd H p o) φ2 H2) (hp : H p = none) : Ext φ H (φ2 ++ [p]) (upd H2 p ho) := by
  obtain ⟨m, e⟩ := x.pre
  refine ⟨⟨m ++ [p], by rw [e, List.append_assoc]⟩, fun a o' ea n => ?_, fun a h n => ?_, fun a o' u ea => ?_⟩
  · have hne : a ≠ p := ne_of_none ea hp
    rw [upd_ne hne]
    exact x.keep a o' (by rw [upd_ne hne]; exact ea) n
  · rcases List.mem_append.mp h with h | h
    · have := x.new a h n
      unfold upd at this
      split at this
      · cases this
      · exact this
    · rw [List.mem_singleton.mp h]; exact hp
  · have hne : a ≠ p := ne_of_none ea hp
    rw [upd_ne hne]
    exact x.frz a o' u (by rw [upd_ne hne]; exact ea)
/-- it stands, and is none of the evaluator's -/
theorem Ext.laid {φ2 : Ph} {H2 : Hp} {p : Addr} {o : HO} (x : Ext φ (upd H p o) φ2 H2) (np : p ∉ φ) : H2 p = some o ∧ p ∉ φ2 := by
  refine ⟨x.keep p o upd_same np, fun h => ?_⟩
  have := x.new p h np
  rw [upd_same] at this; cases this
theorem Mono.lay {p : Addr} {o ho : HO} (hp : H p = some o) (ns : ¬ Still o) : Mono φ H (φ ++ [p]) (upd H p ho) :=
  ⟨⟨[p], rfl⟩, fun a o' e s => by
    rw [upd_ne (show a ≠ p from fun q => by rw [q, hp] at e; cases e; exact ns s)]; exact e⟩
/-- a tracked thing of our own is changed -/
theorem Mono.own {p : Addr} {o ho : HO} (hp : H p = some o) (ns : ¬ Still o) : Mono φ H φ (upd H p ho) :=
  ⟨⟨[], by simp⟩, fun a o' e s => by
    rw [upd_ne (show a ≠ p from fun q => by rw [q, hp] at e; cases e; exact ns s)]; exact e⟩
theorem HR.lay (h : HR G φ H A) {p : Addr} {o : AO} {ho hq : HO} (hp : H p = some hq) (ns : ¬ Still hq) (np : p ∉ φ) (r : ORep G φ H o ho) : HR G (φ ++ [p]) (upd H p ho) (A ++ [o]) := by
  have x : Mono φ H (φ ++ [p]) (upd H p ho) := Mono.lay hp ns
  have cases_ : ∀ (n : Nat) (a : Addr), (φ ++ [p])[n]? = some a → φ[n]? = some a ∨ (n = φ.length ∧ a = p) := fun n a e => by
    by_cases hn : n < φ.length
    · rw [List.getElem?_append_left hn] at e; exact .inl e
    · rw [List.getElem?_append_right (Nat.le_of_not_lt hn)] at e
      obtain ⟨h1, h2⟩ := List.getElem?_eq_some_iff.mp e
      have : n - φ.length = 0 := by simpa using h1
      refine .inr ⟨by omega, ?_⟩
      have h3 : [p][n - φ.length] = p := by simp
      rw [← h2, h3]
  refine ⟨by simp [h.len], fun i j a e1 e2 => ?_, fun n a ob e1 e2 => ?_⟩
  · rcases cases_ i a e1 with e1 | ⟨h1, e1⟩ <;> rcases cases_ j a e2 with e2 | ⟨h2, e2⟩
    · exact h.inj i j a e1 e2
    · exact absurd (e2 ▸ List.mem_of_getElem? e1 : p ∈ φ) np
    · exact absurd (e1 ▸ List.mem_of_getElem? e2 : p ∈ φ) np
    · omega
  · rcases cases_ n a e1 with e1 | ⟨h1, e1⟩
    · have hn : n < A.length := by rw [← h.len]; exact (List.getElem?_eq_some_iff.mp e1).1
      rw [List.getElem?_append_left hn] at e2
      obtain ⟨ho', e3, r'⟩ := h.at_ n a ob e1 e2
      exact ⟨ho', by rw [upd_ne (show a ≠ p from fun q => np (q ▸ List.mem_of_getElem? e1))]; exact e3, r'.mono x⟩
    · subst e1
      rw [h1, h.len] at e2
      simp at e2
      subst e2
      exact ⟨ho, upd_same, r.mono x⟩
/-- a tracked thing of our own is changed: the evaluator's heap stands -/
theorem HR.own (h : HR G φ H A) {p : Addr} {ho hq : HO} (hp : H p = some hq) (ns : ¬ Still hq) (np : p ∉ φ) : HR G φ (upd H p ho) A := by
  refine ⟨h.len, h.inj, fun n a ob e1 e2 => ?_⟩
  obtain ⟨ho', e3, r'⟩ := h.at_ n a ob e1 e2
  exact ⟨ho', by rw [upd_ne (show a ≠ p from fun q => np (q ▸ List.mem_of_getElem? e1))]; exact e3, r'.mono (Mono.own hp ns)⟩
/-- an object is changed -/
theorem Ext.set {a : Addr} {o : HO} (ha : a ∈ φ) (nf : NF H a) : Ext φ H φ (upd H a o) :=
  ⟨⟨[], by simp⟩, fun b o' e n => by rw [upd_ne (show b ≠ a from fun q => n (by rw [q]; exact ha))]; exact e, fun a h n => absurd h n, fun b o' u e => by rw [upd_ne (show b ≠ a from fun q => nf o' u (by rw [← q]; exact e))]; exact e⟩
theorem HR.set (h : HR G φ H A) {n : Nat} {a : Addr} {o : AO} {ho : HO} (hn : φ[n]? = some a) (nf : NF H a) (r : ORep G φ H o ho) : HR G φ (upd H a ho) (A.set n o) := by
  have x : Ext φ H φ (upd H a ho) := Ext.set (List.mem_of_getElem? hn) nf
  refine ⟨by simp [h.len], h.inj, fun m b ob e1 e2 => ?_⟩
  by_cases hm : m = n
  · subst hm
    rw [hn] at e1; cases e1
    have hl : m < A.length := by rw [← h.len]; exact (List.getElem?_eq_some_iff.mp hn).1
    rw [List.getElem?_set_self hl] at e2
    cases e2
    exact ⟨ho, upd_same, r.ext h x⟩
  · rw [List.getElem?_set_ne (Ne.symm hm)] at e2
    obtain ⟨ho', e3, r'⟩ := h.at_ m b ob e1 e2
    refine ⟨ho', ?_, r'.ext h x⟩
    rw [upd_ne (show b ≠ a from fun q => hm (h.inj m n a (by rw [← q]; exact e1) hn))]; exact e3
theorem HR.ref (h : HR G φ H A) {n : Nat} {v : V} {o : AO} (r : Rep G φ H (.ref n) v) (e : A[n]? = some o) : ∃ a ho, v = .ref a ∧ φ[n]? = some a ∧ H a = some ho ∧ ORep G φ H o ho := by
  obtain ⟨a, e1, e2⟩ := r
  obtain ⟨ho, e3, r'⟩ := h.at_ n a o e1 e
  exact ⟨a, ho, e2, e1, e3, r'⟩

/-! ### lists of values -/
theorem Reps.length : ∀ {ds : List D} {vs : List V}, Reps G φ H ds vs → vs.length = ds.length
  | [], _, r => by rw [show _ = [] from r]; rfl
  | d :: ds, vs, r => by
    obtain ⟨v, s, rfl, _, r2⟩ := r
    simp [Reps.length r2]
theorem Reps.nil : Reps G φ H [] [] := rfl
theorem Reps.cons {d : D} {ds : List D} {v : V} {vs : List V} (r : Rep G φ H d v) (rs : Reps G φ H ds vs) : Reps G φ H (d :: ds) (v :: vs) := ⟨v, vs, rfl, r, rs⟩
theorem Reps.append : ∀ {ds es : List D} {vs ws : List V}, Reps G φ H ds vs → Reps G φ H es ws → Reps G φ H (ds ++ es) (vs ++ ws)
  | [], _, _, _, r, s => by rw [show _ = [] from r]; exact s
  | d :: ds, es, vs, ws, r, s => by
    obtain ⟨v, t, rfl, r1, r2⟩ := r
    exact ⟨v, t ++ ws, rfl, r1, Reps.append r2 s⟩
theorem Reps.get : ∀ {ds : List D} {vs : List V} {i : Nat} {d : D}, Reps G φ H ds vs → ds[i]? = some d → ∃ v, vs[i]? = some v ∧ Rep G φ H d v
  | [], _, _, _, _, e => by simp at e
  | d :: ds, vs, 0, d', r, e => by
    obtain ⟨v, t, rfl, r1, r2⟩ := r
    simp at e; subst e
    exact ⟨v, rfl, r1⟩
  | d :: ds, vs, i + 1, d', r, e => by
    obtain ⟨v, t, rfl, r1, r2⟩ := r
    obtain ⟨w, e1, r3⟩ := Reps.get (i := i) r2 (by simpa using e)
    exact ⟨w, by simpa using e1, r3⟩
theorem Reps.drop : ∀ {ds : List D} {vs : List V} (n : Nat), Reps G φ H ds vs → Reps G φ H (ds.drop n) (vs.drop n)
  | _, _, 0, r => r
  | [], _, n + 1, r => by rw [show _ = [] from r]; exact rfl
  | d :: ds, vs, n + 1, r => by
    obtain ⟨v, t, rfl, r1, r2⟩ := r
    exact Reps.drop n r2
theorem Reps.take : ∀ {ds : List D} {vs : List V} (n : Nat), Reps G φ H ds vs → Reps G φ H (ds.take n) (vs.take n)
  | _, _, 0, _ => rfl
  | [], _, n + 1, r => by rw [show _ = [] from r]; exact rfl
  | d :: ds, vs, n + 1, r => by
    obtain ⟨v, t, rfl, r1, r2⟩ := r
    exact ⟨v, t.take n, rfl, r1, Reps.take n r2⟩
theorem Reps.set : ∀ {ds : List D} {vs : List V} {d : D} {v : V} (i : Nat), Reps G φ H ds vs → Rep G φ H d v → Reps G φ H (ds.set i d) (vs.set i v)
  | [], _, _, _, _, r, _ => by rw [show _ = [] from r]; exact rfl
  | d :: ds, vs, d', v', 0, r, s => by
    obtain ⟨v, t, rfl, r1, r2⟩ := r
    exact ⟨v', t, rfl, s, r2⟩
  | d :: ds, vs, d', v', i + 1, r, s => by
    obtain ⟨v, t, rfl, r1, r2⟩ := r
    exact ⟨v, t.set i v', rfl, r1, Reps.set i r2 s⟩
theorem Reps.dropLast : ∀ {ds : List D} {vs : List V}, Reps G φ H ds vs → Reps G φ H ds.dropLast vs.dropLast := fun {ds vs} r => by
  rw [List.dropLast_eq_take, List.dropLast_eq_take, r.length]; exact r.take _

/-! ### the frame -/
def FR (G : Md) (φ : Ph) (H : Hp) (F : Fr) (σ : L2.St) : Prop := F.length = σ.length ∧ ∀ (i : Nat) (d : D), F[i]? = some (some d) → ∃ v, σ[i]? = some (some v) ∧ Rep G φ H d v
theorem FR.mono {F : Fr} {σ : L2.St} (x : Mono φ H φ' H') (r : FR G φ H F σ) : FR G φ' H' F σ :=
  ⟨r.1, fun i d e => let ⟨v, e1, r1⟩ := r.2 i d e; ⟨v, e1, Rep.mono x _ _ r1⟩⟩
theorem FR.ext {F : Fr} {σ : L2.St} (h : HR G φ H A) (x : Ext φ H φ' H') (r : FR G φ H F σ) : FR G φ' H' F σ := r.mono (x.mono h)
theorem FR.set {F : Fr} {σ : L2.St} {d : D} {v : V} (r : FR G φ H F σ) (i : Nat) (s : Rep G φ H d v) : FR G φ H (fset F i d) (σ.set i (some v)) := by
  refine ⟨by simp [fset, r.1], fun j e h => ?_⟩
  unfold fset at h
  by_cases hj : i = j
  · subst hj
    by_cases hl : i < F.length
    · rw [List.getElem?_set_self hl] at h
      cases h
      rw [r.1] at hl
      exact ⟨v, by rw [List.getElem?_set_self hl], s⟩
    · rw [List.getElem?_eq_none (by simpa using hl)] at h; cases h
  · rw [List.getElem?_set_ne hj] at h
    obtain ⟨w, e1, r1⟩ := r.2 j e h
    exact ⟨w, by rw [List.getElem?_set_ne hj]; exact e1, r1⟩
theorem FR.wipe {F : Fr} {σ : L2.St} (r : FR G φ H F σ) : ∀ l : List Nat, FR G φ H (wipeF F l) (L2.wipe σ l)
  | [] => r
  | i :: l => by
    have ih := FR.wipe r l
    refine ⟨by simp [wipeF, L2.wipe, ih.1], fun j e h => ?_⟩
    unfold wipeF at h
    unfold L2.wipe
    by_cases hj : i = j
    · subst hj
      by_cases hl : i < (wipeF F l).length
      · rw [List.getElem?_set_self hl] at h; cases h
      · rw [List.getElem?_eq_none (by simpa using hl)] at h; cases h
    · rw [List.getElem?_set_ne hj] at h
      obtain ⟨w, e1, r1⟩ := ih.2 j e h
      exact ⟨w, by rw [List.getElem?_set_ne hj]; exact e1, r1⟩
end
end Ev

/-! ## EvVal -/
/-! EvVal: the evaluator's operators keep to the model's, by values. -/
namespace Ev
open PySem PySem.Spec PyProof.Rows L2
abbrev Gd (X : Cx) : Md := ⟨X.K, X.mg⟩

/-! ### texts -/
theorem ofString_cps (s : String) : (Str.ofString s).cps.toList = s.toList.map Char.toNat := by
  rw [Str.ofString_eq_toList]
theorem char_inj {a b : Char} (h : a.toNat = b.toNat) : a = b := Char.toNat_inj.mp h
theorem map_inj_char : ∀ {a b : List Char}, a.map Char.toNat = b.map Char.toNat → a = b
  | [], [], _ => rfl
  | [], _ :: _, h => by simp at h
  | _ :: _, [], h => by simp at h
  | x :: a, y :: b, h => by
    simp only [List.map_cons, List.cons.injEq] at h
    rw [char_inj h.1, map_inj_char h.2]
theorem ofString_inj {s t : String} (h : Str.ofString s = Str.ofString t) : s = t := by
  have h1 : s.toList.map Char.toNat = t.toList.map Char.toNat := by rw [← ofString_cps, ← ofString_cps, h]
  exact String.toList_inj.mp (map_inj_char h1)
theorem ofString_beq (s t : String) : decide (Str.ofString s = Str.ofString t) = (s == t) := by
  by_cases h : s = t
  · subst h; simp
  · have : ¬ Str.ofString s = Str.ofString t := fun q => h (ofString_inj q)
    rw [decide_eq_false this]; simp [h]
theorem ofString_length (s : String) : (Str.ofString s).length = s.length := by
  show (Str.ofString s).cps.size = s.length
  rw [← Array.length_toList, ofString_cps, List.length_map, String.length_toList]
theorem ofString_append (s t : String) : Str.ofString (s ++ t) = Str.ofString s ++ Str.ofString t := by
  show _ = Str.append _ _
  unfold Str.append
  rw [Str.ofString_eq_toList, Str.ofString_eq_toList, Str.ofString_eq_toList]
  simp [String.toList_append]

/-- what is wanted behind a value's making -/
def VC (G : Md) (φ : Ph) (H : Hp) (Q : VK) (d : D) (A : AH) : Prop := ∀ φ' H' v, Ext φ H φ' H' → HR G φ' H' A → Rep G φ' H' d v → Q v H'
theorem VC.ext {G : Md} {φ φ1 : Ph} {H H1 : Hp} {Q : VK} {d : D} {A : AH} (h : VC G φ H Q d A) (x : Ext φ H φ1 H1) : VC G φ1 H1 Q d A := fun φ' H' v e => h φ' H' v (x.trans e)
section
variable {G : Md} {φ : Ph} {H : Hp} {A : AH} {Q : VK}
theorem VC.here {d : D} {v : V} (h : VC G φ H Q d A) (hr : HR G φ H A) (r : Rep G φ H d v) : Q v H := h φ H v .refl hr r
/-- a new tuple -/
theorem VC.tup {ds : List D} {vs : List V} {p : Addr} (h : VC G φ H Q (.tup ds) A) (hr : HR G φ H A) (hp : H p = none) (r : Reps G φ H ds vs) : Q (.ref p) (upd H p (.tup vs)) :=
  h φ _ _ (.beside hp) (hr.beside hp) ⟨p, vs, rfl, .of upd_same, r.ext hr (.beside hp)⟩
/-- a new object -/
theorem VC.new {o : AO} {ho : HO} {p : Addr} (h : VC G φ H Q (.ref A.length) (A ++ [o])) (hr : HR G φ H A) (hp : H p = none) (r : ORep G φ H o ho) : Q (.ref p) (upd H p ho) := by
  refine h _ _ _ (.push hp) (hr.push hp r) ⟨p, ?_, rfl⟩
  rw [← hr.len]; simp
/-- an object is changed -/
theorem VC.set {n : Nat} {a : Addr} {o : AO} {ho : HO} {d : D} {v : V} (h : VC G φ H Q d (A.set n o)) (hr : HR G φ H A) (hn : φ[n]? = some a) (nf : NF H a) (r : ORep G φ H o ho) (rv : Rep G φ H d v) : Q v (upd H a ho) :=
  h φ _ v (.set (List.mem_of_getElem? hn) nf) (hr.set hn nf r) (rv.ext hr (.set (List.mem_of_getElem? hn) nf))
theorem HR.lst (hr : HR G φ H A) {n : Nat} {a : Addr} {xs : List D} (e : A[n]? = some (.lst xs)) (ea : φ[n]? = some a) : ∃ vs, H a = some (.lst vs) ∧ Reps G φ H xs vs := by
  obtain ⟨ho, e1, vs, rfl, r⟩ := hr.at_ n a _ ea e
  exact ⟨vs, e1, r⟩
theorem HR.seq (hr : HR G φ H A) {n : Nat} {a : Addr} {xs : List D} (e : seqL A n = some xs) (ea : φ[n]? = some a) : ∃ vs, H a = some (.lst vs) ∧ Reps G φ H xs vs := by
  unfold seqL at e
  split at e
  · rename_i ys h; cases e; exact hr.lst h ea
  · cases e
theorem HR.dct (hr : HR G φ H A) {n : Nat} {a : Addr} {kvs : List (D × D)} (e : A[n]? = some (.dct kvs)) (ea : φ[n]? = some a) : ∃ ks, H a = some (.dK ks) ∧ KReps G φ H kvs ks := by
  obtain ⟨ho, e1, vs, rfl, r⟩ := hr.at_ n a _ ea e
  exact ⟨vs, e1, r⟩
theorem HR.dctL (hr : HR G φ H A) {n : Nat} {a : Addr} {kvs : List (D × D)} (e : dctL A n = some kvs) (ea : φ[n]? = some a) : ∃ ks, Rd H a (.dK ks) ∧ KReps G φ H kvs ks := by
  unfold Ev.dctL at e
  split at e
  · rename_i ys h; cases e
    obtain ⟨ks, h1, h2⟩ := hr.dct h ea
    exact ⟨ks, .inl h1, h2⟩
  · rename_i ys h; cases e
    obtain ⟨ho, e1, o, ks, rfl, r⟩ := hr.at_ n a _ ea h
    exact ⟨ks, .inr ⟨o, e1⟩, r⟩
  · cases e
end

/-! ### binary operators -/
def bop : BOp → Operator
  | .add => .Add | .sub => .Sub | .mul => .Mult | .fdiv => .FloorDiv | .mod => .Mod
theorem mul_ok {i j : Int} (h : (decide (i.natAbs < 18446744073709551616) || decide (j.natAbs < 18446744073709551616)) = true) : CMul i j := by
  simp only [Bool.or_eq_true, decide_eq_true_eq] at h
  rcases h with h | h
  · exact .inl ⟨by omega, by omega⟩
  · exact .inr ⟨by omega, by omega⟩
section
variable {X : Cx}
def rB (G : Md) (o : BOp) : R2 := fun x y H Q => ∃ φ A d e r A', HR G φ H A ∧ Rep G φ H d x ∧ Rep G φ H e y ∧ opB A o d e = .ok r A' ∧ VC G φ H Q r A'
theorem opB_ok (o : BOp) : OpR X (binaryOp (bop o)) (rB (Gd X) o) := by
  intro pins s σ H x y v u Q I rx ry h
  obtain ⟨φ, A, d, e, r, A', hr, rd, re, he, q⟩ := h
  unfold opB at he
  split at he
  · cases rd; cases re; cases he
    exact op_add pins s σ H _ _ v u Q I rx ry ⟨_, _, rfl, rfl, q.here hr rfl⟩
  · cases rd; cases re; cases he
    exact op_sub pins s σ H _ _ v u Q I rx ry ⟨_, _, rfl, rfl, q.here hr rfl⟩
  · cases rd; cases re
    split at he
    · rename_i hc; cases he
      exact op_mul pins s σ H _ _ v u Q I rx ry ⟨_, _, rfl, rfl, mul_ok hc, q.here hr rfl⟩
    · cases he
  · cases rd; cases re
    split at he
    · rename_i hc; cases he
      simp only [Bool.and_eq_true, decide_eq_true_eq] at hc
      exact op_fdiv pins s σ H _ _ v u Q I rx ry ⟨_, _, rfl, rfl, hc, q.here hr rfl⟩
    · cases he
  · cases rd; cases re
    split at he
    · rename_i hc; cases he
      exact op_mod pins s σ H _ _ v u Q I rx ry ⟨_, _, rfl, rfl, hc, q.here hr rfl⟩
    · cases he
  · cases rd; cases re
    split at he
    · rename_i hc; cases he
      refine op_add_str pins s σ H _ _ v u Q I rx ry ⟨_, _, rfl, rfl, ?_, ?_⟩
      · rw [ofString_length, ofString_length]; exact hc
      · exact q.here hr (by show _ = _; rw [ofString_append])
    · cases he
  · rename_i xs ys
    split at he
    · rename_i hc; cases he
      obtain ⟨a, vs, rfl, q1, r1⟩ := rd
      obtain ⟨b, ws, rfl, q2, r2⟩ := re
      have l1 := r1.length
      have l2 := r2.length
      exact op_catA pins s σ H _ _ v u Q I rx ry ⟨a, b, vs, ws, rfl, rfl, q1, q2, by omega, fun h0 => q.here hr ⟨b, ws, rfl, q2, by
        subst h0
        have : xs = [] := by cases xs with | nil => rfl | cons => simp at l1
        subst this; exact r2⟩, fun _ h0 => q.here hr ⟨a, vs, rfl, q1, by
        subst h0
        have : ys = [] := by cases ys with | nil => rfl | cons => simp at l2
        subst this; rw [List.append_nil]; exact r1⟩, fun _ _ p hp => q.tup hr hp (r1.append r2)⟩
    · cases he
  · rename_i na nb
    obtain ⟨a, ea, rfl⟩ := rd
    obtain ⟨b, eb, rfl⟩ := re
    split at he
    · rename_i xs ys h1 h2
      split at he
      · rename_i hc; cases he
        obtain ⟨vs, e1, r1⟩ := hr.lst h1 ea
        obtain ⟨ws, e2, r2⟩ := hr.lst h2 eb
        have l1 := r1.length
        have l2 := r2.length
        exact op_cat pins s σ H _ _ v u Q I rx ry ⟨a, b, vs, ws, rfl, rfl, e1, e2, by omega, fun p hp => q.new hr hp ⟨_, rfl, r1.append r2⟩⟩
      · cases he
    · cases he
  · cases he

/-! ### equality of data -/
mutual
theorem dp_of {G : Md} {φ : Ph} {H : Hp} : ∀ (d : D) (v : V) (p : PyData), Rep G φ H d v → toPd d = some p → Dp G.K H v p
  | .non, v, p, r, h => by cases h; cases r; exact .non
  | .bl b, v, p, r, h => by cases h; cases r; exact .bl b
  | .int i, v, p, r, h => by cases h; cases r; exact .int i
  | .str s, v, p, r, h => by cases h; cases r; exact .str _
  | .tup ds, v, p, r, h => by
    obtain ⟨a, vs, rfl, q, rs⟩ := r
    unfold toPd at h
    cases e : toPds ds with
    | none => rw [e] at h; cases h
    | some ps => rw [e] at h; cases h; exact .tup q (dps_of ds vs ps rs e)
  | .frl _, _, _, _, h => by cases h
  | .ref _, _, _, _, h => by cases h
  | .gl _, _, _, _, h => by cases h
theorem dps_of {G : Md} {φ : Ph} {H : Hp} : ∀ (ds : List D) (vs : List V) (ps : List PyData), Reps G φ H ds vs → toPds ds = some ps → DpAll G.K H vs ps
  | [], vs, ps, r, h => by cases h; rw [show vs = [] from r]; exact .nil
  | d :: ds, vs, ps, r, h => by
    obtain ⟨v, t, rfl, r1, r2⟩ := r
    unfold toPds at h
    cases e1 : toPd d with
    | none => rw [e1] at h; cases h
    | some p =>
      cases e2 : toPds ds with
      | none => rw [e1, e2] at h; cases h
      | some ps' => rw [e1, e2] at h; cases h; exact .cons (dp_of d v p r1 e1) (dps_of ds t ps' r2 e2)
end
theorem dpA_of {G : Md} {φ : Ph} {H : Hp} {A : AH} (hr : HR G φ H A) {d : D} {v : V} {p : PyData} (r : Rep G φ H d v) (h : toP A d = some p) : Dp G.K H v p := by
  unfold toP at h
  split at h
  · rename_i n
    obtain ⟨a, ea, rfl⟩ := r
    split at h
    · rename_i xs hx
      obtain ⟨vs, e1, r1⟩ := hr.seq hx ea
      cases e : toPds xs with
      | none => rw [e] at h; cases h
      | some ps => rw [e] at h; cases h; exact .lst (.of e1) (dps_of xs vs ps r1 e)
    · cases h
  · exact dp_of _ _ _ r h
theorem flatV_of {G : Md} {φ : Ph} {H : Hp} {d : D} {v : V} (r : Rep G φ H d v) (f : flatD d = true) : flatV v = true := by
  cases d <;> first | (cases f; done) | (cases r; rfl)
theorem flatVs_of {G : Md} {φ : Ph} {H : Hp} : ∀ {ds : List D} {vs : List V}, Reps G φ H ds vs → ds.all flatD = true → vs.all flatV = true
  | [], vs, r, _ => by rw [show vs = [] from r]; rfl
  | d :: ds, vs, r, f => by
    obtain ⟨v, t, rfl, r1, r2⟩ := r
    simp only [List.all_cons, Bool.and_eq_true] at f ⊢
    exact ⟨flatV_of r1 f.1, flatVs_of r2 f.2⟩
theorem flatEq_of {G : Md} {φ : Ph} {H : Hp} {d e : D} {v w : V} (r : Rep G φ H d v) (s : Rep G φ H e w) (f : flatD d = true) (g : flatD e = true) : eqV v w = flatEq d e := by
  cases d <;> first | (cases f; done) | skip
  all_goals (cases e <;> first | (cases g; done) | skip)
  all_goals (cases r; cases s)
  all_goals (first | rfl | skip)
  rename_i a b
  show (Str.ofString a == Str.ofString b) = (a == b)
  rw [← ofString_beq, Bool.beq_eq_decide_eq]
theorem inV_of {G : Md} {φ : Ph} {H : Hp} {e : D} {w : V} (s : Rep G φ H e w) (g : flatD e = true) : ∀ {ds : List D} {vs : List V}, Reps G φ H ds vs → ds.all flatD = true → inV w vs = ds.any fun z => flatEq z e
  | [], vs, r, _ => by rw [show vs = [] from r]; rfl
  | d :: ds, vs, r, f => by
    obtain ⟨v, t, rfl, r1, r2⟩ := r
    simp only [List.all_cons, Bool.and_eq_true] at f
    have ih := inV_of s g r2 f.2
    unfold inV at ih ⊢
    rw [List.any_cons, List.any_cons, ih, flatEq_of r1 s f.1 g]
end
end Ev

/-! ## EvVal2 -/
/-! EvVal2: dicts, comparisons, truth, subscripts, slices, stores by values. -/
namespace Ev
open PySem PySem.Spec PyProof.Rows L2

/-! ### dicts -/
theorem KR.key {G : Md} {φ : Ph} {H : Hp} {k : D} {v : V} (h : keyOk k = true) (r : Rep G φ H k v) : ∃ j, v = kV j ∧ KR k j := by
  cases k with
  | int i => cases r; exact ⟨.inl i, rfl, rfl⟩
  | str s => cases r; exact ⟨.inr _, rfl, rfl⟩
  | _ => cases h
theorem KR.rep {G : Md} {φ : Ph} {H : Hp} {k : D} {j : Key} (h : KR k j) : Rep G φ H k (kV j) := by
  cases k <;> cases j <;> first | (exact h.elim) | (cases h; rfl)
theorem KR.ok {k : D} {j : Key} (h : KR k j) : keyOk k = true := by
  cases k <;> cases j <;> first | (exact h.elim) | rfl
theorem KR.eq {k l : D} {i j : Key} (a : KR k i) (b : KR l j) : keyEq k l = decide (i = j) := by
  cases k <;> cases i <;> first | (exact a.elim) | skip
  all_goals (cases l <;> cases j <;> first | (exact b.elim) | skip)
  all_goals (cases a; cases b)
  · rw [key_ll]; rfl
  · rw [key_lr]; rfl
  · rw [key_rl]; rfl
  · rw [key_rr, ofString_beq]; rfl
section
variable {G : Md} {φ : Ph} {H : Hp} {A : AH}
theorem KReps.get {k : D} {j : Key} (hk : KR k j) : ∀ {kvs : List (D × D)} {ks : List (Key × V)}, KReps G φ H kvs ks →
    (∃ d v, dget kvs k = some d ∧ valV ks j = some v ∧ Rep G φ H d v) ∨ (dget kvs k = none ∧ valV ks j = none)
  | [], ks, r => by rw [show ks = [] from r]; exact .inr ⟨rfl, rfl⟩
  | (l, d) :: kvs, ks, r => by
    obtain ⟨i, v, s, rfl, r0, r1, r2⟩ := r
    have he := KR.eq r0 hk
    by_cases hij : i = j
    · rw [decide_eq_true hij] at he
      exact .inl ⟨d, v, by simp [dget, List.find?_cons, he], valV_pos hij, r1⟩
    · rw [decide_eq_false hij] at he
      have ih := KReps.get hk r2
      rw [valV_neg (p := (i, v)) hij]
      rcases ih with ⟨d', v', h1, h2, h3⟩ | ⟨h1, h2⟩
      · exact .inl ⟨d', v', by simpa [dget, List.find?_cons, he] using h1, h2, h3⟩
      · exact .inr ⟨by simpa [dget, List.find?_cons, he] using h1, h2⟩
theorem KReps.any {k : D} {j : Key} (hk : KR k j) : ∀ {kvs : List (D × D)} {ks : List (Key × V)}, KReps G φ H kvs ks → (kvs.any fun kv => keyEq kv.1 k) = ks.any fun kv => decide (kv.1 = j)
  | [], ks, r => by rw [show ks = [] from r]; rfl
  | (l, d) :: kvs, ks, r => by
    obtain ⟨i, v, s, rfl, r0, r1, r2⟩ := r
    rw [List.any_cons, List.any_cons, KReps.any hk r2, KR.eq r0 hk]
theorem KReps.repl {k d : D} {j : Key} {v : V} (hk : KR k j) (rd : Rep G φ H d v) : ∀ {kvs : List (D × D)} {ks : List (Key × V)}, KReps G φ H kvs ks →
    KReps G φ H (kvs.map fun kv => if keyEq kv.1 k then (kv.1, d) else kv) (ks.map fun kv => if kv.1 = j then (kv.1, v) else kv)
  | [], ks, r => by rw [show ks = [] from r]; exact rfl
  | (l, d') :: kvs, ks, r => by
    obtain ⟨i, v', s, rfl, r0, r1, r2⟩ := r
    have ih := KReps.repl hk rd r2
    have he := KR.eq r0 hk
    rw [List.map_cons, List.map_cons]
    by_cases hij : i = j
    · rw [decide_eq_true hij] at he
      have e1 : (if keyEq (l, d').1 k = true then ((l, d').1, d) else (l, d')) = (l, d) := by simp [he]
      have e2 : (if (i, v').1 = j then ((i, v').1, v) else (i, v')) = (i, v) := by simp [hij]
      rw [e1, e2]
      exact ⟨i, v, _, rfl, r0, rd, ih⟩
    · rw [decide_eq_false hij] at he
      have e1 : (if keyEq (l, d').1 k = true then ((l, d').1, d) else (l, d')) = (l, d') := by simp [he]
      have e2 : (if (i, v').1 = j then ((i, v').1, v) else (i, v')) = (i, v') := by simp [hij]
      rw [e1, e2]
      exact ⟨i, v', _, rfl, r0, r1, ih⟩
theorem KReps.snoc {k d : D} {j : Key} {v : V} (hk : KR k j) (rd : Rep G φ H d v) : ∀ {kvs : List (D × D)} {ks : List (Key × V)}, KReps G φ H kvs ks → KReps G φ H (kvs ++ [(k, d)]) (ks ++ [(j, v)])
  | [], ks, r => by rw [show ks = [] from r]; exact ⟨j, v, [], rfl, hk, rd, rfl⟩
  | (l, d') :: kvs, ks, r => by
    obtain ⟨i, v', s, rfl, r0, r1, r2⟩ := r
    exact ⟨i, v', s ++ [(j, v)], rfl, r0, r1, KReps.snoc hk rd r2⟩
theorem KReps.put {k d : D} {j : Key} {v : V} (hk : KR k j) (rd : Rep G φ H d v) {kvs : List (D × D)} {ks : List (Key × V)} (r : KReps G φ H kvs ks) : KReps G φ H (dput kvs k d) (putK ks j v) := by
  unfold dput putK
  rw [KReps.any hk r]
  split
  · exact KReps.repl hk rd r
  · exact KReps.snoc hk rd r
theorem KReps.drop {k : D} {j : Key} (hk : KR k j) : ∀ {kvs : List (D × D)} {ks : List (Key × V)}, KReps G φ H kvs ks → KReps G φ H (ddrop kvs k) (dropK ks j)
  | [], ks, r => by rw [show ks = [] from r]; exact rfl
  | (l, d') :: kvs, ks, r => by
    obtain ⟨i, v', s, rfl, r0, r1, r2⟩ := r
    have ih := KReps.drop hk r2
    have he := KR.eq r0 hk
    unfold ddrop dropK at ih ⊢
    by_cases hij : i = j
    · rw [decide_eq_true hij] at he
      simpa [List.filter_cons, he, hij] using ih
    · rw [decide_eq_false hij] at he
      have e1 : (List.filter (fun kv => !keyEq kv.1 k) ((l, d') :: kvs)) = (l, d') :: List.filter (fun kv => !keyEq kv.1 k) kvs := by simp [List.filter_cons, he]
      have e2 : (List.filter (fun kv => decide (kv.1 ≠ j)) ((i, v') :: s)) = (i, v') :: List.filter (fun kv => decide (kv.1 ≠ j)) s := by simp [List.filter_cons, hij]
      rw [e1, e2]
      exact ⟨i, v', _, rfl, r0, r1, ih⟩
theorem KReps.merge {more : List (D × D)} : ∀ {kvs : List (D × D)} {ms ks : List (Key × V)}, KReps G φ H more ms → KReps G φ H kvs ks → KReps G φ H (dmerge kvs more) (mergeK ks ms) := by
  induction more with
  | nil => intro kvs ms ks r s; rw [show ms = [] from r]; exact s
  | cons kd more ih =>
    intro kvs ms ks r s
    obtain ⟨k, d⟩ := kd
    obtain ⟨i, v', t, rfl, r0, r1, r2⟩ := r
    show KReps G φ H (dmerge (dput kvs k d) more) (mergeK (putK ks i v') t)
    exact ih r2 (KReps.put r0 r1 s)
theorem KReps.length : ∀ {kvs : List (D × D)} {ks : List (Key × V)}, KReps G φ H kvs ks → ks.length = kvs.length
  | [], ks, r => by rw [show ks = [] from r]; rfl
  | (k, d) :: kvs, ks, r => by
    obtain ⟨i, v', t, rfl, r0, r1, r2⟩ := r
    simp [KReps.length r2]
theorem KReps.keys : ∀ {kvs : List (D × D)} {ks : List (Key × V)}, KReps G φ H kvs ks → Reps G φ H (kvs.map (·.1)) (ks.map fun kv => kV kv.1)
  | [], ks, r => by rw [show ks = [] from r]; exact rfl
  | (k, d) :: kvs, ks, r => by
    obtain ⟨i, v', t, rfl, r0, r1, r2⟩ := r
    exact ⟨_, _, rfl, r0.rep, KReps.keys r2⟩
theorem KReps.at {kvs : List (D × D)} : ∀ {ks : List (Key × V)} {i : Nat} {k d : D}, KReps G φ H kvs ks → kvs[i]? = some (k, d) → ∃ j v, ks[i]? = some (j, v) ∧ KR k j ∧ Rep G φ H d v := by
  induction kvs with
  | nil => intro ks i k d _ e; simp at e
  | cons kv kvs ih =>
    intro ks i k d r e
    obtain ⟨l, d'⟩ := kv
    obtain ⟨j, v', t, rfl, r0, r1, r2⟩ := r
    cases i with
    | zero => simp at e; obtain ⟨rfl, rfl⟩ := e; exact ⟨j, v', rfl, r0, r1⟩
    | succ i => simpa using ih r2 (by simpa using e)
/-- what a dict holds at a key -/
theorem HR.dgetL (hr : HR G φ H A) {n : Nat} {a : Addr} {kvs : List (D × D)} {k : D} {y : V} (e : Ev.dctL A n = some kvs) (ea : φ[n]? = some a) (hk : keyOk k = true) (r : Rep G φ H k y) :
    (∃ d v, dget kvs k = some d ∧ DGet H a y (some v) ∧ Rep G φ H d v) ∨ (dget kvs k = none ∧ DGet H a y none) := by
  obtain ⟨ks, h1, h2⟩ := hr.dctL e ea
  obtain ⟨j, rfl, hj⟩ := KR.key hk r
  rcases h2.get hj with ⟨d, v, q1, q2, q3⟩ | ⟨q1, q2⟩
  · exact .inl ⟨d, v, q1, .inl ⟨ks, j, h1, rfl, q2.symm⟩, q3⟩
  · exact .inr ⟨q1, .inl ⟨ks, j, h1, rfl, q2.symm⟩⟩
end

/-! ### comparisons -/
def cop : COp → CmpOp
  | .eq => .Eq | .ne => .NotEq | .lt => .Lt | .le => .LtE | .gt => .Gt | .ge => .GtE | .is => .Is | .isnt => .IsNot | .mem => .In | .nmem => .NotIn
def rC (G : Md) (o : COp) : R2 := fun x y H Q => ∃ φ A d e b, HR G φ H A ∧ Rep G φ H d x ∧ Rep G φ H e y ∧ opC A o d e = some b ∧ Q (.bl b) H
section
variable {X : Cx}
theorem in_ok (hu : X.A.units + 65 < cLine) (neg : Bool) : OpR X (compareOp (if neg then .NotIn else .In)) (fun x y H Q => ∃ φ A d e b, HR (Gd X) φ H A ∧ Rep (Gd X) φ H d x ∧ Rep (Gd X) φ H e y ∧ memD A d e = some b ∧ Q (.bl (if neg then !b else b)) H) := by
  intro pins s σ H x y v u Q I rx ry h
  obtain ⟨φ, A, d, e, b, hr, rd, re, he, q⟩ := h
  unfold memD at he
  split at he
  · rename_i n
    obtain ⟨a, ea, rfl⟩ := re
    split at he
    · rename_i kvs hkv
      split at he
      · rename_i hk; cases he
        have ry' : u = Value.ref a := ry
        subst ry'
        rcases hr.dgetL hkv ea hk rd with ⟨d', v', q1, q2, _⟩ | ⟨q1, q2⟩
        · rw [q1] at q
          cases neg with
          | true => exact d_notIn (by omega) I q2 rx fun s' I' => ⟨.bl (!(some v').isSome), H, I', rfl, q⟩
          | false => exact d_in (by omega) I q2 rx fun s' I' => ⟨.bl (some v').isSome, H, I', rfl, q⟩
        · rw [q1] at q
          cases neg with
          | true => exact d_notIn (by omega) I q2 rx fun s' I' => ⟨.bl (!(none : Option V).isSome), H, I', rfl, q⟩
          | false => exact d_in (by omega) I q2 rx fun s' I' => ⟨.bl (none : Option V).isSome, H, I', rfl, q⟩
      · cases he
    · split at he
      · rename_i xs hx
        split at he
        · rename_i hf; cases he
          simp only [Bool.and_eq_true] at hf
          obtain ⟨vs, e1, r1⟩ := hr.seq hx ea
          have hin := inV_of rd hf.1 r1 hf.2
          cases neg with
          | true => exact op_notIn_seq pins s σ H _ _ v u Q I rx ry ⟨a, vs, rfl, .inl (.of e1), flatV_of rd hf.1, flatVs_of r1 hf.2, by rw [hin]; exact q⟩
          | false => exact op_in_seq pins s σ H _ _ v u Q I rx ry ⟨a, vs, rfl, .inl (.of e1), flatV_of rd hf.1, flatVs_of r1 hf.2, by rw [hin]; exact q⟩
        · cases he
      · cases he
  · rename_i xs
    obtain ⟨a, vs, rfl, hq, r1⟩ := re
    split at he
    · rename_i hf; cases he
      simp only [Bool.and_eq_true] at hf
      have hin := inV_of rd hf.1 r1 hf.2
      cases neg with
      | true => exact op_notIn_seq pins s σ H _ _ v u Q I rx ry ⟨a, vs, rfl, .inr hq, flatV_of rd hf.1, flatVs_of r1 hf.2, by rw [hin]; exact q⟩
      | false => exact op_in_seq pins s σ H _ _ v u Q I rx ry ⟨a, vs, rfl, .inr hq, flatV_of rd hf.1, flatVs_of r1 hf.2, by rw [hin]; exact q⟩
    · cases he
  · cases he
theorem rep_non {G : Md} {φ : Ph} {H : Hp} {d : D} {v : V} {A : AH} (hr : HR G φ H A) (r : Rep G φ H d v) (hg : ∀ x, d ≠ .gl x) : decide (v = .non) = Ev.isNon d := by
  cases d with
  | non => cases r; rfl
  | bl b => cases r; rfl
  | int i => cases r; rfl
  | str s => cases r; rfl
  | tup ds => obtain ⟨a, vs, rfl, _⟩ := r; rfl
  | frl ds => obtain ⟨a, vs, rfl, _⟩ := r; rfl
  | ref n => obtain ⟨a, _, rfl⟩ := r; rfl
  | gl x => exact absurd rfl (hg x)
theorem hits_of {pins : List (Addr × Obj)} {s : Shared} {σ : L2.St} {H : Hp} {φ : Ph} (I : Inv X pins σ H s) (hu : X.A.in1.units + 64 < cLine) {kb : List (D × D)} {ls : List (Key × V)} {vb : List (Key × Value)} (rl : KReps (Gd X) φ H kb ls) (rb : KV ls vb) :
    ∀ {ka : List (D × D)} {ks : List (Key × V)} {va : List (Key × Value)} {r : Bool}, KReps (Gd X) φ H ka ks → KV ks va → eqH kb ka = some r → PySem.W.KeqHits X.A.in1 s vb va r
  | [], ks, va, r, rk, rv, h => by
    rw [show ks = [] from rk] at rv
    cases rv
    cases h
    exact .nil
  | (k, v) :: ka, ks, va, r, rk, rv, h => by
    obtain ⟨j, u, t, rfl, rj, ru, rt⟩ := rk
    cases rv with
    | cons hq ht =>
      rename_i q qs
      obtain ⟨k', y⟩ := q
      obtain ⟨h1, h2⟩ := hq
      have h1 : j = k' := h1
      subst h1
      unfold eqH at h
      rcases rl.get rj with ⟨d, w, e1, e2, rw'⟩ | ⟨e1, e2⟩
      · rw [e1] at h
        dsimp only at h
        have rr : RelO (some w) (valueAt vb j) := by rw [← e2]; exact rb.val j
        obtain ⟨z, hz, rz⟩ := rr.some_of
        cases hp : toPd v with
        | none => rw [hp] at h; cases h
        | some p =>
          cases hp2 : toPd d with
          | none => rw [hp, hp2] at h; cases h
          | some p2 =>
            rw [hp, hp2] at h
            dsimp only at h
            split at h
            · rename_i hs
              simp only [Bool.and_eq_true] at hs
              cases hh : eqH kb ka with
              | none => rw [hh] at h; cases h
              | some b =>
                rw [hh] at h
                cases h
                obtain ⟨as, r1⟩ := Dp.reads I p u y (dp_of v u p ru hp) h2
                obtain ⟨bs, r2⟩ := Dp.reads I p2 w z (dp_of d w p2 rw' hp2) rz
                exact .hit hz (PySem.W.keq_at r1 r2 hs.1 hs.2 hu) (hits_of I hu rl rb rt ht hh)
            · cases h
      · rw [e1] at h
        cases h
        have rr : RelO none (valueAt vb j) := by rw [← e2]; exact rb.val j
        exact .miss (RelO.none_of rr)
theorem dctO_of {φ : Ph} {H : Hp} {A : AH} {d : D} {v : V} {kvs : List (D × D)} (hr : HR (Gd X) φ H A) (r : Rep (Gd X) φ H d v) (h : dctO A d = some kvs) : ∃ a ks, v = .ref a ∧ H a = some (.dK ks) ∧ KReps (Gd X) φ H kvs ks := by
  unfold dctO at h
  split at h
  · rename_i n
    obtain ⟨a, ea, rfl⟩ := r
    split at h
    · rename_i k hk
      cases h
      obtain ⟨ks, h1, h2⟩ := hr.dct hk ea
      exact ⟨a, ks, rfl, h1, h2⟩
    · cases h
  · cases h
theorem eqK_ok (hu : X.A.units + 65 < cLine) (neg : Bool) {pins : List (Addr × Obj)} {s : Shared} {σ : L2.St} {H : Hp} {φ : Ph} {A : AH} {d e : D} {x y : V} {v u : Value} {Q : VK} {ka kb : List (D × D)} {r : Bool} (I : Inv X pins σ H s) (hr : HR (Gd X) φ H A) (rd : Rep (Gd X) φ H d x) (re : Rep (Gd X) φ H e y)
    (rx : RelV x v) (ry : RelV y u) (h1 : dctO A d = some ka) (h2 : dctO A e = some kb) (h : eqK ka kb = some r) (q : Q (.bl (if neg then !r else r)) H) : wpAny (model X.prog X.w) X.A (compareOp (if neg then .NotEq else .Eq) v u) (EP X pins σ Q) X.xe s := by
  obtain ⟨a, ks, rfl, ea, rk⟩ := dctO_of hr rd h1
  obtain ⟨b, ls, rfl, eb, rl⟩ := dctO_of hr re h2
  obtain rfl : v = Value.ref a := rx
  obtain rfl : u = Value.ref b := ry
  obtain ⟨_, ya, va, ra, da⟩ := (show ObjOk X.prog X.w H s.heap a (.dK ks) from I.hok a _ ea)
  obtain ⟨_, yb, vb, rb, db⟩ := (show ObjOk X.prog X.w H s.heap b (.dK ls) from I.hok b _ eb)
  have la : va.length = ka.length := by rw [← ra.length, rk.length]
  have lb : vb.length = kb.length := by rw [← rb.length, rl.length]
  have hu1 : X.A.in1.units + 64 < cLine := by show X.A.units + 1 + 64 < _; omega
  unfold eqK at h
  by_cases hl : ka.length = kb.length
  · rw [if_pos hl] at h
    cases neg with
    | true => exact PySem.W.keq_ne (knd := mixKind X.prog X.w) (r := r) ya yb da db (by omega) (fun _ => hits_of I hu1 rl rb rk ra h) (fin_bl I q (by simp [la, lb, hl]))
    | false => exact PySem.W.keq_eq (knd := mixKind X.prog X.w) (r := r) ya yb da db (by omega) (fun _ => hits_of I hu1 rl rb rk ra h) (fin_bl I q (by simp [la, lb, hl]))
  · rw [if_neg hl] at h
    cases h
    have hne : ¬ va.length = vb.length := by rw [la, lb]; exact hl
    cases neg with
    | true => exact PySem.W.keq_ne (knd := mixKind X.prog X.w) (r := true) ya yb da db (by omega) (fun z => absurd z hne) (fin_bl I q (by simp [la, lb, hl]))
    | false => exact PySem.W.keq_eq (knd := mixKind X.prog X.w) (r := true) ya yb da db (by omega) (fun z => absurd z hne) (fin_bl I q (by simp [la, lb, hl]))
theorem eqO_of {A : AH} {d e : D} {r : Bool} (h : eqO A d e = some r) : (∃ ka kb, dctO A d = some ka ∧ dctO A e = some kb ∧ eqK ka kb = some r) ∨ eqD A d e = some r := by
  unfold eqO at h
  split at h
  · rename_i ka kb h1 h2
    exact .inl ⟨ka, kb, h1, h2, h⟩
  · exact .inr h
theorem opC_ok (hu : X.A.units + 65 < cLine) (o : COp) : OpR X (compareOp (cop o)) (rC (Gd X) o) := by
  intro pins s σ H x y v u Q I rx ry h
  obtain ⟨φ, A, d, e, b, hr, rd, re, he, q⟩ := h
  have eqs : ∀ r, eqD A d e = some r → ∃ p q, Dp X.K H x p ∧ Dp X.K H y q ∧ SeqAt.shaped p = true ∧ SeqAt.shaped q = true ∧ PyData.eqv p q = r := fun r hh => by
    unfold eqD at hh
    split at hh
    · rename_i p q' h1 h2
      split at hh
      · rename_i hs; cases hh
        simp only [Bool.and_eq_true] at hs
        exact ⟨p, q', dpA_of hr rd h1, dpA_of hr re h2, hs.1, hs.2, rfl⟩
      · cases hh
    · cases hh
  cases o with
  | eq =>
    rcases eqO_of he with ⟨ka, kb, h1, h2, h3⟩ | he
    · exact eqK_ok (by omega) false I hr rd re rx ry h1 h2 h3 q
    obtain ⟨p, p', h1, h2, h3, h4, h5⟩ := eqs b he
    exact op_eqD (by omega) pins s σ H x y v u Q I rx ry ⟨p, p', h1, h2, h3, h4, by rw [h5]; exact q⟩
  | ne =>
    have he : (eqO A d e).map (!·) = some b := he
    obtain ⟨r, hr1, hr2⟩ := Option.map_eq_some_iff.mp he
    rcases eqO_of hr1 with ⟨ka, kb, h1, h2, h3⟩ | hr1
    · exact eqK_ok (by omega) true I hr rd re rx ry h1 h2 h3 (by simp only [if_true]; rw [hr2]; exact q)
    obtain ⟨p, p', h1, h2, h3, h4, h5⟩ := eqs r hr1
    exact op_neD (by omega) pins s σ H x y v u Q I rx ry ⟨p, p', h1, h2, h3, h4, by rw [h5, hr2]; exact q⟩
  | lt =>
    have he : cmpI (fun i j => decide (i < j)) d e = some b := he
    unfold cmpI at he
    split at he
    · cases he; cases rd; cases re; exact op_lt pins s σ H _ _ v u Q I rx ry ⟨_, _, rfl, rfl, q⟩
    · cases he
  | le =>
    have he : cmpI (fun i j => decide (i ≤ j)) d e = some b := he
    unfold cmpI at he
    split at he
    · cases he; cases rd; cases re; exact op_le pins s σ H _ _ v u Q I rx ry ⟨_, _, rfl, rfl, q⟩
    · cases he
  | gt =>
    have he : cmpI (fun i j => decide (j < i)) d e = some b := he
    unfold cmpI at he
    split at he
    · cases he; cases rd; cases re; exact op_gt pins s σ H _ _ v u Q I rx ry ⟨_, _, rfl, rfl, q⟩
    · cases he
  | ge =>
    have he : cmpI (fun i j => decide (j ≤ i)) d e = some b := he
    unfold cmpI at he
    split at he
    · cases he; cases rd; cases re; exact op_ge pins s σ H _ _ v u Q I rx ry ⟨_, _, rfl, rfl, q⟩
    · cases he
  | is =>
    have hg : ∀ x, d ≠ .gl x := fun x z => by rw [z] at he; cases he
    have he : isN d e = some b := by
      cases d <;> first | exact he | exact absurd rfl (hg _)
    unfold isN at he
    split at he
    · cases re
      refine op_isN pins s σ H _ _ v u Q I rx ry ⟨rfl, ?_⟩
      rw [rep_non hr rd hg]
      cases he
      exact q
    · cases he
  | isnt =>
    have hg : ∀ x, d ≠ .gl x := fun x z => by rw [z] at he; cases he
    have he : (isN d e).map (!·) = some b := by
      cases d <;> first | exact he | exact absurd rfl (hg _)
    unfold isN at he
    split at he
    · cases re
      refine op_notN pins s σ H _ _ v u Q I rx ry ⟨rfl, ?_⟩
      rw [rep_non hr rd hg]
      cases he
      exact q
    · cases he
  | mem => exact in_ok hu false pins s σ H x y v u Q I rx ry ⟨φ, A, d, e, b, hr, rd, re, he, q⟩
  | nmem =>
    have he : (memD A d e).map (!·) = some b := he
    obtain ⟨r, hr1, hr2⟩ := Option.map_eq_some_iff.mp he
    exact in_ok hu true pins s σ H x y v u Q I rx ry ⟨φ, A, d, e, r, hr, rd, re, hr1, by rw [show (if true = true then !r else r) = b from hr2]; exact q⟩

/-! ### truth -/
theorem tru_of {G : Md} {φ : Ph} {H : Hp} {A : AH} {d : D} {x : V} {b : Bool} (hr : HR G φ H A) (r : Rep G φ H d x) (h : truth A d = some b) : TruV G.K x H b := by
  unfold truth at h
  split at h
  · cases h; cases r; rfl
  · cases h; cases r; rfl
  · cases h; cases r; rfl
  · rename_i z
    split at h
    case isFalse => cases h
    rename_i hs
    cases h; cases r
    refine ⟨by rw [ofString_length]; exact hs, ?_⟩
    rw [ofString_length]
    by_cases hz : z = ""
    · subst hz; decide
    · have : z.length ≠ 0 := fun q => hz (String.length_eq_zero_iff.mp q)
      have e1 : (z != "") = true := bne_iff_ne.mpr hz
      have e2 : ((z.length : Int) != 0) = true := bne_iff_ne.mpr (by omega)
      rw [e1, e2]
  · rename_i xs
    obtain ⟨a, vs, rfl, hq, rs⟩ := r
    cases h
    refine .inr (.inl ⟨vs, hq, ?_⟩)
    have := rs.length
    cases xs <;> cases vs <;> first | rfl | (simp at this)
  · rename_i n
    obtain ⟨a, ea, rfl⟩ := r
    split at h
    · rename_i xs hx
      cases h
      obtain ⟨vs, e1, rs⟩ := hr.lst hx ea
      refine .inl ⟨vs, .of e1, ?_⟩
      have := rs.length
      cases xs <;> cases vs <;> first | rfl | (simp at this)
    · rename_i kvs hx
      cases h
      obtain ⟨ks, e1, rs⟩ := hr.dct hx ea
      refine .inr (.inr ⟨ks, e1, ?_⟩)
      have := rs.length
      cases kvs <;> cases ks <;> first | rfl | (simp at this)
    · cases h
  · cases h
  · cases h

/-! ### subscripts -/
def rI' (G : Md) : R2 := fun x y H Q => ∃ φ A d e r, HR G φ H A ∧ Rep G φ H d x ∧ Rep G φ H e y ∧ opI A d e = some r ∧ VC G φ H Q r A
theorem atI_rep {G : Md} {φ : Ph} {H : Hp} {ds : List D} {vs : List V} {i : Int} {d : D} (r : Reps G φ H ds vs) (h : L2.atI ds i = some d) : ∃ v, L2.atI vs i = some v ∧ Rep G φ H d v := by
  unfold L2.atI at h ⊢
  rw [r.length]
  cases e : L2.ixN ds.length i with
  | none => rw [e] at h; cases h
  | some j =>
    rw [e] at h
    exact r.get h
theorem ix_ok (hu : X.A.units + 65 < cLine) : IxR X (rI' (Gd X)) := by
  intro value slice pins s σ H x y v u Q I rx ry h hs
  obtain ⟨φ, A, d, e, r, hr, rd, re, he, q⟩ := h
  unfold opI at he
  split at he
  · rename_i xs
    obtain ⟨a, vs, rfl, hq, rs⟩ := rd
    split at he
    · cases re
      obtain ⟨w, hw, rw'⟩ := atI_rep rs he
      exact ix_tup value slice pins s σ H _ _ v u Q I rx ry ⟨a, vs, _, w, rfl, rfl, hq, hw, q.here hr rw'⟩ hs
    · cases he
  · rename_i n
    obtain ⟨a, ea, rfl⟩ := rd
    split at he
    · rename_i kvs hkv
      split at he
      · rename_i hk
        have ex : v = Value.ref a := rx
        subst ex
        rcases hr.dgetL hkv ea hk re with ⟨d', v', q1, q2, q3⟩ | ⟨q1, q2⟩
        · rw [q1] at he; cases he
          exact tail_any (dict_typeIs I q2) PySem.F.slot_dict_getitem.lookup (d_getItem (by omega) I q2 ry fun w' s3 I3 rw' => ⟨v', H, I3, rw', q.here hr q3⟩) hs
        · rw [q1] at he; cases he
      · cases he
    · split at he
      · rename_i xs k hx
        cases re
        obtain ⟨vs, e1, rs⟩ := hr.seq hx ea
        obtain ⟨w, hw, rw'⟩ := atI_rep rs he
        exact ix_list value slice pins s σ H _ _ v u Q I rx ry ⟨a, vs, _, w, rfl, rfl, .of e1, hw, q.here hr rw'⟩ hs
      · cases he
  · cases he
def rS (G : Md) : V → Option Int → Option Int → Hp → VK → Prop := fun x lo hi H Q => ∃ φ A d r A', HR G φ H A ∧ Rep G φ H d x ∧ opS A d lo hi = .ok r A' ∧ VC G φ H Q r A'
theorem cut_rep {G : Md} {φ : Ph} {H : Hp} {ds : List D} {vs : List V} (lo hi : Option Int) (r : Reps G φ H ds vs) : Reps G φ H (cutD ds lo hi) (cutV vs lo hi) := by
  unfold cutD cutV
  rw [r.length]
  exact (r.drop _).take _
theorem sl_ok : SlR X (rS (Gd X)) := by
  intro pins s σ H x v vl vu lo hi sl Q I rx hs pl pu h
  obtain ⟨φ, A, d, r, A', hr, rd, he, q⟩ := h
  unfold opS at he
  split at he
  · rename_i xs
    cases he
    obtain ⟨a, vs, rfl, hq, rs⟩ := rd
    have hl := rs.length
    refine sl_tupA pins s σ H _ v vl vu lo hi sl Q I rx hs pl pu ⟨a, vs, rfl, hq, fun hw => q.here hr ⟨a, vs, rfl, hq, ?_⟩, fun _ p hp => q.tup hr hp (cut_rep lo hi rs)⟩
    rw [hl] at hw
    unfold cutD
    rw [hw.1, hw.2]
    simpa using rs
  · rename_i n
    obtain ⟨a, ea, rfl⟩ := rd
    split at he
    · rename_i xs hx
      cases he
      obtain ⟨vs, e1, rs⟩ := hr.seq hx ea
      exact sl_list pins s σ H _ v vl vu lo hi sl Q I rx hs pl pu ⟨a, vs, rfl, .of e1, fun p hp => q.new hr hp ⟨_, rfl, cut_rep lo hi rs⟩⟩
    · cases he
  · cases he
/-- o[i] = v -/
def rSt (G : Md) : V → V → V → Hp → (Hp → Prop) → Prop := fun o i v H Q => ∃ φ A d e f A', HR G φ H A ∧ Rep G φ H d o ∧ Rep G φ H e i ∧ Rep G φ H f v ∧ opSet A d e f = some A' ∧ ∀ φ' H', Ext φ H φ' H' → HR G φ' H' A' → Q H'
theorem set_ok (hu : X.A.units + 65 < cLine) : PSet X (rSt (Gd X)) := by
  intro pins s σ H o i v ov iv u Q I ro ri rv h
  obtain ⟨φ, A, d, e, f, A', hr, rd, re, rf, he, q⟩ := h
  unfold opSet at he
  split at he
  · rename_i n
    obtain ⟨a, ea, rfl⟩ := rd
    split at he
    · rename_i xs hx
      obtain ⟨vs, e1, rs⟩ := hr.lst hx ea
      split at he
      · rename_i k
        cases re
        obtain ⟨j, hj, rfl⟩ := Option.map_eq_some_iff.mp he
        exact set_list pins s σ H _ _ _ ov iv u Q I ro ri rv ⟨a, vs, k, j, rfl, rfl, e1, by rw [rs.length]; exact hj, q _ _ (.set (List.mem_of_getElem? ea) (.lst e1)) (hr.set ea (.lst e1) ⟨_, rfl, rs.set j rf⟩)⟩
      · cases he
    · rename_i kvs hx
      split at he
      · rename_i hk
        cases he
        simp only [Bool.and_eq_true, decide_eq_true_eq] at hk
        obtain ⟨ks, e1, rs⟩ := hr.dct hx ea
        obtain ⟨j, rfl, hj⟩ := KR.key hk.1 re
        have eo : ov = Value.ref a := ro
        subst eo
        exact d_setItem (by omega) I (.k e1 (by rw [rs.length]; exact hk.2)) ri rv fun s' I' => ⟨_, I', q _ _ (.set (List.mem_of_getElem? ea) (.dK e1)) (hr.set ea (.dK e1) ⟨_, rfl, rs.put hj rf⟩)⟩
      · cases he
    · cases he
  · cases he
end
end Ev

/-! ## EvVal3 -/
/-! EvVal3: built-in functions and methods by values. -/
namespace Ev
open PySem PySem.Spec PyProof.Rows L2
abbrev BF := AH → List D → Res D
def rBi (G : Md) (f : BF) : List V → Hp → VK → Prop := fun xs H Q => ∃ φ A ds r A', HR G φ H A ∧ Reps G φ H ds xs ∧ f A ds = .ok r A' ∧ VC G φ H Q r A'
section
variable {G : Md} {φ : Ph} {H : Hp} {A : AH}
theorem Reps.one {d : D} {xs : List V} (r : Reps G φ H [d] xs) : ∃ x, xs = [x] ∧ Rep G φ H d x := by
  obtain ⟨v, t, rfl, r1, r2⟩ := r
  rw [show t = [] from r2]; exact ⟨v, rfl, r1⟩
theorem Reps.two {d e : D} {xs : List V} (r : Reps G φ H [d, e] xs) : ∃ x y, xs = [x, y] ∧ Rep G φ H d x ∧ Rep G φ H e y := by
  obtain ⟨v, t, rfl, r1, r2⟩ := r
  obtain ⟨y, rfl, r3⟩ := Reps.one r2
  exact ⟨v, y, rfl, r1, r3⟩
theorem ints_rep : ∀ {ds : List D} {ns : List Int} {vs : List V}, intsOf ds = some ns → Reps G φ H ds vs → vs = ns.map V.int
  | [], ns, vs, h, r => by cases h; rw [show vs = [] from r]; rfl
  | d :: ds, ns, vs, h, r => by
    obtain ⟨v, t, rfl, r1, r2⟩ := r
    cases d <;> first | (cases h; done) | skip
    have h : (intsOf ds).map (_ :: ·) = some ns := h
    obtain ⟨ms, h1, rfl⟩ := Option.map_eq_some_iff.mp h
    rw [ints_rep h1 r2, show v = _ from r1]; rfl
theorem strs_rep : ∀ {ds : List D} {ns : List String} {vs : List V}, strsOf ds = some ns → Reps G φ H ds vs → vs = (ns.map Str.ofString).map V.str
  | [], ns, vs, h, r => by cases h; rw [show vs = [] from r]; rfl
  | d :: ds, ns, vs, h, r => by
    obtain ⟨v, t, rfl, r1, r2⟩ := r
    cases d <;> first | (cases h; done) | skip
    have h : (strsOf ds).map (_ :: ·) = some ns := h
    obtain ⟨ms, h1, rfl⟩ := Option.map_eq_some_iff.mp h
    rw [strs_rep h1 r2, show v = _ from r1]; rfl
theorem strs_reps : ∀ ns : List String, Reps G φ H (ns.map D.str) ((ns.map Str.ofString).map V.str)
  | [] => rfl
  | n :: ns => ⟨_, _, rfl, rfl, strs_reps ns⟩
end

/-! ### the order of texts -/
theorem ltCps_iff : ∀ a b : List Nat, ltCps a b = true ↔ a < b
  | [], [] => by simp [ltCps]
  | [], _ :: _ => by simp [ltCps]
  | _ :: _, [] => by simp [ltCps]
  | x :: a, y :: b => by
    have ih := ltCps_iff a b
    rw [List.cons_lt_cons_iff]
    unfold ltCps
    by_cases h1 : x < y
    · simp [h1]
    · by_cases h2 : x = y
      · subst h2; simp [ih]
      · have : ¬ x < y := h1
        simp [h1, h2]
theorem strLe_iff (a b : String) : strLe a b = true ↔ ¬ b.toList.map Char.toNat < a.toList.map Char.toNat := by
  unfold strLe
  rw [decide_eq_true_iff]
  exact Iff.rfl
theorem strLe_total (a b : String) : (strLe a b || strLe b a) = true := by
  rw [Bool.or_eq_true]
  unfold strLe
  rw [decide_eq_true_iff, decide_eq_true_iff]
  exact List.le_total _ _
theorem strLe_trans (a b c : String) (h1 : strLe a b = true) (h2 : strLe b c = true) : strLe a c = true := by
  unfold strLe at *
  rw [decide_eq_true_iff] at *
  exact List.le_trans h1 h2
theorem strLe_antisymm (a b : String) (h1 : strLe a b = true) (h2 : strLe b a = true) : a = b := by
  unfold strLe at *
  rw [decide_eq_true_iff] at *
  exact String.toList_inj.mp (map_inj_char (List.le_antisymm h1 h2))
theorem rising_pair : ∀ (ys : List String) (x : String), risingS (Str.ofString x) (ys.map Str.ofString) = true → (x :: ys).Pairwise (fun a b => strLe a b = true)
  | [], x, _ => by simp
  | y :: ys, x, h => by
    have h' : (!ltCps (Str.ofString y).cps.toList (Str.ofString x).cps.toList && risingS (Str.ofString y) (ys.map Str.ofString)) = true := h
    rw [Bool.and_eq_true, Bool.not_eq_true', ofString_cps, ofString_cps] at h'
    have ih := rising_pair ys y h'.2
    have hxy : strLe x y = true := by
      rw [strLe_iff, ← ltCps_iff, h'.1]; simp
    refine List.pairwise_cons.mpr ⟨fun z hz => ?_, ih⟩
    rcases List.mem_cons.mp hz with e | hz
    · rw [e]; exact hxy
    · exact strLe_trans _ _ _ hxy ((List.pairwise_cons.mp ih).1 z hz)
theorem sorted_pair : ∀ ys : List String, sortedS (ys.map Str.ofString) = true → ys.Pairwise (fun a b => strLe a b = true)
  | [], _ => List.Pairwise.nil
  | y :: ys, h => rising_pair ys y h
theorem perm_sorted_eq {r : String → String → Bool} (anti : ∀ a b, r a b = true → r b a = true → a = b) : ∀ {xs ys : List String}, xs.Perm ys → xs.Pairwise (fun a b => r a b = true) → ys.Pairwise (fun a b => r a b = true) → xs = ys
  | [], ys, p, _, _ => (List.nil_perm.mp p).symm
  | x :: xs, [], p, _, _ => absurd p.length_eq (by simp)
  | x :: xs, y :: ys, p, h1, h2 => by
    obtain ⟨a1, a2⟩ := List.pairwise_cons.mp h1
    obtain ⟨b1, b2⟩ := List.pairwise_cons.mp h2
    have e : x = y := by
      have hx : x ∈ y :: ys := p.mem_iff.mp (List.mem_cons_self)
      have hy : y ∈ x :: xs := p.mem_iff.mpr (List.mem_cons_self)
      rcases List.mem_cons.mp hx with e | hx
      · exact e
      · rcases List.mem_cons.mp hy with e | hy
        · exact e.symm
        · exact anti _ _ (a1 y hy) (b1 x hx)
    subst e
    rw [perm_sorted_eq anti ((List.perm_cons x).mp p) a2 b2]
theorem sortS_of {xs ys : List String} (p : ys.Perm xs) (h : sortedS (ys.map Str.ofString) = true) : ys = sortS xs := by
  unfold sortS
  refine perm_sorted_eq strLe_antisymm (p.trans (List.mergeSort_perm xs _).symm) (sorted_pair ys h) ?_
  exact List.pairwise_mergeSort (fun a b c => strLe_trans a b c) (fun a b => strLe_total a b) xs
theorem of_perm_map : ∀ {zs : List Str} {xs : List String}, zs.Perm (xs.map Str.ofString) → ∃ ys : List String, zs = ys.map Str.ofString ∧ ys.Perm xs := fun {zs xs} p => by
  have hm : ∀ z ∈ zs, ∃ y ∈ xs, Str.ofString y = z := fun z hz => List.mem_map.mp (p.mem_iff.mp hz)
  have : ∀ l : List Str, (∀ z ∈ l, ∃ y, Str.ofString y = z) → ∃ ys : List String, l = ys.map Str.ofString := fun l => by
    induction l with
    | nil => intro _; exact ⟨[], rfl⟩
    | cons z l ih =>
      intro h
      obtain ⟨y, hy⟩ := h z (List.mem_cons_self)
      obtain ⟨ys, e⟩ := ih fun w hw => h w (List.mem_cons_of_mem _ hw)
      exact ⟨y :: ys, by simp [hy, e]⟩
  obtain ⟨ys, e⟩ := this zs fun z hz => let ⟨y, _, h⟩ := hm z hz; ⟨y, h⟩
  refine ⟨ys, e, ?_⟩
  rw [e] at p
  have p2 := p.map (fun z : Str => String.ofList (z.cps.toList.map Char.ofNat))
  have hid : ∀ s : String, String.ofList ((Str.ofString s).cps.toList.map Char.ofNat) = s := fun s => by
    rw [ofString_cps, List.map_map]
    have : (Char.ofNat ∘ Char.toNat) = id := by funext c; simp
    rw [this, List.map_id, String.ofList_toList]
  rw [List.map_map, List.map_map] at p2
  have e2 : ((fun z : Str => String.ofList (z.cps.toList.map Char.ofNat)) ∘ Str.ofString) = id := by funext s; exact hid s
  rw [e2, List.map_id, List.map_id] at p2
  exact p2

section
variable {X : Cx}
theorem len_ok : CallR X (.builtin "len") (rBi (Gd X) biLen) := by
  intro pins s σ H xs us Q I rv h
  obtain ⟨φ, A, ds, r, A', hr, rs, he, q⟩ := h
  unfold biLen at he
  split at he
  · obtain ⟨x, rfl, rx⟩ := rs.one
    obtain ⟨a, vs, rfl, hq, r1⟩ := rx
    cases he
    exact call_len_seq pins s σ H _ us Q I rv ⟨a, vs, rfl, .inr hq, q.here hr (by rw [r1.length]; rfl)⟩
  · obtain ⟨x, rfl, rx⟩ := rs.one
    obtain ⟨a, ea, rfl⟩ := rx
    split at he
    · rename_i kvs hk
      cases he
      obtain ⟨ks, h1, h2⟩ := hr.dctL hk ea
      obtain ⟨u, rfl, ru⟩ := Vals.one rv
      cases ru
      exact d_len I h1 fun t s' I' => ⟨.int ks.length, H, I', ⟨t, rfl⟩, q.here hr (by rw [h2.length]; rfl)⟩
    · split at he
      · rename_i xs hx
        cases he
        obtain ⟨vs, e1, r1⟩ := hr.seq hx ea
        exact call_len_seq pins s σ H _ us Q I rv ⟨a, vs, rfl, .inl (.of e1), q.here hr (by rw [r1.length]; rfl)⟩
      · cases he
  · cases he
theorem tuple_ok : CallR X (.type "tuple") (rBi (Gd X) biTuple) := by
  intro pins s σ H xs us Q I rv h
  obtain ⟨φ, A, ds, r, A', hr, rs, he, q⟩ := h
  unfold biTuple at he
  split at he
  · obtain ⟨x, rfl, rx⟩ := rs.one
    obtain ⟨a, vs, rfl, hq, r1⟩ := rx
    cases he
    exact call_tuple_of pins s σ H _ us Q I rv ⟨a, vs, rfl, .inr ⟨hq, q.here hr ⟨a, vs, rfl, hq, r1⟩⟩⟩
  · obtain ⟨x, rfl, rx⟩ := rs.one
    obtain ⟨a, ea, rfl⟩ := rx
    split at he
    · rename_i xs hx
      cases he
      obtain ⟨vs, e1, r1⟩ := hr.seq hx ea
      exact call_tuple_of pins s σ H _ us Q I rv ⟨a, vs, rfl, .inl ⟨.of e1, fun p hp => q.tup hr hp r1⟩⟩
    · cases he
  · cases he
theorem list_ok : CallR X (.type "list") (rBi (Gd X) biList) := by
  intro pins s σ H xs us Q I rv h
  obtain ⟨φ, A, ds, r, A', hr, rs, he, q⟩ := h
  unfold biList at he
  split at he
  · obtain ⟨x, rfl, rx⟩ := rs.one
    obtain ⟨a, vs, rfl, hq, r1⟩ := rx
    cases he
    exact call_list_of pins s σ H _ us Q I rv ⟨a, vs, rfl, .inr hq, fun p hp => q.new hr hp ⟨_, rfl, r1⟩⟩
  · obtain ⟨x, rfl, rx⟩ := rs.one
    obtain ⟨a, ea, rfl⟩ := rx
    split at he
    · rename_i xs hx
      cases he
      obtain ⟨vs, e1, r1⟩ := hr.seq hx ea
      exact call_list_of pins s σ H _ us Q I rv ⟨a, vs, rfl, .inl (.of e1), fun p hp => q.new hr hp ⟨_, rfl, r1⟩⟩
    · cases he
  · cases he
theorem pairs_rep {φ : Ph} {H : Hp} : ∀ {ds : List D} {kvs : List (D × D)} {vs : List V}, pairsOf ds = some kvs → Reps (Gd X) φ H ds vs → ∃ (ps : List Addr) (ks : List (Key × V)), vs = ps.map V.ref ∧ Paired (fun p (kv : Key × V) => SqT X.K H p [kV kv.1, kv.2]) ps ks ∧ KReps (Gd X) φ H kvs ks
  | [], kvs, vs, h, r => by cases h; rw [show vs = [] from r]; exact ⟨[], [], rfl, by constructor, rfl⟩
  | d :: ds, kvs, vs, h, r => by
    obtain ⟨v, t, rfl, r1, r2⟩ := r
    cases d with
    | tup zs =>
      rcases zs with _ | ⟨k, _ | ⟨y, _ | _⟩⟩ <;> first | (cases h; done) | skip
      have h : (if keyOk k then (pairsOf ds).map ((k, y) :: ·) else none) = some kvs := h
      split at h
      · rename_i hk
        obtain ⟨m, hm, rfl⟩ := Option.map_eq_some_iff.mp h
        obtain ⟨a, xs, rfl, hq, rs⟩ := r1
        obtain ⟨x1, x2, rfl, rk, ry⟩ := rs.two
        obtain ⟨j, rfl, hj⟩ := KR.key hk rk
        obtain ⟨ps, ks, rfl, hp, hks⟩ := pairs_rep hm r2
        exact ⟨a :: ps, (j, x2) :: ks, rfl, by constructor; exact hq; exact hp, ⟨j, x2, ks, rfl, hj, ry, hks⟩⟩
      · cases h
    | _ => cases h
theorem dict_ok (hc : X.calm = true) : CallR X (.type "dict") (rBi (Gd X) biDict) := by
  intro pins s σ H xs us Q I rv h
  obtain ⟨φ, A, ds, r, A', hr, rs, he, q⟩ := h
  unfold biDict at he
  split at he
  · obtain ⟨x, rfl, rx⟩ := rs.one
    obtain ⟨a, ea, rfl⟩ := rx
    split at he
    · rename_i kvs hk
      cases he
      obtain ⟨ks, h1, h2⟩ := hr.dctL hk ea
      obtain ⟨u, rfl, ru⟩ := Vals.one rv
      cases ru
      exact d_copyOf I h1 fun p s' hp I' => ⟨.ref p, _, I', rfl, q.new hr hp ⟨_, rfl, h2⟩⟩
    · split at he
      · rename_i kvs hk
        split at he
        · cases he
          obtain ⟨xs, hx, hp⟩ := Option.bind_eq_some_iff.mp hk
          obtain ⟨vs, e1, r1⟩ := hr.seq hx ea
          obtain ⟨ps, ks, rfl, hpp, hks⟩ := pairs_rep hp r1
          exact call_dictP hc pins s σ H _ us Q I rv ⟨a, ps, ks, rfl, .of e1, hpp, fun p hp => q.new hr hp ⟨_, rfl, KReps.merge hks rfl⟩⟩
        · cases he
      · cases he
  · cases he
theorem int_ok : CallR X (.type "int") (rBi (Gd X) biInt) := by
  intro pins s σ H xs us Q I rv h
  obtain ⟨φ, A, ds, r, A', hr, rs, he, q⟩ := h
  unfold biInt at he
  split at he
  · obtain ⟨x, rfl, rx⟩ := rs.one
    cases he; cases rx
    exact call_int1 pins s σ H _ us Q I rv (.inl ⟨_, rfl, q.here hr rfl⟩)
  · obtain ⟨x, rfl, rx⟩ := rs.one
    cases he; cases rx
    exact call_int1 pins s σ H _ us Q I rv (.inr ⟨_, rfl, q.here hr rfl⟩)
  · cases he
theorem abs_ok : CallR X (.builtin "abs") (rBi (Gd X) biAbs) := by
  intro pins s σ H xs us Q I rv h
  obtain ⟨φ, A, ds, r, A', hr, rs, he, q⟩ := h
  unfold biAbs at he
  split at he
  · obtain ⟨x, rfl, rx⟩ := rs.one
    cases he; cases rx
    exact call_abs pins s σ H _ us Q I rv ⟨_, rfl, q.here hr rfl⟩
  · cases he
theorem bls_rep {φ : Ph} {H : Hp} : ∀ {ds : List D} {bs : List Bool} {vs : List V}, blsOf ds = some bs → Reps (Gd X) φ H ds vs → vs = bs.map V.bl
  | [], bs, vs, h, r => by cases h; rw [show vs = [] from r]; rfl
  | d :: ds, bs, vs, h, r => by
    obtain ⟨v, t, rfl, r1, r2⟩ := r
    cases d <;> first | (cases h; done) | skip
    unfold blsOf at h
    obtain ⟨m, hm, rfl⟩ := Option.map_eq_some_iff.mp h
    cases r1
    rw [bls_rep hm r2]
    rfl
theorem max_ok (hc : X.calm = true) : CallR X (.builtin "max") (rBi (Gd X) biMax) := by
  intro pins s σ H xs us Q I rv h
  obtain ⟨φ, A, ds, r, A', hr, rs, he, q⟩ := h
  unfold biMax at he
  split at he
  · obtain ⟨x, y, rfl, rx, ry⟩ := rs.two
    cases he; cases rx; cases ry
    exact call_max2 hc pins s σ H _ us Q I rv ⟨_, _, rfl, q.here hr rfl⟩
  · cases he
theorem any_ok (hc : X.calm = true) : CallR X (.builtin "any") (rBi (Gd X) biAny) := by
  intro pins s σ H xs us Q I rv h
  obtain ⟨φ, A, ds, r, A', hr, rs, he, q⟩ := h
  unfold biAny at he
  split at he
  · obtain ⟨x, rfl, rx⟩ := rs.one
    obtain ⟨a, ea, rfl⟩ := rx
    split at he
    · rename_i bs hn
      cases he
      obtain ⟨xs, hx, hp⟩ := Option.bind_eq_some_iff.mp hn
      obtain ⟨vs, e1, r1⟩ := hr.seq hx ea
      rw [bls_rep hp r1] at e1
      exact cr_any hc pins s σ H _ us Q I rv ⟨a, bs, rfl, .of e1, q.here hr rfl⟩
    · cases he
  · cases he
theorem all_ok (hc : X.calm = true) : CallR X (.builtin "all") (rBi (Gd X) biAll) := by
  intro pins s σ H xs us Q I rv h
  obtain ⟨φ, A, ds, r, A', hr, rs, he, q⟩ := h
  unfold biAll at he
  split at he
  · obtain ⟨x, rfl, rx⟩ := rs.one
    obtain ⟨a, ea, rfl⟩ := rx
    split at he
    · rename_i bs hn
      cases he
      obtain ⟨xs, hx, hp⟩ := Option.bind_eq_some_iff.mp hn
      obtain ⟨vs, e1, r1⟩ := hr.seq hx ea
      rw [bls_rep hp r1] at e1
      exact cr_all hc pins s σ H _ us Q I rv ⟨a, bs, rfl, .of e1, q.here hr rfl⟩
    · cases he
  · cases he
theorem sum_ok (hc : X.calm = true) : CallR X (.builtin "sum") (rBi (Gd X) biSum) := by
  intro pins s σ H xs us Q I rv h
  obtain ⟨φ, A, ds, r, A', hr, rs, he, q⟩ := h
  unfold biSum at he
  split at he
  · obtain ⟨x, rfl, rx⟩ := rs.one
    obtain ⟨a, ea, rfl⟩ := rx
    split at he
    · rename_i ns hn
      cases he
      obtain ⟨xs, hx, hn⟩ := Option.bind_eq_some_iff.mp hn
      obtain ⟨vs, e1, r1⟩ := hr.seq hx ea
      rw [ints_rep hn r1] at e1
      exact cr_sum hc pins s σ H _ us Q I rv ⟨a, ns, rfl, .of e1, q.here hr rfl⟩
    · cases he
  · cases he
theorem keys_strs {G : Md} {φ : Ph} {H : Hp} : ∀ {kvs : List (D × D)} {ks : List (Key × V)} {ss : List String}, KReps G φ H kvs ks → strsOf (kvs.map (·.1)) = some ss → ks.map (·.1) = (ss.map Str.ofString).map Sum.inr
  | [], ks, ss, r, h => by cases h; rw [show ks = [] from r]; rfl
  | (k, d) :: kvs, ks, ss, r, h => by
    obtain ⟨j, v, t, rfl, r0, r1, r2⟩ := r
    cases k <;> first | (cases h; done) | skip
    rename_i z
    have h : (strsOf (kvs.map (·.1))).map (z :: ·) = some ss := h
    obtain ⟨ms, h1, rfl⟩ := Option.map_eq_some_iff.mp h
    have ih := keys_strs r2 h1
    cases j with
    | inl i => exact r0.elim
    | inr x => cases r0; simp [ih]
theorem sorted_ok (hc : X.calm = true) : CallR X (.builtin "sorted") (rBi (Gd X) biSorted) := by
  intro pins s σ H xs us Q I rv h
  obtain ⟨φ, A, ds, r, A', hr, rs, he, q⟩ := h
  unfold biSorted at he
  split at he
  · obtain ⟨x, rfl, rx⟩ := rs.one
    obtain ⟨a, ea, rfl⟩ := rx
    split at he
    · rename_i kvs hk
      split at he
      · rename_i ss hss
        split at he
        · rename_i hl
          cases he
          obtain ⟨ks, h1, h2⟩ := hr.dctL hk ea
          refine call_sortedD hc pins s σ H _ us Q I rv ⟨a, ks, ss.map Str.ofString, rfl, h1, keys_strs h2 hss, by simpa using hl, fun ys p hp hs hn => ?_⟩
          obtain ⟨zs, rfl, hz⟩ := of_perm_map hp
          rw [sortS_of hz hs]
          exact q.new hr hn ⟨_, rfl, strs_reps _⟩
        · cases he
      · cases he
    · split at he
      · rename_i ss hss
        split at he
        · rename_i hl
          cases he
          obtain ⟨xs, hx, hss⟩ := Option.bind_eq_some_iff.mp hss
          obtain ⟨vs, e1, r1⟩ := hr.seq hx ea
          rw [strs_rep hss r1] at e1
          refine cr_sortedS pins s σ H _ us Q I rv ⟨a, ss.map Str.ofString, rfl, .of e1, by simpa using hl, fun ys p hp hs hn => ?_⟩
          obtain ⟨zs, rfl, hz⟩ := of_perm_map hp
          rw [sortS_of hz hs]
          exact q.new hr hn ⟨_, rfl, strs_reps _⟩
        · cases he
      · cases he
  · cases he
end
end Ev

/-! ## EvVal4 -/
/-! EvVal4: isinstance; methods. -/
namespace Ev
open PySem PySem.Spec PyProof.Rows L2
section
variable {X : Cx}
/-- the built-in names that the text does not hide -/
def FreeB (mg : Str → Option Value) : Prop := ∀ t : String, t ∈ tyNames → mg (Str.ofString t) = none
theorem ty_of {G : Md} {φ : Ph} {H : Hp} {A : AH} {d : D} {x : V} {n : String} (hr : HR G φ H A) (r : Rep G φ H d x) (h : tyName A d = some n) : TyX G.K H x (.type n) ∧ n ∈ "NoneType" :: tyNames := by
  unfold tyName at h
  split at h
  · cases h; cases r; exact ⟨.base .non, by decide⟩
  · cases h; cases r; exact ⟨.base (.bl _), by decide⟩
  · cases h; cases r; exact ⟨.base (.int _), by decide⟩
  · cases h; cases r; exact ⟨.base (.str _), by decide⟩
  · cases h
    obtain ⟨a, vs, rfl, hq, _⟩ := r
    refine ⟨?_, by decide⟩
    rcases hq with (q | ⟨o, q⟩) | ⟨o, its, m, q, c, _⟩
    · exact .base (.tup q)
    · exact .fTuple q
    · exact .kTuple q c
  · obtain ⟨a, ea, rfl⟩ := r
    split at h
    · rename_i xs hx
      cases h
      obtain ⟨vs, e1, _⟩ := hr.lst hx ea
      exact ⟨.base (.lst e1), by decide⟩
    · rename_i kvs hx
      cases h
      obtain ⟨ks, e1, _⟩ := hr.dct hx ea
      exact ⟨.base (.dK e1), by decide⟩
    · rename_i kvs hx
      cases h
      obtain ⟨ho, e1, o, ks, rfl, _⟩ := hr.at_ _ _ _ ea hx
      exact ⟨.fDict e1, by decide⟩
    · cases h
  · cases h
theorem kit_all : ∀ n ∈ "NoneType" :: tyNames, ∀ t ∈ tyNames, kitB n t = some (n == t || (n == "bool" && t == "int")) := by decide +kernel
theorem boot_ty : ∀ t ∈ tyNames, bootBuiltins (Str.ofString t) = some (.type t) := by decide +kernel
theorem isi_ok (hf : FreeB X.mg) : CallR X (.builtin "isinstance") (rBi (Gd X) biIsi) := by
  intro pins s σ H xs us Q I rv h
  obtain ⟨φ, A, ds, r, A', hr, rs, he, q⟩ := h
  unfold biIsi at he
  split at he
  · rename_i d t
    obtain ⟨x, c, rfl, rx, rc⟩ := rs.two
    cases hb : isA A d t with
    | none => rw [hb] at he; cases he
    | some b =>
      rw [hb] at he
      cases he
      unfold isA at hb
      split at hb
      · rename_i n hn
        split at hb
        · rename_i ht
          cases hb
          have ht : t ∈ tyNames := by simpa using ht
          obtain ⟨ty, hm⟩ := ty_of hr rx hn
          obtain ⟨u, ru, hu⟩ := rc
          have e : u = .type t := by
            rcases hu with hu | ⟨_, hu⟩
            · have := hf t ht
              rw [show X.mg (Str.ofString t) = some u from hu] at this; cases this
            · rw [boot_ty t ht] at hu; exact (Option.some.inj hu).symm
          subst e
          have ec : c = .ty t := ru.inj (show RelV (.ty t) _ from rfl)
          subst ec
          exact call_isi pins s σ H _ us Q I rv ⟨x, .ty t, .type n, .type t, _, rfl, .ty t, ty, kit_ty (kit_all n hm t ht), q.here hr rfl⟩
        · cases hb
      · cases hb
  · cases he

/-! ### methods: by the receiver's address -/
abbrev MF := AH → Nat → List D → Res D
def rMt (G : Md) (f : MF) : V → List V → Hp → VK → Prop := fun x xs H Q => ∃ φ A n ds r A', HR G φ H A ∧ Rep G φ H (.ref n) x ∧ Reps G φ H ds xs ∧ f A n ds = .ok r A' ∧ VC G φ H Q r A'
theorem append_ok : MtM X "list.append" (rMt (Gd X) mtAppend) := by
  intro pins s σ H x xs v us Q I rx rv h
  obtain ⟨φ, A, n, ds, r, A', hr, rd, rs, he, q⟩ := h
  obtain ⟨a, ea, rfl⟩ := rd
  unfold mtAppend at he
  split at he
  · obtain ⟨y, rfl, ry⟩ := rs.one
    split at he
    · rename_i ys hx
      split at he
      · rename_i hl
        cases he
        obtain ⟨vs, e1, r1⟩ := hr.lst hx ea
        exact mt_append pins s σ H _ _ v us Q I rx rv ⟨a, vs, y, rfl, rfl, e1, by rw [r1.length]; exact hl, q.set hr ea (.lst e1) ⟨_, rfl, r1.append (.cons ry .nil)⟩ rfl⟩
      · cases he
    · cases he
  · cases he
theorem extend_ok : MtM X "list.extend" (rMt (Gd X) mtExtend) := by
  intro pins s σ H x xs v us Q I rx rv h
  obtain ⟨φ, A, n, ds, r, A', hr, rd, rs, he, q⟩ := h
  obtain ⟨a, ea, rfl⟩ := rd
  unfold mtExtend at he
  split at he
  · obtain ⟨y, rfl, ry⟩ := rs.one
    obtain ⟨b, eb, rfl⟩ := ry
    split at he
    · rename_i ys zs h1 h2
      split at he
      · rename_i hl
        cases he
        obtain ⟨vs, e1, r1⟩ := hr.lst h1 ea
        obtain ⟨ws, e2, r2⟩ := hr.lst h2 eb
        exact mt_extend pins s σ H _ _ v us Q I rx rv ⟨a, b, vs, ws, rfl, rfl, e1, e2, by rw [r1.length, r2.length]; exact hl, q.set hr ea (.lst e1) ⟨_, rfl, r1.append r2⟩ rfl⟩
      · cases he
    · cases he
  · cases he
theorem lpop_ok : MtM X "list.pop" (rMt (Gd X) mtLPop) := by
  intro pins s σ H x xs v us Q I rx rv h
  obtain ⟨φ, A, n, ds, r, A', hr, rd, rs, he, q⟩ := h
  obtain ⟨a, ea, rfl⟩ := rd
  unfold mtLPop at he
  split at he
  · have rs' : xs = [] := rs
    subst rs'
    unfold mtPop at he
    dsimp only at he
    split at he
    · rename_i ys h1
      split at he
      · rename_i y hy
        cases he
        obtain ⟨vs, e1, r1⟩ := hr.lst h1 ea
        rw [List.getLast?_eq_getElem?] at hy
        obtain ⟨w, hw, rw'⟩ := r1.get hy
        exact mt_pop pins s σ H _ _ v us Q I rx rv ⟨a, vs, w, rfl, rfl, e1, by rw [r1.length]; exact hw, q.set hr ea (.lst e1) ⟨_, rfl, r1.dropLast⟩ rw'⟩
      · cases he
    · cases he
  · cases he
theorem get_ok (hu : X.A.units + 65 < cLine) : MtM X "dict.get" (rMt (Gd X) mtGet) := by
  intro pins s σ H x xs v us Q I rx rv h
  obtain ⟨φ, A, n, ds, r, A', hr, rd, rs, he, q⟩ := h
  obtain ⟨a, ea, rfl⟩ := rd
  cases (show v = Value.ref a from rx)
  unfold mtGet at he
  split at he
  · obtain ⟨y, rfl, ry⟩ := rs.one
    obtain ⟨u, rfl, ru⟩ := Vals.one rv
    split at he
    · rename_i kvs hk
      split at he
      · rename_i hkk
        cases he
        have hk' : Ev.dctL A n = some kvs := by unfold Ev.dctL; rw [hk]
        rcases hr.dgetL hk' ea hkk ry with ⟨d', v', q1, q2, q3⟩ | ⟨q1, q2⟩
        · rw [q1] at q
          exact d_get1 (by omega) I q2 ru fun w' s' I' rw' => ⟨v', H, I', rw', q.here hr q3⟩
        · rw [q1] at q
          exact d_get1 (by omega) I q2 ru fun w' s' I' rw' => ⟨.non, H, I', rw', q.here hr rfl⟩
      · cases he
    · cases he
  · obtain ⟨y, z, rfl, ry, rz⟩ := rs.two
    obtain ⟨u, u2, rfl, ru, ru2⟩ := Vals.two rv
    split at he
    · rename_i kvs hk
      split at he
      · rename_i hkk
        cases he
        have hk' : Ev.dctL A n = some kvs := by unfold Ev.dctL; rw [hk]
        rcases hr.dgetL hk' ea hkk ry with ⟨d', v', q1, q2, q3⟩ | ⟨q1, q2⟩
        · rw [q1] at q
          exact d_get2 (by omega) I q2 ru ru2 fun w' s' I' rw' => ⟨v', H, I', rw', q.here hr q3⟩
        · rw [q1] at q
          exact d_get2 (by omega) I q2 ru ru2 fun w' s' I' rw' => ⟨z, H, I', rw', q.here hr rz⟩
      · cases he
    · cases he
  · cases he
theorem dpop_ok : MtM X "dict.pop" (rMt (Gd X) mtDPop) := by
  intro pins s σ H x xs v us Q I rx rv h
  obtain ⟨φ, A, n, ds, r, A', hr, rd, rs, he, q⟩ := h
  obtain ⟨a, ea, rfl⟩ := rd
  cases (show v = Value.ref a from rx)
  unfold mtDPop at he
  split at he
  · obtain ⟨y, z, rfl, ry, rz⟩ := rs.two
    obtain ⟨u, u2, rfl, ru, ru2⟩ := Vals.two rv
    unfold mtPop at he
    dsimp only at he
    split at he
    · rename_i kvs hk
      split at he
      · rename_i hkk
        obtain ⟨ks, h1, h2⟩ := hr.dct hk ea
        obtain ⟨j, rfl, hj⟩ := KR.key hkk ry
        rcases h2.get hj with ⟨d', v', q1, q2, q3⟩ | ⟨q1, q2⟩
        · rw [q1] at he
          cases he
          exact d_pop I h1 ru q2 (.inr ⟨u2, rfl⟩) fun w' s' I' rw' => ⟨v', _, I', rw', q.set hr ea (.dK h1) ⟨_, rfl, h2.drop hj⟩ q3⟩
        · rw [q1] at he
          cases he
          exact d_popD I h1 ru q2 fun s' I' => ⟨z, H, I', ru2, q.here hr rz⟩
      · cases he
    · cases he
  · cases he
theorem update_ok : MtM X "dict.update" (rMt (Gd X) mtUpdate) := by
  intro pins s σ H x xs v us Q I rx rv h
  obtain ⟨φ, A, n, ds, r, A', hr, rd, rs, he, q⟩ := h
  obtain ⟨a, ea, rfl⟩ := rd
  cases (show v = Value.ref a from rx)
  unfold mtUpdate at he
  split at he
  · rename_i b
    obtain ⟨y, rfl, ry⟩ := rs.one
    obtain ⟨c, eb, rfl⟩ := ry
    obtain ⟨u, rfl, ru⟩ := Vals.one rv
    cases (show u = Value.ref c from ru)
    split at he
    · cases he
    · rename_i hbn
      split at he
      · rename_i kvs more h1 h2
        split at he
        · rename_i hl
          cases he
          obtain ⟨ks, e1, r1⟩ := hr.dct h1 ea
          obtain ⟨ms, e2, r2⟩ := hr.dct h2 eb
          obtain ⟨z1, hd1, vs1, rel1, dd1⟩ := dk_of I.hok e1
          obtain ⟨z2, hd2, vs2, rel2, dd2⟩ := dk_of I.hok e2
          have hac : a ≠ c := fun e => hbn (hr.inj b n c eb (by rw [← e]; exact ea))
          have hsz : ks.length + ms.length ≤ sizeLine := by rw [r1.length, r2.length]; exact hl
          refine call_meetsIn PySem.F.slot_dict_update dd1.typeIs PySem.F.entry_dict_update (PySem.F.args_dict_update_2 _ _) (meets_dict_update (mixKind X.prog X.w) a c hac hd2)
            ⟨vs1, vs2, dd1, dd2, (by rw [← rel1.length, ← rel2.length]; exact hsz), fun h' dd' _ hs => ?_⟩
          have he : ∃ q, h'.get? a = some q := let ⟨q, _, _, hq, _⟩ := dd'; ⟨q, hq⟩
          have hl2 : (mergeK ks ms).length ≤ sizeLine := Nat.le_trans (length_mergeK ms ks) (by omega)
          exact ⟨.non, _, d_write (t' := s.toks) I (by rw [e1]; exact True.intro) hs he (dk_new hl2 hd1 (KV.merge rel2 rel1) dd'), rfl, q.set hr ea (.dK e1) ⟨_, rfl, r2.merge r1⟩ rfl⟩
        · cases he
      · cases he
  · cases he
end
end Ev

/-! ## EvIt -/
/-! EvIt: what is walked: lists, tuples, dicts, ranges; enumerate and zip of lists and tuples in any mix. -/
namespace PySem
open Sem (wp)
open Calls
theorem ev_meets_enum1 {v : Value} {o : Obj} {H : Heap → Prop} (B : Begins v o H) :
    Meets (Builtin.«enumerate.__new__» ⟨[.type "enumerate", v], []⟩) (fun _ R s => H s.heap ∧
      R (.ok (.ret (.ref (s.heap.push o).objs.size))) { s with heap := (s.heap.push o).push { cls := .type "enumerate", data := .fields #[.none, .bool false, .ref s.heap.objs.size, rawInt 0, .none, .none] } }) :=
  .of_wp fun prog w A R s h => by
    obtain ⟨hp, g, d, tk, os⟩ := s; obtain ⟨h1, h⟩ := h
    have hsub := sub_enumerate
    have q1 : ∀ {A' : Around} {E : Value → Shared → Prop} {Q : Value → Shared → Prop}, Q (.ref hp.objs.size) ⟨hp.push o, g, d, tk, os⟩ → wpAny (model prog w) A' (pyIter v) Q E ⟨hp, g, d, tk, os⟩ :=
      fun q => B.iter prog w _ _ ⟨hp, g, d, tk, os⟩ _ h1 q
    wp_walk using q1
    refine wpAny_stack_any fun st => wpAny_pure ?_
    split
    · rename_i c _ _ _ _ _
      cases (c == Value.type "enumerate")
      · wp_walk using q1
        exact ⟨_, rfl, h⟩
      · wp_walk using q1
        exact ⟨_, rfl, h⟩
    · wp_walk using q1
      exact ⟨_, rfl, h⟩
theorem ev_enum1_begins {prog : Program} {w : World} {A : Around} {E : Value → Shared → Prop} {s : Shared} {v : Value} {o : Obj} {H : Heap → Prop} {Q : Value → Shared → Prop} (B : Begins v o H) (h1 : H s.heap)
    (h : ∀ h', IsEnum h' (s.heap.objs.size + 1) s.heap.objs.size 0 .none → h'.get? s.heap.objs.size = some o → h'.objs.size = s.heap.objs.size + 2 →
      (∀ b o, s.heap.get? b = some o → h'.get? b = some o) → Q (.ref (s.heap.objs.size + 1)) { s with heap := h' }) :
    wpAny (model prog w) A (call (.type "enumerate") [v]) Q E s := by
  refine callType_new F.called_enumerate (by decide) (F.typeCall_enumerate_1 _) (F.newCall_enumerate_1 _) (fun obj => F.args_object_init_2 obj _) F.entry_enumerate_new
    (ev_meets_enum1 B) ⟨h1, ?_⟩
  have hz : (s.heap.push o).objs.size = s.heap.objs.size + 1 := Heap.size_push ..
  show _ ∧ _
  rw [hz]
  have he : IsEnum ((s.heap.push o).push { cls := .type "enumerate", data := .fields #[.none, .bool false, .ref s.heap.objs.size, rawInt 0, .none, .none] }) (s.heap.objs.size + 1) s.heap.objs.size 0 .none := by
    have := Heap.get?_push_size (s.heap.push o) (o := { cls := .type "enumerate", data := .fields #[.none, .bool false, .ref s.heap.objs.size, rawInt 0, .none, .none] }) rfl
    rw [hz] at this; exact this
  refine ⟨⟨_, he, rfl⟩, h _ he (Heap.get?_push_of_some _ (Heap.get?_push_size _ B.free)) (by rw [Heap.size_push, hz]) fun b o x => Heap.get?_push_of_some _ (Heap.get?_push_of_some _ x)⟩
end PySem

namespace Ev
open PySem PySem.Spec PyProof.Rows L2

/-! ### sources: lists and tuples -/
def SqB (b : Bool) (K : PySem.W.Frag) (H : Hp) (a : Addr) (xs : List V) : Prop := match b with
  | true => SqT K H a xs
  | false => SqL K H a xs
def ItB (b : Bool) (h : Heap) (it a : Addr) (i : Nat) : Prop := match b with
  | true => h.IsTupleIter it a i
  | false => h.IsListIter it a i
def SqH (b : Bool) (h : Heap) (a : Addr) (its : Array Value) : Prop := match b with
  | true => h.IsTuple a its
  | false => h.IsList a its
theorem drawsB (b : Bool) {prog : Program} {w : World} {A : Around} (hh : A.handled = none) (it l : Addr) (hne : l ≠ it) (items : Array Value) :
    Draws prog w A it [it, l] items.size (fun i v => items[i]? = some v) (fun i h => ItB b h it l i ∧ SqH b h l items) := by
  cases b with
  | true => exact Draws.tuple hh it l hne items
  | false => exact Draws.list hh it l hne items
theorem ItB.obj {b : Bool} {h : Heap} {it a : Addr} {i : Nat} (x : ItB b h it a i) : ∃ o, h.get? it = some o ∧ ∀ v, o.data ≠ .cell v := by
  cases b with
  | true => obtain ⟨o, e, c, d⟩ := x; exact ⟨o, e, fun v z => by rw [d] at z; cases z⟩
  | false => obtain ⟨o, e, c, d⟩ := x; exact ⟨o, e, fun v z => by rw [d] at z; cases z⟩
theorem ItB.at {b : Bool} {h h' : Heap} {it a : Addr} {i : Nat} (x : ItB b h it a i) (k : ∀ o, h.get? it = some o → h'.get? it = some o) : ItB b h' it a i := by
  cases b with
  | true => exact Heap.IsTupleIter.at x k
  | false => exact Heap.IsListIter.at x k
theorem SqH.lt {b : Bool} {h : Heap} {a : Addr} {its : Array Value} (x : SqH b h a its) : a < h.objs.size := by
  cases b with
  | true => obtain ⟨o, e, _⟩ := x; exact Heap.lt_size e
  | false => obtain ⟨o, e, _⟩ := x; exact Heap.lt_size e
section
variable {X : Cx} {pins : List (Addr × Obj)} {σ : L2.St} {H : Hp} {s : Shared} {a : Addr} {xs ys : List V} {b : Bool}
theorem Inv.src (I : L2.Inv X pins σ H s) (h : SqB b X.K H a xs) : ∃ its : List Value, Vals xs its ∧ SqH b s.heap a its.toArray := by
  cases b with
  | true => obtain ⟨its, r, p, _⟩ := I.tuple h; exact ⟨its, r, p⟩
  | false => obtain ⟨its, r, p, _⟩ := I.list h; exact ⟨its, r, p.isList⟩
theorem Inv.src_inj (I : L2.Inv X pins σ H s) (h : SqB b X.K H a xs) (h' : SqB b X.K H a ys) : xs = ys := by
  cases b with
  | true => exact I.tuple_inj h h'
  | false => exact I.list_inj h h'
end
def ItzB (b c : Bool) (K : PySem.W.Frag) (x y : Addr) : It :=
  ⟨fun i H => ∃ (xs ys : List V) (u v : V), SqB b K H x xs ∧ SqB c K H y ys ∧ xs[i]? = some u ∧ ys[i]? = some v,
    fun i H w H' => ∃ T u v, w = .ref T ∧ H T = none ∧ H' = upd H T (.tup [u, v]) ∧ (∀ xs, SqB b K H x xs → xs[i]? = some u) ∧ ∀ ys, SqB c K H y ys → ys[i]? = some v,
    fun i H => ∃ xs ys : List V, SqB b K H x xs ∧ SqB c K H y ys ∧ min xs.length ys.length = i⟩
def IteB (b : Bool) (K : PySem.W.Frag) (x : Addr) : It :=
  ⟨fun i H => ∃ (xs : List V) (u : V), SqB b K H x xs ∧ xs[i]? = some u, fun i H w H' => ∃ T u, w = .ref T ∧ H T = none ∧ H' = upd H T (.tup [.int (i : Nat), u]) ∧ ∀ xs, SqB b K H x xs → xs[i]? = some u,
    fun i H => ∃ xs : List V, SqB b K H x xs ∧ xs.length = i⟩
structure Apart2 (z TI TO i1 i2 a1 a2 : Addr) : Prop where
  sep : ZipSep2 z TI TO i1 i2 [i1, a1] [i2, a2]
  n1 : a1 ≠ i1
  n2 : a2 ≠ i2
theorem size_vals {xs : List V} {its : List Value} (r : Vals xs its) : its.toArray.size = xs.length := by rw [List.size_toArray]; exact r.length.symm
theorem turn_zipB {P : Program} {w : World} {K : PySem.W.Frag} {elts : List Expr} {kk : Nat} {tpos : Pos} {b1 b2 : Bool} {a1 a2 z TI TO i1 i2 : Addr} (D : Apart2 z TI TO i1 i2 a1 a2) :
    Turn P w K (.Tuple elts kk tpos) (ItzB b1 b2 K a1 a2) [z, TI, TO, i1, i2] z
      (fun i h => IsZip h z TI TO .none ∧ IsTupOf2 h TI (.ref i1) (.ref i2) ∧ (∃ x y, IsTupOf2 h TO x y) ∧ ItB b1 h i1 a1 i ∧ ItB b2 h i2 a2 i) where
  mem := by simp
  obj := fun i h st c hc => by
    obtain ⟨hz, hTI, ⟨x, y, hTO⟩, h1, h2⟩ := st
    have e' : c = z ∨ c = TI ∨ c = TO ∨ c = i1 ∨ c = i2 := by simpa using hc
    rcases e' with q | q | q | q | q
    · rw [q]; exact ⟨_, hz, fun v q => nomatch q⟩
    · rw [q]; exact ⟨_, hTI, fun v q => nomatch q⟩
    · rw [q]; exact ⟨_, hTO, fun v q => nomatch q⟩
    · rw [q]; exact h1.obj
    · rw [q]; exact h2.obj
  keep := fun i h h' st k => by
    obtain ⟨hz, hTI, ⟨x, y, hTO⟩, h1, h2⟩ := st
    exact ⟨k z (by simp) _ hz, k TI (by simp) _ hTI, ⟨x, y, k TO (by simp) _ hTO⟩, h1.at fun o q => k i1 (by simp) o q, h2.at fun o q => k i2 (by simp) o q⟩
  item := by
    intro X hP hw hK hc i pins s σ H E I hf st hg
    subst hP hw hK
    obtain ⟨hz, hTI, hTO, h1, h2⟩ := st
    obtain ⟨xs, ys, x, y, hqx, hqy, hx, hy⟩ := hg
    obtain ⟨its, rv, p⟩ := Inv.src I hqx
    obtain ⟨its2, rv2, p2⟩ := Inv.src I hqy
    obtain ⟨u, hu, ru⟩ := rv.get hx
    obtain ⟨u2, hu2, ru2⟩ := rv2.get hy
    have hh : X.A.in1.handled = none := I.ok.hd hc
    have W := WalksT.zipD2 D.sep (drawsB b1 (prog := X.prog) (w := X.w) hh i1 a1 D.n1 its.toArray) (drawsB b2 (prog := X.prog) (w := X.w) hh i2 a2 D.n2 its2.toArray)
    have li : i < min its.toArray.size its2.toArray.size := by
      rw [size_vals rv, size_vals rv2]
      have e1 := (List.getElem?_eq_some_iff.mp hx).1
      have e2 := (List.getElem?_eq_some_iff.mp hy).1
      omega
    refine W.item i s _ _ li ⟨hz, hTI, hTO, ⟨h1, p⟩, ⟨h2, p2⟩⟩ fun T vals h' tk hv hT hI hm kk => ?_
    obtain ⟨v1, v2, q1, q2, rfl⟩ := hv
    have q1' : its[i]? = some v1 := by simpa using q1
    have q2' : its2[i]? = some v2 := by simpa using q2
    rw [hu] at q1'; cases q1'
    rw [hu2] at q2'; cases q2'
    have ap := W.apart i T h' hm
    refine ⟨_, rfl, W.go elts _ tpos i T { s with heap := h', toks := tk } _ _ hm fun h'' st' kk2 => ?_⟩
    obtain ⟨oT, eT, cT, nT, dT⟩ := hI
    have hT2 : h''.get? T = some oT := kk2 T oT ap eT
    have new : ObjOk X.prog X.w (upd H T (.tup [x, y])) h'' T (.tup [x, y]) :=
      ⟨by show 2 ≤ sizeLine; decide, [u, u2], .cons ru (.cons ru2 .nil), ⟨oT, hT2, cT, nT, dT⟩⟩
    have I1 : L2.Inv X pins σ (upd H T (.tup [x, y])) { s with heap := h'', toks := tk } :=
      I.turnedNew (t' := tk) (ch := [z, TI, TO, i1, i2]) (fun c o hb q => by
        have nb : c ∉ [z, TO, i1, i2] := fun hm => hb (by
          have : c = z ∨ c = TO ∨ c = i1 ∨ c = i2 := by simpa using hm
          simp only [List.mem_cons]
          rcases this with e | e | e | e <;> simp [e])
        exact kk2 c o nb (kk c o nb q)) hf hT new
    obtain ⟨z', TI', TO', ⟨h1', _⟩, ⟨h2', _⟩⟩ := st'
    refine ⟨.ref T, _, I1, rfl, ⟨T, x, y, rfl, I.hok.fresh hT, rfl, fun l hl => by rw [Inv.src_inj I hl hqx]; exact hx, fun l hl => by rw [Inv.src_inj I hl hqy]; exact hy⟩, ⟨z', TI', TO', h1', h2'⟩, fun c hcm => ?_⟩
    have hlt : c < s.heap.objs.size := by
      have e' : c = z ∨ c = TI ∨ c = TO ∨ c = i1 ∨ c = i2 := by simpa using hcm
      rcases e' with q | q | q | q | q
      · rw [q]; exact Heap.lt_size hz
      · rw [q]; exact Heap.lt_size hTI
      · rw [q]; obtain ⟨_, _, hTO⟩ := hTO; exact Heap.lt_size hTO
      · rw [q]; obtain ⟨_, e1, _⟩ := h1.obj; exact Heap.lt_size e1
      · rw [q]; obtain ⟨_, e2, _⟩ := h2.obj; exact Heap.lt_size e2
    rw [upd_ne (Nat.ne_of_lt (Nat.lt_of_lt_of_le hlt hT))]
    exact (hf c hcm).1
  done := by
    intro X hP hw hK hc i pins s σ H E I hf st hg
    subst hP hw hK
    obtain ⟨hz, hTI, hTO, h1, h2⟩ := st
    obtain ⟨xs, ys, hqx, hqy, hend⟩ := hg
    obtain ⟨its, rv, p⟩ := Inv.src I hqx
    obtain ⟨its2, rv2, p2⟩ := Inv.src I hqy
    have hh : X.A.in1.handled = none := I.ok.hd hc
    have W := WalksT.zipD2 D.sep (drawsB b1 (prog := X.prog) (w := X.w) hh i1 a1 D.n1 its.toArray) (drawsB b2 (prog := X.prog) (w := X.w) hh i2 a2 D.n2 its2.toArray)
    have hi : i = min its.toArray.size its2.toArray.size := by rw [size_vals rv, size_vals rv2]; exact hend.symm
    subst hi
    refine W.done s _ _ ⟨hz, hTI, hTO, ⟨h1, p⟩, ⟨h2, p2⟩⟩ fun h' tk kk => ⟨rfl, I.turnedL (t' := tk) (ch := [z, TI, TO, i1, i2]) (fun c o hb q => kk c o (fun hm => hb (by
          have : c = z ∨ c = TO ∨ c = i1 ∨ c = i2 := by simpa using hm
          simp only [List.mem_cons]
          rcases this with e | e | e | e <;> simp [e])) q) hf⟩
  self := fun A i s Q E st h => wpAny_pyIter_zip st.1 h
theorem turn_enumB {P : Program} {w : World} {K : PySem.W.Frag} {elts : List Expr} {kk : Nat} {tpos : Pos} {b : Bool} {a e it : Addr} (n1 : e ≠ it) (n2 : a ≠ it) (n3 : e ≠ a) :
    Turn P w K (.Tuple elts kk tpos) (IteB b K a) [e, it] e (fun i h => (∃ old, IsEnum h e it ((i : Nat) : Int) old) ∧ ItB b h it a i) where
  mem := by simp
  obj := fun i h st c hc => by
    obtain ⟨⟨old, he⟩, hi⟩ := st
    have e' : c = e ∨ c = it := by simpa using hc
    rcases e' with z | z
    · rw [z]; exact ⟨_, he, fun v q => nomatch q⟩
    · rw [z]; exact hi.obj
  keep := fun i h h' st k => let ⟨⟨old, he⟩, hi⟩ := st; ⟨⟨old, k e (by simp) _ he⟩, hi.at fun o q => k it (by simp) o q⟩
  item := by
    intro X hP hw hK hc i pins s σ H E I hf st hg
    subst hP hw hK
    obtain ⟨he, hi⟩ := st
    obtain ⟨xs, x, hqx, hx⟩ := hg
    obtain ⟨its, rv, p⟩ := Inv.src I hqx
    obtain ⟨u, hu, ru⟩ := rv.get hx
    have hh : X.A.in1.handled = none := I.ok.hd hc
    have W := WalksT.enumFrom 0 (drawsB b (prog := X.prog) (w := X.w) hh it a n2 its.toArray) e n1 (by simp [n1, n3]) (by simp)
    have li : i < its.toArray.size := by
      rw [size_vals rv]
      exact (List.getElem?_eq_some_iff.mp hx).1
    refine W.item i s _ _ li ⟨by rw [Int.zero_add]; exact he, hi, p⟩ fun T vals h' tk hv hT hI hm kk => ?_
    obtain ⟨t, v1, q1, rfl⟩ := hv
    have q1' : its[i]? = some v1 := by simpa using q1
    rw [hu] at q1'; cases q1'
    have ap := W.apart i T h' hm
    refine ⟨_, rfl, W.go elts _ tpos i T { s with heap := h', toks := tk } _ _ hm fun h'' st' kk2 => ?_⟩
    obtain ⟨oT, eT, cT, nT, dT⟩ := hI
    have hT2 : h''.get? T = some oT := kk2 T oT ap eT
    have new : ObjOk X.prog X.w (upd H T (.tup [.int (i : Nat), x])) h'' T (.tup [.int (i : Nat), x]) :=
      ⟨by show 2 ≤ sizeLine; decide, [.int (0 + (i : Int)) t, u], .cons ⟨t, by rw [Int.zero_add]⟩ (.cons ru .nil), ⟨oT, hT2, cT, nT, dT⟩⟩
    have I1 : L2.Inv X pins σ (upd H T (.tup [.int (i : Nat), x])) { s with heap := h'', toks := tk } :=
      I.turnedNew (t' := tk) (ch := [e, it]) (fun c o hb q => kk2 c o hb (kk c o hb q)) hf hT new
    obtain ⟨he', hi', _⟩ := st'
    rw [Int.zero_add] at he'
    refine ⟨.ref T, _, I1, rfl, ⟨T, x, rfl, I.hok.fresh hT, rfl, fun l hl => by rw [Inv.src_inj I hl hqx]; exact hx⟩, ⟨he', hi'⟩, fun c hcm => ?_⟩
    have hlt : c < s.heap.objs.size := by
      have e' : c = e ∨ c = it := by simpa using hcm
      rcases e' with q | q
      · rw [q]; obtain ⟨_, he⟩ := he; exact Heap.lt_size he
      · rw [q]; obtain ⟨_, e1, _⟩ := hi.obj; exact Heap.lt_size e1
    rw [upd_ne (Nat.ne_of_lt (Nat.lt_of_lt_of_le hlt hT))]
    exact (hf c hcm).1
  done := by
    intro X hP hw hK hc i pins s σ H E I hf st hg
    subst hP hw hK
    obtain ⟨he, hi⟩ := st
    obtain ⟨xs, hqx, hend⟩ := hg
    obtain ⟨its, rv, p⟩ := Inv.src I hqx
    have hh : X.A.in1.handled = none := I.ok.hd hc
    have W := WalksT.enumFrom 0 (drawsB b (prog := X.prog) (w := X.w) hh it a n2 its.toArray) e n1 (by simp [n1, n3]) (by simp)
    have hie : i = its.toArray.size := by rw [size_vals rv]; exact hend.symm
    subst hie
    exact W.done s _ _ ⟨by rw [Int.zero_add]; exact he, hi, p⟩ fun h' tk kk => ⟨rfl, I.turnedL (t' := tk) (ch := [e, it]) (fun c o hb q => kk c o hb q) hf⟩
  self := fun A i s Q E st h => let ⟨⟨_, he⟩, _⟩ := st; wpAny_pyIter_enum he h
end Ev

/-! ## EvMt -/
/-! EvMt: a term of the evaluator matches a text of the model. -/
namespace Ev
open PySem PySem.Spec PyProof.Rows L2

/-- where one stands: the names by slots, the scope, the names that may be stored, the text's own defs, its constants -/
structure SC where
  N : List Str
  sc : Scope
  sto : List Str
  fns : List String
  csts : List (String × D)
  flds : List (String × String) := []
  mks : List (String × String) := []
  meths : List (String × String × String) := []
  xos : List String := []
  xcs : List String := []
  xpb : Bool := false
def visB (sc : Scope) (x : Str) : Bool := match sc.names.lookup x with
  | some .local => true
  | some .cell => true
  | some .free => true
  | _ => false
def glB (sc : Scope) (x : Str) : Bool := decide (sc.names.lookup x = some .globalImplicit) && decide ((x == ("__debug__" : Str)) = false) && decide (x ≠ "__name__")
/-- neither starred, nor a slice, nor a set -/
def plainB : Expr → Bool
  | .Starred _ _ => false
  | .Slice _ _ _ _ => false
  | .Set _ _ _ => false
  | _ => true
def biNames : List String := ["len", "abs", "isinstance", "sum", "sorted", "max", "any", "all"]
def tyBi : List String := ["tuple", "list", "dict", "int"]
def mtNames : List String := ["append", "extend", "pop", "get", "update"]
def ownB (N : List Str) (own : List Nat) : List (Str × Nat) := own.filterMap fun i => (N[i]?).map fun x => (x, i)
/-- the names that a comprehension's block may store -/
def stoOf (scope : Scope) : List Str := (scope.names.filter fun y => y.2 == .local || y.2 == .cell).map (·.1)
def SC.blk (c : SC) (scope : Scope) : SC := { c with sc := relS scope c.sc, sto := stoOf scope }
mutual
def mtt : Tg → SC → Expr → Bool
  | .nm i, c, x => match x with
    | .Name n _ => decide (c.N[i]? = some n) && c.sto.contains n
    | _ => false
  | .tu ts, c, x => match x with
    | .Tuple es _ _ => mtts ts c es
    | _ => false
  | .nil, _, _ => false
  | .cons _ _, _, _ => false
def mtts : Tg → SC → List Expr → Bool
  | .nil, _, xs => match xs with
    | [] => true
    | _ => false
  | .cons a r, c, xs => match xs with
    | x :: xs => mtt a c x && mtts r c xs
    | _ => false
  | .nm _, _, _ => false
  | .tu _, _, _ => false
end
def tgSlots : Tg → List Nat
  | .nm i => [i]
  | .tu ts => tgSlots ts
  | .nil => []
  | .cons a r => tgSlots a ++ tgSlots r
def isTup : Expr → Bool
  | .Tuple _ _ _ => true
  | _ => false
mutual
def mt : Ex → SC → Expr → Bool
  | .var i, c, x => match x with
    | .Name n _ => decide (c.N[i]? = some n) && visB c.sc n && decide ((n == ("__debug__" : Str)) = false) && decide ((n == ("__classdict__" : Str)) = false)
    | _ => false
  | .int i, _, x => match x with
    | .Constant (.int j) _ _ => decide (i = j)
    | _ => false
  | .str s, _, x => match x with
    | .Constant (.str z) _ _ => decide (z = Str.ofString s)
    | _ => false
  | .bl b, _, x => match x with
    | .Constant (.bool d) _ _ => b == d
    | _ => false
  | .non, _, x => match x with
    | .Constant .none _ _ => true
    | _ => false
  | .gl s, c, x => match x with
    | .Name n _ => decide (n = Str.ofString s) && glB c.sc n && tyNames.contains s
    | _ => false
  | .cst s d, c, x => match x with
    | .Name n _ => decide (n = Str.ofString s) && glB c.sc n && decide ((s, d) ∈ c.csts)
    | _ => false
  | .tup es, c, x => match x with
    | .Tuple xs _ _ => mts es c xs
    | _ => false
  | .lst es, c, x => match x with
    | .List xs _ => mts es c xs
    | _ => false
  | .dct es, c, x => match x with
    | .Dict ks vs _ => mtd es c ks vs && decide (ks.length ≤ 15)
    | _ => false
  | .op o a b, c, x => match x with
    | .BinOp l p r _ => decide (p = bop o) && mt a c l && mt b c r
    | _ => false
  | .neg a, c, x => match x with
    | .UnaryOp p l _ => decide (p = .USub) && mt a c l
    | _ => false
  | .cmp o a b, c, x => match x with
    | .Compare l [p] [r] _ => decide (p = cop o) && mt a c l && mt b c r
    | _ => false
  | .chn o p a b d, c, x => match x with
    | .Compare l [o', p'] [r, z] _ => decide (o' = cop o) && decide (p' = cop p) && mt a c l && mt b c r && mt d c z
    | _ => false
  | .and a b, c, x => match x with
    | .BoolOp p (l :: r :: rest) pos => decide (p = .And) && mt a c l && (match rest with
      | [] => mt b c r
      | _ => mt b c (.BoolOp .And (r :: rest) pos))
    | _ => false
  | .or a b, c, x => match x with
    | .BoolOp p (l :: r :: rest) pos => decide (p = .Or) && mt a c l && (match rest with
      | [] => mt b c r
      | _ => mt b c (.BoolOp .Or (r :: rest) pos))
    | _ => false
  | .not a, c, x => match x with
    | .UnaryOp p l _ => decide (p = .Not) && mt a c l
    | _ => false
  | .ite k a b, c, x => match x with
    | .IfExp t l r _ => mt k c t && mt a c l && mt b c r
    | _ => false
  | .ix a i, c, x => match x with
    | .Subscript l r _ => mt a c l && mt i c r
    | _ => false
  | .sl a lo hi, c, x => match x with
    | .Subscript l (.Slice u v none _) _ => mt a c l && mto lo c u && mto hi c v
    | _ => false
  | .call f es, c, x => match x with
    | .Call (.Name n _) xs [] _ => decide (n = Str.ofString f) && decide (f ≠ "super") && glB c.sc n && c.fns.contains f && mts es c xs
    | _ => false
  | .bi f es, c, x => match x with
    | .Call (.Name n _) xs [] _ => decide (n = Str.ofString f) && decide (f ≠ "super") && glB c.sc n && (biNames.contains f || tyBi.contains f) && !xs.isEmpty && mts es c xs
    | _ => false
  | .mth m o es, c, x => match x with
    | .Call (.Attribute l n apos) xs [] cpos => decide (n = Str.ofString m) && (apos.endLine == cpos.line) && mtNames.contains m && decide (xs.length < 29) && mt o c l && mts es c xs
    | _ => false
  | .lc t it cd e own, c, x => match x with
    | .ListComp l gs scope _ => (match gs with
      | [⟨tg, iter, ifs, k⟩] => decide (k = 0) && blkC c.N c.sc scope (ownB c.N own) && decide ((ownB c.N own).map (·.2) = own) && (tgSlots t).all own.contains && mtw it c iter tg && mtt t (c.blk scope) tg && mtc cd (c.blk scope) ifs && mt e (c.blk scope) l
      | _ => false)
    | _ => false
  | .dc t it cd k v own, c, x => match x with
    | .DictComp kx vx gs scope _ => (match gs with
      | [⟨tg, iter, ifs, a⟩] => decide (a = 0) && blkC c.N c.sc scope (ownB c.N own) && decide ((ownB c.N own).map (·.2) = own) && (tgSlots t).all own.contains && mtw it c iter tg && mtt t (c.blk scope) tg && mtc cd (c.blk scope) ifs && mt k (c.blk scope) kx && mt v (c.blk scope) vx
      | _ => false)
    | _ => false
  | .fld a k f, c, x => match x with
    | .Attribute l n _ => decide (n = Str.ofString f) && c.flds.contains (k, f) && mt a c l
    | _ => false
  | .mk k f es, c, x => match x with
    | .Call (.Name n _) xs [] _ => decide (n = Str.ofString k) && decide (k ≠ "super") && glB c.sc n && c.mks.contains (k, f) && mts es c xs
    | _ => false
  | .mc k m f o es, c, x => match x with
    | .Call (.Attribute l n apos) xs [] cpos => decide (n = Str.ofString m) && (apos.endLine == cpos.line) && c.meths.contains (k, m, f) && decide (xs.length < 29) && mt o c l && mts es c xs
    | _ => false
  | .nil, _, _ => false
  | .cons _ _, _, _ => false
  | .wk _, _, _ => false
  | .enm _, _, _ => false
  | .zip _ _, _, _ => false
  | .rng _, _, _ => false
def mts : Ex → SC → List Expr → Bool
  | .nil, _, xs => match xs with
    | [] => true
    | _ => false
  | .cons a r, c, xs => match xs with
    | x :: xs => mt a c x && mts r c xs
    | _ => false
  | _, _, _ => false
def mtd : Ex → SC → List (Option Expr) → List Expr → Bool
  | .nil, _, ks, vs => match ks, vs with
    | [], [] => true
    | _, _ => false
  | .cons a (.cons b r), c, ks, vs => match ks, vs with
    | some k :: ks, v :: vs => mt a c k && mt b c v && mtd r c ks vs
    | _, _ => false
  | _, _, _, _ => false
def mto : Ex → SC → Option Expr → Bool
  | .nil, _, o => match o with
    | none => true
    | _ => false
  | .cons e r, c, o => match o with
    | some x => mt e c x
    | none => false
  | _, _, _ => false
def mtc : Ex → SC → List Expr → Bool
  | .nil, _, xs => match xs with
    | [] => true
    | _ => false
  | .cons e r, c, xs => match xs with
    | [x] => mt e c x
    | _ => false
  | _, _, _ => false
/-- what is walked, and the target -/
def mtw : Ex → SC → Expr → Expr → Bool
  | .wk e, c, x, _ => mt e c x
  | .enm e, c, x, t => isTup t && (match x with
    | .Call (.Name n _) [l] [] _ => decide (n = "enumerate") && glB c.sc n && mt e c l
    | _ => false)
  | .zip a b, c, x, t => isTup t && (match x with
    | .Call (.Name n _) [l, r] [] _ => decide (n = "zip") && glB c.sc n && mt a c l && mt b c r
    | _ => false)
  | .rng es, c, x, _ => match x with
    | .Call (.Name n _) xs [] _ => decide (n = "range") && glB c.sc n && (xs.length == 1 || xs.length == 2) && mts es c xs
    | _ => false
  | _, _, _, _ => false
end
end Ev

/-! ## EvSnd -/
/-! EvSnd: the evaluator's expressions keep to the model. -/
namespace Ev
open PySem PySem.Spec PyProof.Rows L2

abbrev Cl := String → List D → AH → Res D
/-- an exception as it stands: its class, its own dict -/
def XRep (G : Md) (φ : Ph) (H : Hp) (x : Xc) (cls : Value) (dd : Option Addr) : Prop :=
  ∃ C, G.mg (Str.ofString x.cls) = some (.ref C) ∧ cls = .ref C ∧ ((x.fs = [] ∧ dd = none) ∨
    ∃ d1 d2 v1 v2 a, x.cls = "TypeProblem" ∧ x.fs = [("code", d1), ("path", d2)] ∧ dd = some a ∧ H a = some (.xd (xdP v1 v2)) ∧ Rep G φ H d1 v1 ∧ Rep G φ H d2 v2)
/-- what is wanted behind an evaluation; W: of an exception -/
def okG (G : Md) {β : Type} (φ : Ph) (H : Hp) (W : Value → Option Addr → Hp → Prop) (P : β → AH → Ph → Hp → Prop) : Res β → Prop
  | .ok b A => ∀ φ' H', Ext φ H φ' H' → HR G φ' H' A → P b A φ' H'
  | .exc x A => ∀ φ' H' cls dd, Ext φ H φ' H' → HR G φ' H' A → XRep G φ' H' x cls dd → W cls dd H'
  | .no => False
section
variable {G : Md} {α β : Type} {φ φ1 : Ph} {H H1 : Hp} {W : Value → Option Addr → Hp → Prop}
theorem okG.ext {P : β → AH → Ph → Hp → Prop} {r : Res β} (h : okG G φ H W P r) (x : Ext φ H φ1 H1) : okG G φ1 H1 W P r := by
  cases r with
  | ok b A => exact fun φ' H' e hr => h φ' H' (x.trans e) hr
  | exc y A => exact fun φ' H' c d e hr xr => h φ' H' c d (x.trans e) hr xr
  | no => exact h
theorem okG.bnd {P : β → AH → Ph → Hp → Prop} {r : Res α} {f : α → AH → Res β} (h : okG G φ H W P (bnd r f)) : okG G φ H W (fun a A φ' H' => okG G φ' H' W P (f a A)) r := by
  cases r with
  | ok a A => exact fun φ' H' e _ => okG.ext (r := f a A) h e
  | exc y A => exact h
  | no => exact h
theorem okG.ofO {P : β → AH → Ph → Hp → Prop} {o : Option β} {A : AH} (h : okG G φ H W P (ofO o A)) : ∃ b, o = some b ∧ ∀ φ' H', Ext φ H φ' H' → HR G φ' H' A → P b A φ' H' := by
  cases o with
  | some b => exact ⟨b, rfl, h⟩
  | none => exact h.elim
theorem okG.imp {P P' : β → AH → Ph → Hp → Prop} {r : Res β} (h : okG G φ H W P r) (k : ∀ b A φ' H', Ext φ H φ' H' → HR G φ' H' A → P b A φ' H' → P' b A φ' H') : okG G φ H W P' r := by
  cases r with
  | ok b A => exact fun φ' H' e hr => k _ _ _ _ e hr (h φ' H' e hr)
  | exc y A => exact h
  | no => exact h
end
def pV (G : Md) (Q : VK) : D → AH → Ph → Hp → Prop := fun d _ φ H => ∀ v, Rep G φ H d v → Q v H
def pL (G : Md) (Q : List V → Hp → Prop) : List D → AH → Ph → Hp → Prop := fun ds _ φ H => ∀ vs, Reps G φ H ds vs → Q vs H
def pB (Q : Bool → Hp → Prop) : Bool → AH → Ph → Hp → Prop := fun b _ _ H => Q b H
def pO (Q : Option Int → Hp → Prop) : Option Int → AH → Ph → Hp → Prop := fun b _ _ H => Q b H
theorem okG.vc {G : Md} {φ : Ph} {H : Hp} {W : Value → Option Addr → Hp → Prop} {Q : VK} {d : D} {A : AH} (h : okG G φ H W (pV G Q) (.ok d A)) : VC G φ H Q d A := fun φ' H' v e hr r => h φ' H' e hr v r

/-- readings by the evaluator -/
def tG (G : Md) {β : Type} (W : WX) (f : Fr → AH → Res β) (σ : L2.St) (H : Hp) (P : β → AH → Ph → Hp → Prop) : Prop := ∃ φ F A, HR G φ H A ∧ FR G φ H F σ ∧ okG G φ H (fun c d H' => W c d σ H') P (f F A)
def tE (G : Md) (cl : Cl) (W : WX) (e : Ex) : TE := fun σ H Q => tG G W (ev cl e) σ H (pV G Q)
def tT (G : Md) (cl : Cl) (W : WX) (e : Ex) : TT := fun σ H Q => tG G W (fun F A => tru (ev cl e F A)) σ H (pB Q)
def tA (G : Md) (cl : Cl) (W : WX) (e : Ex) : TA := fun σ H Q => tG G W (evs cl e) σ H (pL G Q)
def tO (G : Md) (cl : Cl) (W : WX) (e : Ex) : TO := fun σ H Q => tG G W (evo cl e) σ H (pO Q)
def tCd (G : Md) (cl : Cl) (W : WX) (e : Ex) : TT := fun σ H Q => tG G W (evc cl e) σ H (pB Q)

/-- what a call keeps -/
def spEv (G : Md) (cl : Cl) (f : String) : Sp := fun vs H Q E => ∃ φ A ds, HR G φ H A ∧ Reps G φ H ds vs ∧ okG G φ H E (pV G Q) (cl f ds A)
structure FnIs (P : Program) (w : World) (K : PySem.W.Frag) (mg : Str → Option Value) (base : Heap) (A : Around) (cl : Cl) (f : String) : Prop where
  ex : ∃ (fa : Addr) (fd : FuncData) (ps : List Str) (k : Nat), mg (Str.ofString f) = some (.ref fa) ∧ PySem.W.keepIn K (.ref fa) = true ∧ Binds K fd ps [] ∧ FnOk P w K mg base (CX P w) k fa fd ps (spEv ⟨K, mg⟩ cl f) ∧ Room k A
/-- a class that is made; a method of an instance -/
structure MkIs (P : Program) (w : World) (K : PySem.W.Frag) (mg : Str → Option Value) (base : Heap) (A : Around) (cl : Cl) (c f : String) : Prop where
  ex : ∃ (C fa : Addr) (fd : FuncData) (ps : List Str) (k : Nat), mg (Str.ofString c) = some (.ref C) ∧ Mk K C fa ∧ Binds K fd ps [] ∧ FnOk P w K mg base (CX P w) k fa fd ps (spEv ⟨K, mg⟩ cl f) ∧ Room (k + 1) A
structure MeIs (P : Program) (w : World) (K : PySem.W.Frag) (mg : Str → Option Value) (base : Heap) (A : Around) (cl : Cl) (c m f : String) : Prop where
  ex : ∃ (C fa : Addr) (fd : FuncData) (ps : List Str) (k : Nat), mg (Str.ofString c) = some (.ref C) ∧ Cls K C ∧ Meth K C (Str.ofString m) fa ∧ Binds K fd ps [] ∧ FnOk P w K mg base (CX P w) k fa fd ps (spEv ⟨K, mg⟩ cl f) ∧ Room k A
/-- what the written part says of fields and exceptions -/
structure TabOk (P : Program) (K : PySem.W.Frag) (mg : Str → Option Value) (flds : List (String × String)) (xos xcs : List String) (xpb : Bool) : Prop where
  flds : ∀ p ∈ flds, ∃ C, mg (Str.ofString p.1) = some (.ref C) ∧ Cls K C ∧ NoAttr K C (Str.ofString p.2)
  xos : ∀ x ∈ xos, ∃ C, mg (Str.ofString x) = some (.ref C) ∧ PySem.W.excIn K C PySem.ProbX.veTail "ValueError.__new__" = true ∧ PySem.W.keepIn K (.ref C) = true ∧ PySem.W.subIn K (.ref C) (.type "BaseException") = some true ∧ PySem.W.typeIn K (.ref C) = some (.type "type")
  xcs : ∀ x ∈ xcs, ∀ y ∈ xcs, ∃ C D, mg (Str.ofString x) = some (.ref C) ∧ mg (Str.ofString y) = some (.ref D) ∧ PySem.W.exmOne K (.ref C) (.ref D) = some (decide (x = y))
  prob : xpb = true → ∃ C fI, PySem.ProbX.ProbTxt P K mg C fI
structure CtxOk (X : Cx) (c : SC) (cl : Cl) (W : WX) : Prop where
  N : X.N = c.N
  nd : c.N.Nodup
  sc : X.env.scope = c.sc
  calm : X.calm = true
  kd : X.env.scope.kind = .function
  hu : X.A.units + 65 < cLine
  tk : Takes X W
  ps : PassesOwn (model X.prog X.w) X.A X.env X.xe
  fb : FreeB X.mg
  bn : ∀ x ∈ biNames ++ tyBi ++ ["enumerate", "zip", "range"], X.mg (Str.ofString x) = none
  sto : ∀ x ∈ c.sto, Loc X.env.scope x ∧ (X.fn x = true ∨ X.env.scope.names.lookup x = some .local)
  calls : ∀ f ∈ c.fns, FnIs X.prog X.w X.K X.mg X.base X.A cl f
  csts : ∀ p ∈ c.csts, ∃ v u, X.mg (Str.ofString p.1) = some u ∧ RelV v u ∧ ∀ φ H, Rep (Gd X) φ H p.2 v
  mks : ∀ p ∈ c.mks, MkIs X.prog X.w X.K X.mg X.base X.A cl p.1 p.2
  meths : ∀ p ∈ c.meths, MeIs X.prog X.w X.K X.mg X.base X.A cl p.1 p.2.1 p.2.2
  tab : TabOk X.prog X.K X.mg c.flds c.xos c.xcs c.xpb
  rm : ∃ k, Room k X.A

section
variable {X : Cx} {c : SC} {cl : Cl} {W : WX} {G : Md}
theorem pe_imp {x : Expr} {t t' : TE} (h : PE X x t) (k : ∀ σ H Q, t' σ H Q → t σ H Q) : PE X x t' := ⟨fun pins s σ H Q I q => h.run pins s σ H Q I (k σ H Q q)⟩
theorem pt_imp {x : Expr} {t t' : TT} (h : PT X x t) (k : ∀ σ H Q, t' σ H Q → t σ H Q) : PT X x t' := ⟨fun pins s σ H Q I q => h.run pins s σ H Q I (k σ H Q q)⟩
theorem pw_imp {x : Expr} {t t' : TT} (h : PW X x t) (k : ∀ σ H Q, t' σ H Q → t σ H Q) : PW X x t' := ⟨fun wh pins s σ H Q I q => h.run wh pins s σ H Q I (k σ H Q q)⟩
theorem pa_imp {x : List Expr} {t t' : TA} (h : PA X x t) (k : ∀ σ H Q, t' σ H Q → t σ H Q) : PA X x t' := ⟨fun pos pins s σ H Q I q => h.run pos pins s σ H Q I (k σ H Q q)⟩
theorem tE_mono {e : Ex} {σ : L2.St} {H : Hp} {Q Q' : VK} (h : tE G cl W e σ H Q) (k : ∀ v H', Q v H' → Q' v H') : tE G cl W e σ H Q' := by
  obtain ⟨φ, F, A, hr, fr, ok⟩ := h
  exact ⟨φ, F, A, hr, fr, ok.imp fun b A φ' H' _ _ q v r => k _ _ (q v r)⟩
/-- one part, then the rest -/
theorem tE_go {β : Type} {e : Ex} {σ : L2.St} {H : Hp} {φ : Ph} {F : Fr} {A : AH} {P : β → AH → Ph → Hp → Prop} {f : D → AH → Res β} (hr : HR G φ H A) (fr : FR G φ H F σ)
    (ok : okG G φ H (fun c d H' => W c d σ H') P (bnd (ev cl e F A) f)) :
    tE G cl W e σ H (fun x H1 => ∃ φ1 A1 d, HR G φ1 H1 A1 ∧ FR G φ1 H1 F σ ∧ Rep G φ1 H1 d x ∧ okG G φ1 H1 (fun c d H' => W c d σ H') P (f d A1)) :=
  ⟨φ, F, A, hr, fr, ok.bnd.imp fun d A1 φ1 H1 e hr1 q v r => ⟨φ1, A1, d, hr1, fr.ext hr e, r, q⟩⟩
theorem tA_go {β : Type} {e : Ex} {σ : L2.St} {H : Hp} {φ : Ph} {F : Fr} {A : AH} {P : β → AH → Ph → Hp → Prop} {f : List D → AH → Res β} (hr : HR G φ H A) (fr : FR G φ H F σ)
    (ok : okG G φ H (fun c d H' => W c d σ H') P (bnd (evs cl e F A) f)) :
    tA G cl W e σ H (fun xs H1 => ∃ φ1 A1 ds, HR G φ1 H1 A1 ∧ FR G φ1 H1 F σ ∧ Reps G φ1 H1 ds xs ∧ okG G φ1 H1 (fun c d H' => W c d σ H') P (f ds A1)) :=
  ⟨φ, F, A, hr, fr, ok.bnd.imp fun d A1 φ1 H1 e hr1 q v r => ⟨φ1, A1, d, hr1, fr.ext hr e, r, q⟩⟩
/-- the reading of a form whose parts are evaluated in a row: the second part needs the first's value -/
theorem tE_go2 {β : Type} {e e2 : Ex} {σ : L2.St} {H : Hp} {φ : Ph} {F : Fr} {A : AH} {P : β → AH → Ph → Hp → Prop} {f : D → D → AH → Res β} (hr : HR G φ H A) (fr : FR G φ H F σ)
    (ok : okG G φ H (fun c d H' => W c d σ H') P (bnd (ev cl e F A) fun x A1 => bnd (ev cl e2 F A1) fun y A2 => f x y A2)) :
    tE G cl W e σ H (fun x H1 => tE G cl W e2 σ H1 (fun y H2 => ∃ φ2 A2 d d2, HR G φ2 H2 A2 ∧ FR G φ2 H2 F σ ∧ Rep G φ2 H2 d x ∧ Rep G φ2 H2 d2 y ∧ okG G φ2 H2 (fun c d H' => W c d σ H') P (f d d2 A2))) :=
  tE_mono (tE_go hr fr ok) fun x H1 ⟨φ1, A1, d, hr1, fr1, r1, ok1⟩ =>
    ⟨φ1, F, A1, hr1, fr1, ok1.bnd.imp fun d2 A2 φ2 H2 e hr2 q v r => ⟨φ2, A2, d, d2, hr2, fr1.ext hr1 e, r1.ext hr1 e, r, q⟩⟩

/-! ### plain texts -/
theorem mt_plain {e : Ex} {x : Expr} (h : mt e c x = true) : plainB x = true := by
  cases x <;> first | rfl | (exfalso; revert h; cases e <;> simp [mt])
theorem star_plain {x : Expr} {xs : List Expr} {env : Env} (h : plainB x = true) : starEach (x :: xs) env = (false, eval x env) :: starEach xs env := by
  cases x <;> first | rfl | (cases h; done)
theorem mts_plain : ∀ {e : Ex} {xs : List Expr}, mts e c xs = true → xs.all plainB = true
  | .nil, xs, h => by
    cases xs with
    | nil => rfl
    | cons => simp [mts] at h
  | .cons a r, xs, h => by
    cases xs with
    | nil => rfl
    | cons x xs =>
      have h : mt a c x = true ∧ mts r c xs = true := by simpa [mts] using h
      rw [List.all_cons, mt_plain h.1, mts_plain h.2]; rfl
  | .var _, _, h | .int _, _, h | .str _, _, h | .bl _, _, h | .non, _, h | .gl _, _, h | .cst _ _, _, h | .tup _, _, h | .lst _, _, h | .dct _, _, h | .op _ _ _, _, h | .neg _, _, h | .cmp _ _ _, _, h
  | .chn _ _ _ _ _, _, h | .and _ _, _, h | .or _ _, _, h | .not _, _, h | .ite _ _ _, _, h | .ix _ _, _, h | .sl _ _ _, _, h | .call _ _, _, h | .bi _ _, _, h | .mth _ _ _, _, h | .lc _ _ _ _ _, _, h
  | .dc _ _ _ _ _ _, _, h | .fld _ _ _, _, h | .mk _ _ _, _, h | .mc _ _ _ _ _, _, h | .wk _, _, h | .enm _, _, h | .zip _ _, _, h | .rng _, _, h => by simp [mts] at h
theorem star_all : ∀ {xs : List Expr} {env : Env}, xs.all plainB = true → starEach xs env = xs.map fun x => (false, eval x env)
  | [], _, _ => rfl
  | x :: xs, env, h => by
    simp only [List.all_cons, Bool.and_eq_true] at h
    rw [star_plain h.1, star_all h.2]; rfl
theorem back_none {xs : List Expr} {env : Env} {pos : Pos} (h : xs.all plainB = true) : (backTo pos (starEach xs env)).any (·.1) = false := by
  rw [star_all h]
  induction xs with
  | nil => rfl
  | cons x xs ih =>
    simp only [List.all_cons, Bool.and_eq_true] at h
    have := ih h.2
    simpa [backTo] using this
theorem sub_plain {x : Expr} (h : plainB x = true) (o i : Value) : subscripted x false o i = operate [o, i] (getItem o i) := by
  cases x <;> first | rfl | (cases h; done)
theorem mark_plain {x : Expr} {op : CmpOp} (h : plainB x = true) : behindInMarks op x = false := by
  cases x <;> first | rfl | (cases h; done)
theorem folded_plain {x : Expr} {env : Env} {v : Value} (h : plainB x = true) : foldedSetIterable x env v = pure v := by
  cases x <;> first | rfl | (cases h; done)
theorem attr_plain {e : Ex} {x : Expr} {env : Env} {m : Str} {whole : Sem Value} (h : mt e c x = true) : attributeBase x m env whole = whole := by
  cases x with
  | Call f as ks pos =>
    cases f with
    | Name id p =>
      cases as with
      | cons => rfl
      | nil =>
        cases ks with
        | cons => rfl
        | nil =>
          have hid : id ≠ "super" := by
            cases e <;> first | (simp [mt] at h; done) | skip
            · rename_i f es
              have h : (decide (id = Str.ofString f) && decide (f ≠ "super") && glB c.sc id && c.fns.contains f && mts es c []) = true := h
              simp only [Bool.and_eq_true, decide_eq_true_eq] at h
              intro q
              exact h.1.1.1.2 (ofString_inj (h.1.1.1.1.symm.trans q))
            · rename_i k f es
              have h : (decide (id = Str.ofString k) && decide (k ≠ "super") && glB c.sc id && c.mks.contains (k, f) && mts es c []) = true := h
              simp only [Bool.and_eq_true, decide_eq_true_eq] at h
              intro q
              exact h.1.1.1.2 (ofString_inj (h.1.1.1.1.symm.trans q))
          unfold attributeBase
          have : (id != ("super" : Str)) = true := bne_iff_ne.mpr hid
          simp only [this, Bool.true_or, if_true]
    | _ => rfl
  | _ => rfl
end
end Ev

/-! ## EvSnd2 -/
/-! EvSnd2: names, constants, displays, operators, tests. -/
namespace Ev
open PySem PySem.Spec PyProof.Rows L2

/-- what is walked: the reading gives the walk's iterator over the heap behind (a dict is locked) -/
structure WkIt (G : Md) (φ0 : Ph) (H0 : Hp) (w : Wk) (J : It) : Prop where
  step : ∀ (φ : Ph) (H : Hp) (A : AH) (i : Nat) (d : D), Ext φ0 H0 φ H → HR G φ H A → gOk A w.g = true → w.items[i]? = some d → J.go i H ∧ ∀ x H', J.yld i H x H' → Ext φ H φ H' ∧ HR G φ H' A ∧ Rep G φ H' d x
  stop : ∀ (φ : Ph) (H : Hp) (A : AH), Ext φ0 H0 φ H → HR G φ H A → gOk A w.g = true → J.stop w.items.length H
/-- the lock: the dict's place, unlocked at the end -/
def LockOk (X : Cx) (φ : Ph) (H : Hp) (l : Option Nat) : Prop := match l with
  | none => True
  | some n => ∃ a o ks, φ[n]? = some a ∧ H a = some (.frz o (.dK ks)) ∧ (∀ o' u', X.H_0 a ≠ some (.frz o' u')) ∧ ∀ (φ0 : Ph) (H0 : Hp), True
def iW (X : Cx) (cl : Cl) (W : WX) (e : Ex) : TI := fun σ H R => tG (Gd X) W (evw cl e) σ H (fun w A φ1 H1 =>
  ∀ H2 J, (w.lock = none → H2 = H1) → (∀ n, w.lock = some n → ∃ a o ks, φ1[n]? = some a ∧ H1 a = some (.dK ks) ∧ H2 = upd H1 a (.frz o (.dK ks)) ∧ ∀ o' u', X.H_0 a ≠ some (.frz o' u')) →
    HR (Gd X) φ1 H2 (lockA A w.lock) → WkIt (Gd X) φ1 H2 w J → R J H2)
structure SE (cl : Cl) (e : Ex) : Prop where
  pe : ∀ {X : Cx} {c : SC} {W : WX} {x : Expr}, CtxOk X c cl W → mt e c x = true → PE X x (tE (Gd X) cl W e)
  pt : ∀ {X : Cx} {c : SC} {W : WX} {x : Expr}, CtxOk X c cl W → mt e c x = true → PT X x (tT (Gd X) cl W e)
  pw : ∀ {X : Cx} {c : SC} {W : WX} {op : BoolOp} {xs : List Expr} {pos : Pos}, CtxOk X c cl W → mt e c (.BoolOp op xs pos) = true → PW X (.BoolOp op xs pos) (tT (Gd X) cl W e)
  pa : ∀ {X : Cx} {c : SC} {W : WX} {xs : List Expr}, CtxOk X c cl W → mts e c xs = true → PA X xs (tA (Gd X) cl W e)
  pd : ∀ {X : Cx} {c : SC} {W : WX} {ks : List (Option Expr)} {vs : List Expr} {pos : Pos}, CtxOk X c cl W → mtd e c ks vs = true → ∃ trs, PPs X pos ks vs trs ∧ ks.all (·.isSome) = true ∧ ks.length = vs.length ∧
    ∀ (σ : L2.St) (H : Hp) (Q : List (V × V) → Hp → Prop), tG (Gd X) W (evs cl e) σ H (fun ds A φ H' => ∃ kvs, pairUp ds = some kvs ∧ ∀ ps, KReps (Gd X) φ H' kvs ps → Q (ps.map fun kv => (kV kv.1, kv.2)) H') → tPairs trs σ H Q
  po : ∀ {X : Cx} {c : SC} {W : WX} {o : Option Expr}, CtxOk X c cl W → mto e c o = true → PO X o (tO (Gd X) cl W e)
  pc : ∀ {X : Cx} {c : SC} {W : WX} {xs : List Expr}, CtxOk X c cl W → mtc e c xs = true → PTs X xs (tCd (Gd X) cl W e)
  pi : ∀ {X : Cx} {c : SC} {W : WX} {x tg : Expr}, CtxOk X c cl W → mtw e c x tg = true → PI X tg x (iW X cl W e)
/-- a form that is an expression alone -/
structure Alone (e : Ex) : Prop where
  a : ∀ c xs, mts e c xs = false
  d : ∀ c ks vs, mtd e c ks vs = false
  o : ∀ c x, mto e c x = false
  t : ∀ c xs, mtc e c xs = false
  w : ∀ c x t, mtw e c x t = false
theorem SE.of {cl : Cl} {e : Ex} (al : Alone e)
    (pe : ∀ {X : Cx} {c : SC} {W : WX} {x : Expr}, CtxOk X c cl W → mt e c x = true → PE X x (tE (Gd X) cl W e))
    (pt : ∀ {X : Cx} {c : SC} {W : WX} {x : Expr}, CtxOk X c cl W → mt e c x = true → PT X x (tT (Gd X) cl W e))
    (pw : ∀ {X : Cx} {c : SC} {W : WX} {op : BoolOp} {xs : List Expr} {pos : Pos}, CtxOk X c cl W → mt e c (.BoolOp op xs pos) = true → PW X (.BoolOp op xs pos) (tT (Gd X) cl W e)) : SE cl e where
  pe := pe
  pt := pt
  pw := pw
  pa := fun _ h => by rw [al.a] at h; cases h
  pd := fun _ h => by rw [al.d] at h; cases h
  po := fun _ h => by rw [al.o] at h; cases h
  pc := fun _ h => by rw [al.t] at h; cases h
  pi := fun _ h => by rw [al.w] at h; cases h

section
variable {X : Cx} {c : SC} {cl : Cl} {W : WX}
/-- an expression's test is its value's truth -/
theorem pt_of {e : Ex} {x : Expr} (h : PE X x (tE (Gd X) cl W e)) (hx : ∀ whole, isTrue x X.env whole = (do let v ← whole; standAt x.pos; holding [v] (truthy v))) : PT X x (tT (Gd X) cl W e) := by
  refine pt_imp (pt_truth h hx) fun σ H Q q => ?_
  obtain ⟨φ, F, A, hr, fr, ok⟩ := q
  refine tE_mono (tE_go hr fr ok) fun v H1 ⟨φ1, A1, d, hr1, fr1, r1, ok1⟩ => ?_
  obtain ⟨b, hb, q⟩ := ok1.ofO
  exact ⟨b, tru_of hr1 r1 hb, q φ1 H1 .refl hr1⟩
theorem gen_Name {n : Str} {p : Pos} {env : Env} (whole : Sem Value) : isTrue (.Name n p) env whole = (do let v ← whole; standAt (Expr.pos (.Name n p)); holding [v] (truthy v)) := rfl
/-- by one part -/
theorem fin_ok {G : Md} {φ : Ph} {H : Hp} {A : AH} {d : D} {v : V} {Wc : Value → Option Addr → Hp → Prop} {Q : VK} (ok : okG G φ H Wc (pV G Q) (.ok d A)) (hr : HR G φ H A) (r : Rep G φ H d v) : Q v H := ok φ H .refl hr v r
end

section
variable {cl : Cl}
theorem se_var (i : Nat) : SE cl (.var i) := by
  have pe : ∀ {X : Cx} {c : SC} {W : WX} {x : Expr}, CtxOk X c cl W → mt (.var i) c x = true → PE X x (tE (Gd X) cl W (.var i)) := fun {X c W x} ok h => by
    cases x with
    | Name n p =>
      have h : (decide (c.N[i]? = some n) && visB c.sc n && decide ((n == ("__debug__" : Str)) = false) && decide ((n == ("__classdict__" : Str)) = false)) = true := h
      simp only [Bool.and_eq_true, decide_eq_true_eq] at h
      obtain ⟨⟨⟨h1, h2⟩, h3⟩, h4⟩ := h
      refine pe_imp (pe_var (i := i) (by rw [ok.N]; exact h1) (by
        show Vis X.env.scope n
        rw [ok.sc]
        unfold visB at h2
        unfold Vis
        split at h2 <;> first | (cases h2; done) | simp [*]) h3 h4) fun σ H Q q => ?_
      obtain ⟨φ, F, A, hr, fr, o⟩ := q
      unfold ev at o
      split at o
      · rename_i d hd
        obtain ⟨v, e1, r1⟩ := fr.2 i d hd
        exact ⟨v, e1, fin_ok o hr r1⟩
      · exact o.elim
    | _ => simp [mt] at h
  refine SE.of ⟨fun c xs => by simp [mts], fun c ks vs => by simp [mtd], fun c x => by simp [mto], fun c x => by simp [mtc], fun c x t => by simp [mtw]⟩ pe (fun {X c W x} ok h => pt_of (pe ok h) ?_) (fun ok h => by simp [mt] at h)
  cases x <;> first | (exact fun _ => rfl) | (simp [mt] at h; done)
theorem se_int (i : Int) : SE cl (.int i) := by
  have pe : ∀ {X : Cx} {c : SC} {W : WX} {x : Expr}, CtxOk X c cl W → mt (.int i) c x = true → PE X x (tE (Gd X) cl W (.int i)) := fun {X c W x} ok h => by
    cases x with
    | Constant k j p =>
      cases k with
      | int j =>
        have h : i = j := by simpa [mt] using h
        subst h
        exact pe_imp pe_int fun σ H Q ⟨φ, F, A, hr, fr, o⟩ => fin_ok o hr rfl
      | _ => simp [mt] at h
    | _ => simp [mt] at h
  refine SE.of ⟨fun c xs => by simp [mts], fun c ks vs => by simp [mtd], fun c x => by simp [mto], fun c x => by simp [mtc], fun c x t => by simp [mtw]⟩ pe (fun {X c W x} ok h => pt_of (pe ok h) ?_) (fun ok h => by simp [mt] at h)
  cases x <;> first | (exact fun _ => rfl) | (simp [mt] at h; done)
theorem se_str (z : String) : SE cl (.str z) := by
  have pe : ∀ {X : Cx} {c : SC} {W : WX} {x : Expr}, CtxOk X c cl W → mt (.str z) c x = true → PE X x (tE (Gd X) cl W (.str z)) := fun {X c W x} ok h => by
    cases x with
    | Constant k j p =>
      cases k with
      | str j =>
        have h : j = Str.ofString z := by simpa [mt] using h
        subst h
        exact pe_imp pe_str fun σ H Q ⟨φ, F, A, hr, fr, o⟩ => fin_ok o hr rfl
      | _ => simp [mt] at h
    | _ => simp [mt] at h
  refine SE.of ⟨fun c xs => by simp [mts], fun c ks vs => by simp [mtd], fun c x => by simp [mto], fun c x => by simp [mtc], fun c x t => by simp [mtw]⟩ pe (fun {X c W x} ok h => pt_of (pe ok h) ?_) (fun ok h => by simp [mt] at h)
  cases x <;> first | (exact fun _ => rfl) | (simp [mt] at h; done)
theorem se_bl (b : Bool) : SE cl (.bl b) := by
  have pe : ∀ {X : Cx} {c : SC} {W : WX} {x : Expr}, CtxOk X c cl W → mt (.bl b) c x = true → PE X x (tE (Gd X) cl W (.bl b)) := fun {X c W x} ok h => by
    cases x with
    | Constant k j p =>
      cases k with
      | bool j =>
        have h : b = j := by simpa [mt] using h
        subst h
        exact pe_imp pe_bl fun σ H Q ⟨φ, F, A, hr, fr, o⟩ => fin_ok o hr rfl
      | _ => simp [mt] at h
    | _ => simp [mt] at h
  refine SE.of ⟨fun c xs => by simp [mts], fun c ks vs => by simp [mtd], fun c x => by simp [mto], fun c x => by simp [mtc], fun c x t => by simp [mtw]⟩ pe (fun {X c W x} ok h => pt_of (pe ok h) ?_) (fun ok h => by simp [mt] at h)
  cases x <;> first | (exact fun _ => rfl) | (simp [mt] at h; done)
theorem se_non : SE cl .non := by
  have pe : ∀ {X : Cx} {c : SC} {W : WX} {x : Expr}, CtxOk X c cl W → mt .non c x = true → PE X x (tE (Gd X) cl W .non) := fun {X c W x} ok h => by
    cases x with
    | Constant k j p =>
      cases k with
      | none => exact pe_imp pe_non fun σ H Q ⟨φ, F, A, hr, fr, o⟩ => fin_ok o hr rfl
      | _ => simp [mt] at h
    | _ => simp [mt] at h
  refine SE.of ⟨fun c xs => by simp [mts], fun c ks vs => by simp [mtd], fun c x => by simp [mto], fun c x => by simp [mtc], fun c x t => by simp [mtw]⟩ pe (fun {X c W x} ok h => pt_of (pe ok h) ?_) (fun ok h => by simp [mt] at h)
  cases x <;> first | (exact fun _ => rfl) | (simp [mt] at h; done)
theorem se_gl (z : String) : SE cl (.gl z) := by
  have pe : ∀ {X : Cx} {c : SC} {W : WX} {x : Expr}, CtxOk X c cl W → mt (.gl z) c x = true → PE X x (tE (Gd X) cl W (.gl z)) := fun {X c W x} ok h => by
    cases x with
    | Name n p =>
      have h : (decide (n = Str.ofString z) && glB c.sc n && tyNames.contains z) = true := h
      simp only [Bool.and_eq_true, decide_eq_true_eq, glB] at h
      obtain ⟨⟨rfl, ⟨h1, h2⟩, h3⟩, h4⟩ := h
      have h4 : z ∈ tyNames := by simpa using h4
      have hg : Gl X (Str.ofString z) := by
        show X.env.scope.names.lookup _ = _
        rw [ok.sc]; exact h1
      have hm := ok.fb z h4
      exact pe_imp (pe_bltn (v := .ty z) hg hm (boot_ty z h4) rfl h3 h2) fun σ H Q ⟨φ, F, A, hr, fr, o⟩ => fin_ok o hr ⟨.type z, rfl, .inr ⟨hm, boot_ty z h4⟩⟩
    | _ => simp [mt] at h
  refine SE.of ⟨fun c xs => by simp [mts], fun c ks vs => by simp [mtd], fun c x => by simp [mto], fun c x => by simp [mtc], fun c x t => by simp [mtw]⟩ pe (fun {X c W x} ok h => pt_of (pe ok h) ?_) (fun ok h => by simp [mt] at h)
  cases x <;> first | (exact fun _ => rfl) | (simp [mt] at h; done)
theorem se_cst (z : String) (d : D) : SE cl (.cst z d) := by
  have pe : ∀ {X : Cx} {c : SC} {W : WX} {x : Expr}, CtxOk X c cl W → mt (.cst z d) c x = true → PE X x (tE (Gd X) cl W (.cst z d)) := fun {X c W x} ok h => by
    cases x with
    | Name n p =>
      have h : (decide (n = Str.ofString z) && glB c.sc n && decide ((z, d) ∈ c.csts)) = true := h
      simp only [Bool.and_eq_true, decide_eq_true_eq, glB] at h
      obtain ⟨⟨rfl, ⟨h1, h2⟩, h3⟩, h4⟩ := h
      have hg : Gl X (Str.ofString z) := by
        show X.env.scope.names.lookup _ = _
        rw [ok.sc]; exact h1
      obtain ⟨v, u, hm, r, hrep⟩ := ok.csts (z, d) h4
      exact pe_imp (pe_glob hg hm r h2) fun σ H Q ⟨φ, F, A, hr, fr, o⟩ => fin_ok o hr (hrep φ H)
    | _ => simp [mt] at h
  refine SE.of ⟨fun c xs => by simp [mts], fun c ks vs => by simp [mtd], fun c x => by simp [mto], fun c x => by simp [mtc], fun c x t => by simp [mtw]⟩ pe (fun {X c W x} ok h => pt_of (pe ok h) ?_) (fun ok h => by simp [mt] at h)
  cases x <;> first | (exact fun _ => rfl) | (simp [mt] at h; done)
theorem se_tup {es : Ex} (ih : SE cl es) : SE cl (.tup es) := by
  have pe : ∀ {X : Cx} {c : SC} {W : WX} {x : Expr}, CtxOk X c cl W → mt (.tup es) c x = true → PE X x (tE (Gd X) cl W (.tup es)) := fun {X c W x} ok h => by
    cases x with
    | Tuple xs k p =>
      have h : mts es c xs = true := h
      refine pe_imp (pe_tup (ih.pa ok h)) fun σ H Q ⟨φ, F, A, hr, fr, o⟩ => ?_
      obtain ⟨φ', F', A', hr', fr', o'⟩ := tA_go (β := D) (cl := cl) (e := es) (f := fun ds A' => if ds.length ≤ sizeLine then .ok (.tup ds) A' else .no) hr fr o
      refine ⟨φ', F', A', hr', fr', o'.imp fun ds A1 φ1 H1 _ _ q vs rv => ?_⟩
      obtain ⟨φ2, A2, ds2, hr2, fr2, r2, o2⟩ := q vs rv
      split at o2
      · rename_i hl
        exact ⟨by rw [r2.length]; exact hl, fun p hp => o2.vc.tup hr2 hp r2⟩
      · exact o2.elim
    | _ => simp [mt] at h
  refine SE.of ⟨fun c xs => by simp [mts], fun c ks vs => by simp [mtd], fun c x => by simp [mto], fun c x => by simp [mtc], fun c x t => by simp [mtw]⟩ pe (fun {X c W x} ok h => pt_of (pe ok h) ?_) (fun ok h => by simp [mt] at h)
  cases x <;> first | (exact fun _ => rfl) | (simp [mt] at h; done)
theorem se_lst {es : Ex} (ih : SE cl es) : SE cl (.lst es) := by
  have pe : ∀ {X : Cx} {c : SC} {W : WX} {x : Expr}, CtxOk X c cl W → mt (.lst es) c x = true → PE X x (tE (Gd X) cl W (.lst es)) := fun {X c W x} ok h => by
    cases x with
    | List xs p =>
      have h : mts es c xs = true := h
      refine pe_imp (pe_lst (ih.pa ok h)) fun σ H Q ⟨φ, F, A, hr, fr, o⟩ => ?_
      obtain ⟨φ', F', A', hr', fr', o'⟩ := tA_go (β := D) (cl := cl) (e := es) (f := fun ds A' => if ds.length ≤ sizeLine then .ok (.ref A'.length) (A' ++ [.lst ds]) else .no) hr fr o
      refine ⟨φ', F', A', hr', fr', o'.imp fun ds A1 φ1 H1 _ _ q vs rv => ?_⟩
      obtain ⟨φ2, A2, ds2, hr2, fr2, r2, o2⟩ := q vs rv
      split at o2
      · rename_i hl
        exact ⟨by rw [r2.length]; exact hl, fun p hp => o2.vc.new hr2 hp ⟨_, rfl, r2⟩⟩
      · exact o2.elim
    | _ => simp [mt] at h
  refine SE.of ⟨fun c xs => by simp [mts], fun c ks vs => by simp [mtd], fun c x => by simp [mto], fun c x => by simp [mtc], fun c x t => by simp [mtw]⟩ pe (fun {X c W x} ok h => pt_of (pe ok h) ?_) (fun ok h => by simp [mt] at h)
  cases x <;> first | (exact fun _ => rfl) | (simp [mt] at h; done)
theorem se_op (o : BOp) {a b : Ex} (iha : SE cl a) (ihb : SE cl b) : SE cl (.op o a b) := by
  have pe : ∀ {X : Cx} {c : SC} {W : WX} {x : Expr}, CtxOk X c cl W → mt (.op o a b) c x = true → PE X x (tE (Gd X) cl W (.op o a b)) := fun {X c W x} ok h => by
    cases x with
    | BinOp l p r pos =>
      have h : (decide (p = bop o) && mt a c l && mt b c r) = true := h
      simp only [Bool.and_eq_true, decide_eq_true_eq] at h
      obtain ⟨⟨rfl, h1⟩, h2⟩ := h
      refine pe_imp (pe_op (opB_ok o) (iha.pe ok h1) (ihb.pe ok h2)) fun σ H Q ⟨φ, F, A, hr, fr, q⟩ => ?_
      refine tE_mono (tE_go2 (β := D) (cl := cl) (e := a) (e2 := b) (f := fun x y A2 => opB A2 o x y) hr fr q) fun x H1 t1 => tE_mono t1 fun y H2 ⟨φ2, A2, d, d2, hr2, fr2, r1, r2, q2⟩ => ?_
      cases e : opB A2 o d d2 with
      | ok r A3 => rw [e] at q2; exact ⟨φ2, A2, d, d2, r, A3, hr2, r1, r2, e, q2.vc⟩
      | exc y A3 => exfalso; revert e; unfold opB; repeat' split
                    all_goals (intro e; cases e)
      | no => rw [e] at q2; exact q2.elim
    | _ => simp [mt] at h
  refine SE.of ⟨fun c xs => by simp [mts], fun c ks vs => by simp [mtd], fun c x => by simp [mto], fun c x => by simp [mtc], fun c x t => by simp [mtw]⟩ pe (fun {X c W x} ok h => pt_of (pe ok h) ?_) (fun ok h => by simp [mt] at h)
  cases x <;> first | (exact fun _ => rfl) | (simp [mt] at h; done)
theorem se_neg {a : Ex} (iha : SE cl a) : SE cl (.neg a) := by
  have pe : ∀ {X : Cx} {c : SC} {W : WX} {x : Expr}, CtxOk X c cl W → mt (.neg a) c x = true → PE X x (tE (Gd X) cl W (.neg a)) := fun {X c W x} ok h => by
    cases x with
    | UnaryOp p l pos =>
      have h : (decide (p = .USub) && mt a c l) = true := h
      simp only [Bool.and_eq_true, decide_eq_true_eq] at h
      obtain ⟨rfl, h1⟩ := h
      refine pe_imp (pe_un un_neg (iha.pe ok h1)) fun σ H Q ⟨φ, F, A, hr, fr, q⟩ => ?_
      refine tE_mono (tE_go (β := D) (cl := cl) (e := a) (f := fun x A1 => match x with | .int i => .ok (.int (-i)) A1 | _ => .no) hr fr q) fun x H1 ⟨φ1, A1, d, hr1, fr1, r1, q1⟩ => ?_
      cases d with
      | int i => cases r1; exact ⟨i, rfl, fin_ok q1 hr1 rfl⟩
      | _ => exact q1.elim
    | _ => simp [mt] at h
  refine SE.of ⟨fun c xs => by simp [mts], fun c ks vs => by simp [mtd], fun c x => by simp [mto], fun c x => by simp [mtc], fun c x t => by simp [mtw]⟩ pe (fun {X c W x} ok h => pt_of (pe ok h) ?_) (fun ok h => by simp [mt] at h)
  cases x with
  | UnaryOp p l pos =>
    have h : (decide (p = .USub) && mt a c l) = true := h
    simp only [Bool.and_eq_true, decide_eq_true_eq] at h
    obtain ⟨rfl, h1⟩ := h
    exact fun _ => rfl
  | _ => simp [mt] at h
theorem cmp_read {X : Cx} {W : WX} {o : COp} {a b : Ex} {σ : L2.St} {H : Hp} {Q : VK} (q : tE (Gd X) cl W (.cmp o a b) σ H Q) : tOp (rC (Gd X) o) (tE (Gd X) cl W a) (tE (Gd X) cl W b) σ H Q := by
  obtain ⟨φ, F, A, hr, fr, q⟩ := q
  refine tE_mono (tE_go2 (β := D) (cl := cl) (e := a) (e2 := b) (f := fun x y A2 => ofO ((opC A2 o x y).map .bl) A2) hr fr q) fun x H1 t1 => tE_mono t1 fun y H2 ⟨φ2, A2, d, d2, hr2, fr2, r1, r2, q2⟩ => ?_
  obtain ⟨v, hv, q3⟩ := q2.ofO
  obtain ⟨k, hk, rfl⟩ := Option.map_eq_some_iff.mp hv
  exact ⟨φ2, A2, d, d2, k, hr2, r1, r2, hk, q3 φ2 H2 .refl hr2 _ rfl⟩
/-- a test's reading, from the value's -/
theorem tT_val {G : Md} {W : WX} {e : Ex} {σ : L2.St} {H : Hp} {Q : Bool → Hp → Prop} (q : tT G cl W e σ H Q) (hb : ∀ F A d A', ev cl e F A = .ok d A' → ∃ b, d = .bl b) : tE G cl W e σ H (fun v H' => ∃ b, v = .bl b ∧ Q b H') := by
  obtain ⟨φ, F, A, hr, fr, q⟩ := q
  refine ⟨φ, F, A, hr, fr, ?_⟩
  have q : okG G φ H (fun c d H' => W c d σ H') (pB Q) (bnd (ev cl e F A) fun d A => ofO (truth A d) A) := q
  cases he : ev cl e F A with
  | ok d A' =>
    obtain ⟨b, rfl⟩ := hb F A d A' he
    rw [he] at q
    exact fun φ' H' e' hr' v r => ⟨b, r, q φ' H' e' hr'⟩
  | exc x A' => rw [he] at q; exact q
  | no => rw [he] at q; exact q.elim
theorem cmp_bl {o : COp} {a b : Ex} {F : Fr} {A A' : AH} {d : D} (h : ev cl (.cmp o a b) F A = .ok d A') : ∃ k, d = .bl k := by
  unfold ev at h
  cases e1 : ev cl a F A with
  | ok x A1 =>
    rw [e1] at h
    simp only [bnd] at h
    cases e2 : ev cl b F A1 with
    | ok y A2 =>
      rw [e2] at h
      simp only [bnd] at h
      cases e3 : opC A2 o x y with
      | some k => rw [e3] at h; cases h; exact ⟨k, rfl⟩
      | none => rw [e3] at h; cases h
    | exc => rw [e2] at h; cases h
    | no => rw [e2] at h; cases h
  | exc => rw [e1] at h; cases h
  | no => rw [e1] at h; cases h
theorem se_cmp (o : COp) {a b : Ex} (iha : SE cl a) (ihb : SE cl b) : SE cl (.cmp o a b) := by
  refine SE.of ⟨fun c xs => by simp [mts], fun c ks vs => by simp [mtd], fun c x => by simp [mto], fun c x => by simp [mtc], fun c x t => by simp [mtw]⟩ ?_ ?_ (fun ok h => by simp [mt] at h)
  · intro X c W x ok h
    cases x with
    | Compare l ps rs pos =>
      rcases ps with _ | ⟨p, _ | _⟩ <;> rcases rs with _ | ⟨r, _ | _⟩ <;> first | (simp [mt] at h; done) | skip
      have h : (decide (p = cop o) && mt a c l && mt b c r) = true := h
      simp only [Bool.and_eq_true, decide_eq_true_eq] at h
      obtain ⟨⟨rfl, h1⟩, h2⟩ := h
      exact pe_imp (pe_cmpR (opC_ok ok.hu o) (iha.pe ok h1) (ihb.pe ok h2) (mark_plain (mt_plain h2))) fun σ H Q q => cmp_read q
    | _ => simp [mt] at h
  · intro X c W x ok h
    cases x with
    | Compare l ps rs pos =>
      rcases ps with _ | ⟨p, _ | _⟩ <;> rcases rs with _ | ⟨r, _ | _⟩ <;> first | (simp [mt] at h; done) | skip
      have h : (decide (p = cop o) && mt a c l && mt b c r) = true := h
      simp only [Bool.and_eq_true, decide_eq_true_eq] at h
      obtain ⟨⟨rfl, h1⟩, h2⟩ := h
      exact pt_imp (pt_cmpR (opC_ok ok.hu o) (iha.pe ok h1) (ihb.pe ok h2) (mark_plain (mt_plain h2))) fun σ H Q q => cmp_read (tT_val q fun F A d A' h => cmp_bl h)
    | _ => simp [mt] at h
end
end Ev

/-! ## EvSnd3 -/
/-! EvSnd3: tests, choices, subscripts, calls. -/
namespace Ev
open PySem PySem.Spec PyProof.Rows L2

section
variable {cl : Cl}
theorem tru_and {a b : Ex} {F : Fr} {A : AH} : tru (ev cl (.and a b) F A) = bnd (tru (ev cl a F A)) fun r A1 => if r then tru (ev cl b F A1) else .ok false A1 := by
  show tru (bnd (ev cl a F A) fun x A1 => bnd (ofO (truth A1 x) A1) fun r A2 => if r then ev cl b F A2 else .ok x A2) = _
  unfold tru
  cases ev cl a F A with
  | ok x A1 =>
    simp only [bnd]
    cases h : truth A1 x with
    | none => rfl
    | some r => cases r with
      | true => rfl
      | false => simp only [ofO, Bool.false_eq_true, if_false]; rw [h]
  | exc y A1 => rfl
  | no => rfl
theorem tru_or {a b : Ex} {F : Fr} {A : AH} : tru (ev cl (.or a b) F A) = bnd (tru (ev cl a F A)) fun r A1 => if r then .ok true A1 else tru (ev cl b F A1) := by
  show tru (bnd (ev cl a F A) fun x A1 => bnd (ofO (truth A1 x) A1) fun r A2 => if r then .ok x A2 else ev cl b F A2) = _
  unfold tru
  cases ev cl a F A with
  | ok x A1 =>
    simp only [bnd]
    cases h : truth A1 x with
    | none => rfl
    | some r => cases r with
      | true => simp only [ofO, if_true]; rw [h]
      | false => rfl
  | exc y A1 => rfl
  | no => rfl
theorem tru_not {a : Ex} {F : Fr} {A : AH} : tru (ev cl (.not a) F A) = bnd (tru (ev cl a F A)) fun r A1 => .ok (!r) A1 := by
  show tru (bnd (ev cl a F A) fun x A1 => ofO ((truth A1 x).map fun b => .bl (!b)) A1) = _
  unfold tru
  cases ev cl a F A with
  | ok x A1 =>
    simp only [bnd]
    cases h : truth A1 x with
    | none => rfl
    | some r => rfl
  | exc y A1 => rfl
  | no => rfl
theorem tru_ite {k a b : Ex} {F : Fr} {A : AH} : tru (ev cl (.ite k a b) F A) = bnd (tru (ev cl k F A)) fun r A1 => if r then tru (ev cl a F A1) else tru (ev cl b F A1) := by
  show tru (bnd (ev cl k F A) fun x A1 => bnd (ofO (truth A1 x) A1) fun r A2 => if r then ev cl a F A2 else ev cl b F A2) = _
  unfold tru
  cases ev cl k F A with
  | ok x A1 =>
    simp only [bnd]
    cases h : truth A1 x with
    | none => rfl
    | some r => cases r <;> rfl
  | exc y A1 => rfl
  | no => rfl
theorem ev_ite {k a b : Ex} {F : Fr} {A : AH} : ev cl (.ite k a b) F A = bnd (tru (ev cl k F A)) fun r A1 => if r then ev cl a F A1 else ev cl b F A1 := by
  show (bnd (ev cl k F A) fun x A1 => bnd (ofO (truth A1 x) A1) fun r A2 => if r then ev cl a F A2 else ev cl b F A2) = _
  unfold tru
  cases ev cl k F A with
  | ok x A1 =>
    simp only [bnd]
  | exc y A1 => rfl
  | no => rfl
theorem tT_go {G : Md} {W : WX} {β : Type} {e : Ex} {σ : L2.St} {H : Hp} {φ : Ph} {F : Fr} {A : AH} {P : β → AH → Ph → Hp → Prop} {f : Bool → AH → Res β} (hr : HR G φ H A) (fr : FR G φ H F σ)
    (ok : okG G φ H (fun c d H' => W c d σ H') P (bnd (tru (ev cl e F A)) f)) :
    tT G cl W e σ H (fun b H1 => ∃ φ1 A1, HR G φ1 H1 A1 ∧ FR G φ1 H1 F σ ∧ okG G φ1 H1 (fun c d H' => W c d σ H') P (f b A1)) :=
  ⟨φ, F, A, hr, fr, ok.bnd.imp fun d A1 φ1 H1 e hr1 q => ⟨φ1, A1, hr1, fr.ext hr e, q⟩⟩
theorem tT_mono {G : Md} {W : WX} {e : Ex} {σ : L2.St} {H : Hp} {Q Q' : Bool → Hp → Prop} (h : tT G cl W e σ H Q) (k : ∀ v H', Q v H' → Q' v H') : tT G cl W e σ H Q' := by
  obtain ⟨φ, F, A, hr, fr, ok⟩ := h
  exact ⟨φ, F, A, hr, fr, ok.imp fun b A φ' H' _ _ q => k _ _ q⟩
theorem and_read {G : Md} {W : WX} {a b : Ex} {σ : L2.St} {H : Hp} {Q : Bool → Hp → Prop} (q : tT G cl W (.and a b) σ H Q) : tAnd (tT G cl W a) (tT G cl W b) σ H Q := by
  obtain ⟨φ, F, A, hr, fr, q⟩ := q
  simp only [tru_and] at q
  refine tT_mono (tT_go hr fr q) fun k H1 ⟨φ1, A1, hr1, fr1, q1⟩ => ?_
  cases k with
  | true => exact ⟨φ1, F, A1, hr1, fr1, q1⟩
  | false => exact q1 φ1 H1 .refl hr1
theorem or_read {G : Md} {W : WX} {a b : Ex} {σ : L2.St} {H : Hp} {Q : Bool → Hp → Prop} (q : tT G cl W (.or a b) σ H Q) : tOr (tT G cl W a) (tT G cl W b) σ H Q := by
  obtain ⟨φ, F, A, hr, fr, q⟩ := q
  simp only [tru_or] at q
  refine tT_mono (tT_go hr fr q) fun k H1 ⟨φ1, A1, hr1, fr1, q1⟩ => ?_
  cases k with
  | true => exact q1 φ1 H1 .refl hr1
  | false => exact ⟨φ1, F, A1, hr1, fr1, q1⟩
theorem tT_of_tE {X : Cx} {W : WX} {e : Ex} {σ : L2.St} {H : Hp} {Q : V → Hp → Prop} {f : D → AH → Bool → Res D} {F : Fr} {A : AH} {φ : Ph} (hr : HR (Gd X) φ H A) (fr : FR (Gd X) φ H F σ)
    (ok : okG (Gd X) φ H (fun c d H' => W c d σ H') (pV (Gd X) Q) (bnd (ev cl e F A) fun x A1 => bnd (ofO (truth A1 x) A1) fun r A2 => f x A2 r)) :
    tE (Gd X) cl W e σ H (fun v H1 => ∃ k, TruV X.K v H1 k ∧ ∃ φ1 A1 d, HR (Gd X) φ1 H1 A1 ∧ FR (Gd X) φ1 H1 F σ ∧ Rep (Gd X) φ1 H1 d v ∧ okG (Gd X) φ1 H1 (fun c d H' => W c d σ H') (pV (Gd X) Q) (f d A1 k)) :=
  tE_mono (tE_go (f := fun x A1 => bnd (ofO (truth A1 x) A1) fun r A2 => f x A2 r) hr fr ok) fun v H1 ⟨φ1, A1, d, hr1, fr1, r1, ok1⟩ => by
    obtain ⟨k, hk, q⟩ := ok1.bnd.ofO
    exact ⟨k, tru_of hr1 r1 hk, φ1, A1, d, hr1, fr1, r1, q φ1 H1 .refl hr1⟩
theorem se_and {a b : Ex} (iha : SE cl a) (ihb : SE cl b) : SE cl (.and a b) := by
  have pw : ∀ {X : Cx} {c : SC} {W : WX} {op : BoolOp} {xs : List Expr} {pos : Pos}, CtxOk X c cl W → mt (.and a b) c (.BoolOp op xs pos) = true → PW X (.BoolOp op xs pos) (tT (Gd X) cl W (.and a b)) := fun {X c W op xs pos} ok h => by
    rcases xs with _ | ⟨l, _ | ⟨r, rest⟩⟩ <;> first | (simp [mt] at h; done) | skip
    have h : (decide (op = .And) && mt a c l && (match (generalizing := false) rest with | [] => mt b c r | _ => mt b c (.BoolOp .And (r :: rest) pos))) = true := h
    simp only [Bool.and_eq_true, decide_eq_true_eq] at h
    obtain ⟨⟨rfl, h1⟩, h2⟩ := h
    refine pw_imp (pw_and (tB' := tT (Gd X) cl W b) (iha.pt ok h1) ?_) fun σ H Q q => and_read q
    cases rest with
    | nil => exact pw_and1 (ihb.pt ok h2)
    | cons => exact ihb.pw ok h2
  refine SE.of ⟨fun c xs => by simp [mts], fun c ks vs => by simp [mtd], fun c x => by simp [mto], fun c x => by simp [mtc], fun c x t => by simp [mtw]⟩ ?_ ?_ pw
  · intro X c W x ok h
    cases x with
    | BoolOp op xs pos =>
      rcases xs with _ | ⟨l, _ | ⟨r, rest⟩⟩ <;> first | (simp [mt] at h; done) | skip
      have h : (decide (op = .And) && mt a c l && (match (generalizing := false) rest with | [] => mt b c r | _ => mt b c (.BoolOp .And (r :: rest) pos))) = true := h
      simp only [Bool.and_eq_true, decide_eq_true_eq] at h
      obtain ⟨⟨rfl, h1⟩, h2⟩ := h
      refine pe_imp (pe_andT (tb := tE (Gd X) cl W b) (iha.pe ok h1) ?_) fun σ H Q ⟨φ, F, A, hr, fr, q⟩ => ?_
      · cases rest with
        | nil => exact pe_one (ihb.pe ok h2)
        | cons => exact ihb.pe ok h2
      · refine tE_mono (tT_of_tE (f := fun x A2 r => if r then ev cl b F A2 else .ok x A2) hr fr q) fun v H1 ⟨k, hk, φ1, A1, d, hr1, fr1, r1, q1⟩ => ⟨k, hk, ?_⟩
        cases k with
        | true => exact ⟨φ1, F, A1, hr1, fr1, q1⟩
        | false => exact fin_ok q1 hr1 r1
    | _ => simp [mt] at h
  · intro X c W x ok h
    cases x with
    | BoolOp op xs pos => exact (pw ok h).pt
    | _ => simp [mt] at h
theorem se_or {a b : Ex} (iha : SE cl a) (ihb : SE cl b) : SE cl (.or a b) := by
  have pw : ∀ {X : Cx} {c : SC} {W : WX} {op : BoolOp} {xs : List Expr} {pos : Pos}, CtxOk X c cl W → mt (.or a b) c (.BoolOp op xs pos) = true → PW X (.BoolOp op xs pos) (tT (Gd X) cl W (.or a b)) := fun {X c W op xs pos} ok h => by
    rcases xs with _ | ⟨l, _ | ⟨r, rest⟩⟩ <;> first | (simp [mt] at h; done) | skip
    have h : (decide (op = .Or) && mt a c l && (match (generalizing := false) rest with | [] => mt b c r | _ => mt b c (.BoolOp .Or (r :: rest) pos))) = true := h
    simp only [Bool.and_eq_true, decide_eq_true_eq] at h
    obtain ⟨⟨rfl, h1⟩, h2⟩ := h
    refine pw_imp (pw_or (tB' := tT (Gd X) cl W b) (iha.pt ok h1) ?_) fun σ H Q q => or_read q
    cases rest with
    | nil => exact pw_or1 (ihb.pt ok h2)
    | cons => exact ihb.pw ok h2
  refine SE.of ⟨fun c xs => by simp [mts], fun c ks vs => by simp [mtd], fun c x => by simp [mto], fun c x => by simp [mtc], fun c x t => by simp [mtw]⟩ ?_ ?_ pw
  · intro X c W x ok h
    cases x with
    | BoolOp op xs pos =>
      rcases xs with _ | ⟨l, _ | ⟨r, rest⟩⟩ <;> first | (simp [mt] at h; done) | skip
      have h : (decide (op = .Or) && mt a c l && (match (generalizing := false) rest with | [] => mt b c r | _ => mt b c (.BoolOp .Or (r :: rest) pos))) = true := h
      simp only [Bool.and_eq_true, decide_eq_true_eq] at h
      obtain ⟨⟨rfl, h1⟩, h2⟩ := h
      refine pe_imp (pe_orT (tb := tE (Gd X) cl W b) (iha.pe ok h1) ?_) fun σ H Q ⟨φ, F, A, hr, fr, q⟩ => ?_
      · cases rest with
        | nil => exact pe_one (ihb.pe ok h2)
        | cons => exact ihb.pe ok h2
      · refine tE_mono (tT_of_tE (f := fun x A2 r => if r then .ok x A2 else ev cl b F A2) hr fr q) fun v H1 ⟨k, hk, φ1, A1, d, hr1, fr1, r1, q1⟩ => ⟨k, hk, ?_⟩
        cases k with
        | true => exact fin_ok q1 hr1 r1
        | false => exact ⟨φ1, F, A1, hr1, fr1, q1⟩
    | _ => simp [mt] at h
  · intro X c W x ok h
    cases x with
    | BoolOp op xs pos => exact (pw ok h).pt
    | _ => simp [mt] at h
theorem se_not {a : Ex} (iha : SE cl a) : SE cl (.not a) := by
  refine SE.of ⟨fun c xs => by simp [mts], fun c ks vs => by simp [mtd], fun c x => by simp [mto], fun c x => by simp [mtc], fun c x t => by simp [mtw]⟩ ?_ ?_ (fun ok h => by simp [mt] at h)
  · intro X c W x ok h
    cases x with
    | UnaryOp p l pos =>
      have h : (decide (p = .Not) && mt a c l) = true := h
      simp only [Bool.and_eq_true, decide_eq_true_eq] at h
      obtain ⟨rfl, h1⟩ := h
      refine pe_imp (pe_notT (iha.pe ok h1)) fun σ H Q ⟨φ, F, A, hr, fr, q⟩ => ?_
      refine tE_mono (tE_go (β := D) (cl := cl) (e := a) (f := fun x A1 => ofO ((truth A1 x).map fun b => .bl (!b)) A1) hr fr q) fun v H1 ⟨φ1, A1, d, hr1, fr1, r1, q1⟩ => ?_
      obtain ⟨b, hb, q2⟩ := q1.ofO
      obtain ⟨k, hk, rfl⟩ := Option.map_eq_some_iff.mp hb
      exact ⟨k, tru_of hr1 r1 hk, q2 φ1 H1 .refl hr1 _ rfl⟩
    | _ => simp [mt] at h
  · intro X c W x ok h
    cases x with
    | UnaryOp p l pos =>
      have h : (decide (p = .Not) && mt a c l) = true := h
      simp only [Bool.and_eq_true, decide_eq_true_eq] at h
      obtain ⟨rfl, h1⟩ := h
      refine pt_imp (pt_not (iha.pt ok h1)) fun σ H Q ⟨φ, F, A, hr, fr, q⟩ => ?_
      simp only [tru_not] at q
      exact tT_mono (tT_go hr fr q) fun k H1 ⟨φ1, A1, hr1, fr1, q1⟩ => q1 φ1 H1 .refl hr1
    | _ => simp [mt] at h
theorem pt_ifExp' {X : Cx} {t l r : Expr} {pos : Pos} {tk ta tb : TT} (hc : PT X t tk) (ha : PT X l ta) (hb : PT X r tb) : PT X (.IfExp t l r pos) (fun σ H Q => tk σ H fun c H1 => if c = true then ta σ H1 Q else tb σ H1 Q) := by
  refine ⟨fun pins s σ H Q I h => ?_⟩
  refine isTrue_IfExp (thn (hc.run pins s σ H _ I h) fun d s1 ⟨H1, I1, q1⟩ => ?_)
  cases d with
  | true => exact ha.run pins s1 σ H1 Q I1 q1
  | false => exact hb.run pins s1 σ H1 Q I1 q1
theorem se_ite {k a b : Ex} (ihk : SE cl k) (iha : SE cl a) (ihb : SE cl b) : SE cl (.ite k a b) := by
  refine SE.of ⟨fun c xs => by simp [mts], fun c ks vs => by simp [mtd], fun c x => by simp [mto], fun c x => by simp [mtc], fun c x t => by simp [mtw]⟩ ?_ ?_ (fun ok h => by simp [mt] at h)
  · intro X c W x ok h
    cases x with
    | IfExp t l r pos =>
      have h : (mt k c t && mt a c l && mt b c r) = true := h
      simp only [Bool.and_eq_true] at h
      obtain ⟨⟨h0, h1⟩, h2⟩ := h
      refine pe_imp (pe_ifExp (ihk.pt ok h0) (iha.pe ok h1) (ihb.pe ok h2)) fun σ H Q ⟨φ, F, A, hr, fr, q⟩ => ?_
      rw [ev_ite] at q
      refine tT_mono (tT_go hr fr q) fun k H1 ⟨φ1, A1, hr1, fr1, q1⟩ => ?_
      cases k with
      | true => exact ⟨φ1, F, A1, hr1, fr1, q1⟩
      | false => exact ⟨φ1, F, A1, hr1, fr1, q1⟩
    | _ => simp [mt] at h
  · intro X c W x ok h
    cases x with
    | IfExp t l r pos =>
      have h : (mt k c t && mt a c l && mt b c r) = true := h
      simp only [Bool.and_eq_true] at h
      obtain ⟨⟨h0, h1⟩, h2⟩ := h
      refine pt_imp (pt_ifExp' (ihk.pt ok h0) (iha.pt ok h1) (ihb.pt ok h2)) fun σ H Q ⟨φ, F, A, hr, fr, q⟩ => ?_
      simp only [tru_ite] at q
      refine tT_mono (tT_go hr fr q) fun k H1 ⟨φ1, A1, hr1, fr1, q1⟩ => ?_
      cases k with
      | true => exact ⟨φ1, F, A1, hr1, fr1, q1⟩
      | false => exact ⟨φ1, F, A1, hr1, fr1, q1⟩
    | _ => simp [mt] at h
theorem chain_plain {o p : CmpOp} {b d : Expr} (h : plainB d = true) : lastMarks [o, p] [b, d] = false := by
  cases d <;> first | rfl | (cases h; done)
theorem chn_read {X : Cx} {W : WX} {o p : COp} {a b d : Ex} {σ : L2.St} {H : Hp} {Q : VK} (q : tE (Gd X) cl W (.chn o p a b d) σ H Q) : tChain (rC (Gd X) o) (rC (Gd X) p) (tE (Gd X) cl W a) (tE (Gd X) cl W b) (tE (Gd X) cl W d) σ H Q := by
  obtain ⟨φ, F, A, hr, fr, q⟩ := q
  refine tE_mono (tE_go2 (β := D) (cl := cl) (e := a) (e2 := b) (f := fun x y A2 => bnd (ofO (opC A2 o x y) A2) fun r A3 => if r then bnd (ev cl d F A3) fun z A4 => ofO ((opC A4 p y z).map .bl) A4 else .ok (.bl false) A3) hr fr q)
    fun x H1 t1 => tE_mono t1 fun y H2 ⟨φ2, A2, d1, d2, hr2, fr2, r1, r2, q2⟩ => ?_
  obtain ⟨k, hk, q3⟩ := q2.bnd.ofO
  have q3 := q3 φ2 H2 .refl hr2
  refine ⟨φ2, A2, d1, d2, k, hr2, r1, r2, hk, k, rfl, ?_⟩
  cases k with
  | false => exact fin_ok q3 hr2 rfl
  | true =>
    refine ⟨φ2, F, A2, hr2, fr2, q3.bnd.imp fun d3 A3 φ3 H3 e3 hr3 q4 z rz => ?_⟩
    obtain ⟨v, hv, q5⟩ := q4.ofO
    obtain ⟨k2, hk2, rfl⟩ := Option.map_eq_some_iff.mp hv
    exact ⟨φ3, A3, d2, d3, k2, hr3, r2.ext hr2 e3, rz, hk2, q5 φ3 H3 .refl hr3 _ rfl⟩
theorem chn_bl {o p : COp} {a b d : Ex} {F : Fr} {A A' : AH} {z : D} (h : ev cl (.chn o p a b d) F A = .ok z A') : ∃ k, z = .bl k := by
  unfold ev at h
  cases e1 : ev cl a F A with
  | ok x A1 =>
    rw [e1] at h
    simp only [bnd] at h
    cases e2 : ev cl b F A1 with
    | ok y A2 =>
      rw [e2] at h
      simp only [bnd] at h
      cases e3 : opC A2 o x y with
      | some k =>
        rw [e3] at h
        simp only [ofO] at h
        cases k with
        | false => cases h; exact ⟨false, rfl⟩
        | true =>
          simp only [if_true] at h
          cases e4 : ev cl d F A2 with
          | ok w A3 =>
            rw [e4] at h
            simp only [bnd] at h
            cases e5 : opC A3 p y w with
            | some k => rw [e5] at h; cases h; exact ⟨k, rfl⟩
            | none => rw [e5] at h; cases h
          | exc => rw [e4] at h; cases h
          | no => rw [e4] at h; cases h
      | none => rw [e3] at h; cases h
    | exc => rw [e2] at h; cases h
    | no => rw [e2] at h; cases h
  | exc => rw [e1] at h; cases h
  | no => rw [e1] at h; cases h
theorem se_chn (o p : COp) {a b d : Ex} (iha : SE cl a) (ihb : SE cl b) (ihd : SE cl d) : SE cl (.chn o p a b d) := by
  refine SE.of ⟨fun c xs => by simp [mts], fun c ks vs => by simp [mtd], fun c x => by simp [mto], fun c x => by simp [mtc], fun c x t => by simp [mtw]⟩ ?_ ?_ (fun ok h => by simp [mt] at h)
  · intro X c W x ok h
    cases x with
    | Compare l ps rs pos =>
      rcases ps with _ | ⟨p1, _ | ⟨p2, _ | _⟩⟩ <;> rcases rs with _ | ⟨r, _ | ⟨z, _ | _⟩⟩ <;> first | (simp [mt] at h; done) | skip
      have h : (decide (p1 = cop o) && decide (p2 = cop p) && mt a c l && mt b c r && mt d c z) = true := h
      simp only [Bool.and_eq_true, decide_eq_true_eq] at h
      obtain ⟨⟨⟨⟨rfl, rfl⟩, h1⟩, h2⟩, h3⟩ := h
      exact pe_imp (pe_chain (opC_ok ok.hu o) (opC_ok ok.hu p) (iha.pe ok h1) (ihb.pe ok h2) (ihd.pe ok h3) (chain_plain (mt_plain h3))) fun σ H Q q => chn_read q
    | _ => simp [mt] at h
  · intro X c W x ok h
    cases x with
    | Compare l ps rs pos =>
      rcases ps with _ | ⟨p1, _ | ⟨p2, _ | _⟩⟩ <;> rcases rs with _ | ⟨r, _ | ⟨z, _ | _⟩⟩ <;> first | (simp [mt] at h; done) | skip
      have h : (decide (p1 = cop o) && decide (p2 = cop p) && mt a c l && mt b c r && mt d c z) = true := h
      simp only [Bool.and_eq_true, decide_eq_true_eq] at h
      obtain ⟨⟨⟨⟨rfl, rfl⟩, h1⟩, h2⟩, h3⟩ := h
      exact pt_imp (pt_chain (opC_ok ok.hu o) (opC_ok ok.hu p) (iha.pe ok h1) (ihb.pe ok h2) (ihd.pe ok h3) (chain_plain (mt_plain h3))) fun σ H Q q => chn_read (tT_val q fun F A d A' h => chn_bl h)
    | _ => simp [mt] at h
theorem se_ix {a i : Ex} (iha : SE cl a) (ihi : SE cl i) : SE cl (.ix a i) := by
  have pe : ∀ {X : Cx} {c : SC} {W : WX} {x : Expr}, CtxOk X c cl W → mt (.ix a i) c x = true → PE X x (tE (Gd X) cl W (.ix a i)) := fun {X c W x} ok h => by
    cases x with
    | Subscript l r pos =>
      have h : (mt a c l && mt i c r) = true := h
      simp only [Bool.and_eq_true] at h
      refine pe_imp (pe_ix (ix_ok ok.hu) (iha.pe ok h.1) (ihi.pe ok h.2) (sub_plain (mt_plain h.2))) fun σ H Q ⟨φ, F, A, hr, fr, q⟩ => ?_
      refine tE_mono (tE_go2 (β := D) (cl := cl) (e := a) (e2 := i) (f := fun x y A2 => ofO (opI A2 x y) A2) hr fr q) fun x H1 t1 => tE_mono t1 fun y H2 ⟨φ2, A2, d, d2, hr2, fr2, r1, r2, q2⟩ => ?_
      obtain ⟨v, hv, q3⟩ := q2.ofO
      exact ⟨φ2, A2, d, d2, v, hr2, r1, r2, hv, fun φ' H' w e hr' rw' => q3 φ' H' e hr' w rw'⟩
    | _ => simp [mt] at h
  refine SE.of ⟨fun c xs => by simp [mts], fun c ks vs => by simp [mtd], fun c x => by simp [mto], fun c x => by simp [mtc], fun c x t => by simp [mtw]⟩ pe (fun {X c W x} ok h => pt_of (pe ok h) ?_) (fun ok h => by simp [mt] at h)
  cases x <;> first | (exact fun _ => rfl) | (simp [mt] at h; done)
theorem opS_exc {A A' : AH} {d : D} {l u : Option Int} {y : Xc} (h : opS A d l u = .exc y A') : False := by
  unfold opS at h
  repeat' split at h
  all_goals cases h
theorem se_sl {a lo hi : Ex} (iha : SE cl a) (ihl : SE cl lo) (ihh : SE cl hi) : SE cl (.sl a lo hi) := by
  have pe : ∀ {X : Cx} {c : SC} {W : WX} {x : Expr}, CtxOk X c cl W → mt (.sl a lo hi) c x = true → PE X x (tE (Gd X) cl W (.sl a lo hi)) := fun {X c W x} ok h => by
    cases x with
    | Subscript l r pos =>
      cases r with
      | Slice u v st p2 =>
        cases st with
        | some _ => simp [mt] at h
        | none =>
          have h : (mt a c l && mto lo c u && mto hi c v) = true := h
          simp only [Bool.and_eq_true] at h
          obtain ⟨⟨h1, h2⟩, h3⟩ := h
          refine pe_imp (pe_slice sl_ok (iha.pe ok h1) (ihl.po ok h2) (ihh.po ok h3)) fun σ H Q ⟨φ, F, A, hr, fr, q⟩ => ?_
          refine tE_mono (tE_go (β := D) (cl := cl) (e := a) (f := fun x A1 => bnd (evo cl lo F A1) fun l A2 => bnd (evo cl hi F A2) fun h A3 => opS A3 x l h) hr fr q) fun x H1 ⟨φ1, A1, d, hr1, fr1, r1, q1⟩ => ?_
          refine ⟨φ1, F, A1, hr1, fr1, q1.bnd.imp fun ol A2 φ2 H2 e2 hr2 q2 => ?_⟩
          refine ⟨φ2, F, A2, hr2, fr1.ext hr1 e2, q2.bnd.imp fun oh A3 φ3 H3 e3 hr3 q3 => ?_⟩
          cases e : opS A3 d ol oh with
          | ok r A4 => rw [e] at q3; exact ⟨φ3, A3, d, r, A4, hr3, (r1.ext hr1 e2).ext hr2 e3, e, q3.vc⟩
          | exc y A4 => exact (opS_exc e).elim
          | no => rw [e] at q3; exact q3.elim
      | _ => simp [mt] at h
    | _ => simp [mt] at h
  refine SE.of ⟨fun c xs => by simp [mts], fun c ks vs => by simp [mtd], fun c x => by simp [mto], fun c x => by simp [mtc], fun c x t => by simp [mtw]⟩ pe (fun {X c W x} ok h => pt_of (pe ok h) ?_) (fun ok h => by simp [mt] at h)
  cases x <;> first | (exact fun _ => rfl) | (simp [mt] at h; done)
end
end Ev

/-! ## EvSnd4 -/
/-! EvSnd4: calls, rows, displays of dicts. -/
namespace Ev
open PySem PySem.Spec PyProof.Rows L2

theorem okG.keep {G : Md} {α β : Type} {φ φ1 : Ph} {H H1 : Hp} {W : Value → Option Addr → Hp → Prop} {P : β → AH → Ph → Hp → Prop} {r : Res α} {f : α → AH → Res β} (h : okG G φ H W P (Ev.bnd r f)) (x : Ext φ H φ1 H1) :
    okG G φ1 H1 W (fun a A _ _ => okG G φ H W P (f a A)) r := by
  cases r with
  | ok a A => exact fun φ' H' e _ => h
  | exc y A => exact okG.ext (r := (.exc y A : Res β)) h x
  | no => exact h
/-! ### rows -/
section
variable {cl : Cl}
theorem se_nil : SE cl .nil where
  pe := fun _ h => by simp [mt] at h
  pt := fun _ h => by simp [mt] at h
  pw := fun _ h => by simp [mt] at h
  pa := fun {X c W xs} ok h => by
    cases xs with
    | nil => exact pa_imp pa_nil fun σ H Q ⟨φ, F, A, hr, fr, q⟩ => q φ H .refl hr [] rfl
    | cons => simp [mts] at h
  pd := fun {X c W ks vs pos} ok h => by
    cases ks with
    | cons => simp [mtd] at h
    | nil =>
      cases vs with
      | cons => simp [mtd] at h
      | nil =>
        refine ⟨[], pps_nil, rfl, rfl, fun σ H Q ⟨φ, F, A, hr, fr, q⟩ => ?_⟩
        obtain ⟨kvs, e, k⟩ := q φ H .refl hr
        cases e
        exact k [] rfl
  po := fun {X c W o} ok h => by
    cases o with
    | some => simp [mto] at h
    | none => exact ⟨fun pins s σ H Q I ⟨φ, F, A, hr, fr, q⟩ => po_none.run pins s σ H Q I (q φ H .refl hr)⟩
  pc := fun {X c W xs} ok h => by
    cases xs with
    | cons => simp [mtc] at h
    | nil => exact ⟨fun pins s σ H Q I ⟨φ, F, A, hr, fr, q⟩ => pts_nil.run pins s σ H Q I (q φ H .refl hr)⟩
  pi := fun _ h => by simp [mtw] at h
theorem pa_of {a r : Ex} (iha : SE cl a) (ihr : SE cl r) {X : Cx} {c : SC} {W : WX} {xs : List Expr} (ok : CtxOk X c cl W) (h : mts (.cons a r) c xs = true) : PA X xs (tA (Gd X) cl W (.cons a r)) := by
  cases xs with
  | nil => simp [mts] at h
  | cons x xs =>
    have h : (mt a c x && mts r c xs) = true := h
    simp only [Bool.and_eq_true] at h
    refine pa_imp (pa_cons (iha.pe ok h.1) (ihr.pa ok h.2) (star_plain (mt_plain h.1))) fun σ H Q ⟨φ, F, A, hr, fr, q⟩ => ?_
    refine tE_mono (tE_go (β := List D) (cl := cl) (e := a) (f := fun x A1 => bnd (evs cl r F A1) fun xs A2 => .ok (x :: xs) A2) hr fr q) fun x H1 ⟨φ1, A1, d, hr1, fr1, r1, q1⟩ => ?_
    exact ⟨φ1, F, A1, hr1, fr1, q1.bnd.imp fun ds A2 φ2 H2 e2 hr2 q2 vs rv => q2 φ2 H2 .refl hr2 _ (.cons (r1.ext hr1 e2) rv)⟩
theorem po_of {a : Ex} (iha : SE cl a) {X : Cx} {c : SC} {W : WX} {r : Ex} {o : Option Expr} (ok : CtxOk X c cl W) (h : mto (.cons a r) c o = true) : PO X o (tO (Gd X) cl W (.cons a r)) := by
  cases o with
  | none => simp [mto] at h
  | some x =>
    have h : mt a c x = true := h
    refine ⟨fun pins s σ H Q I ⟨φ, F, A, hr, fr, q⟩ => (po_some (iha.pe ok h)).run pins s σ H Q I ?_⟩
    refine tE_mono (tE_go (β := Option Int) (cl := cl) (e := a) (f := fun x A1 => match x with | .int i => .ok (some i) A1 | _ => .no) hr fr q) fun x H1 ⟨φ1, A1, d, hr1, fr1, r1, q1⟩ => ?_
    cases d with
    | int i => cases r1; exact ⟨i, rfl, q1 φ1 H1 .refl hr1⟩
    | _ => exact q1.elim
theorem pc_of {a : Ex} (iha : SE cl a) {X : Cx} {c : SC} {W : WX} {r : Ex} {xs : List Expr} (ok : CtxOk X c cl W) (h : mtc (.cons a r) c xs = true) : PTs X xs (tCd (Gd X) cl W (.cons a r)) := by
  rcases xs with _ | ⟨x, _ | _⟩ <;> first | (simp [mtc] at h; done) | skip
  have h : mt a c x = true := h
  exact ⟨fun pins s σ H Q I q => (pts_one (iha.pt ok h)).run pins s σ H Q I q⟩
theorem pairUp_key {k v : D} {r : List D} {kvs : List (D × D)} (h : pairUp (k :: v :: r) = some kvs) : keyOk k = true ∧ ∃ m, pairUp r = some m ∧ kvs = (k, v) :: m := by
  unfold pairUp at h
  split at h
  · rename_i hk
    obtain ⟨m, e, rfl⟩ := Option.map_eq_some_iff.mp h
    exact ⟨hk, m, e, rfl⟩
  · cases h
theorem evs_two {a b r : Ex} {F : Fr} {A : AH} : evs cl (.cons a (.cons b r)) F A = bnd (ev cl a F A) fun x A1 => bnd (ev cl b F A1) fun y A2 => bnd (evs cl r F A2) fun ys A3 => .ok (x :: y :: ys) A3 := by
  show (bnd (ev cl a F A) fun x A1 => bnd (bnd (ev cl b F A1) fun y A2 => bnd (evs cl r F A2) fun ys A3 => .ok (y :: ys) A3) fun xs A2 => .ok (x :: xs) A2) = _
  cases ev cl a F A with
  | ok x A1 =>
    simp only [bnd]
    cases ev cl b F A1 with
    | ok y A2 =>
      simp only []
      cases evs cl r F A2 <;> rfl
    | exc => rfl
    | no => rfl
  | exc => rfl
  | no => rfl
theorem pd_of {a b r : Ex} (iha : SE cl a) (ihb : SE cl b) (ihr : SE cl r) {X : Cx} {c : SC} {W : WX} {ks : List (Option Expr)} {vs : List Expr} {pos : Pos} (ok : CtxOk X c cl W) (h : mtd (.cons a (.cons b r)) c ks vs = true) :
    ∃ trs, PPs X pos ks vs trs ∧ ks.all (·.isSome) = true ∧ ks.length = vs.length ∧
      ∀ (σ : L2.St) (H : Hp) (Q : List (V × V) → Hp → Prop), tG (Gd X) W (evs cl (.cons a (.cons b r))) σ H (fun ds A φ H' => ∃ kvs, pairUp ds = some kvs ∧ ∀ ps, KReps (Gd X) φ H' kvs ps → Q (ps.map fun kv => (kV kv.1, kv.2)) H') → tPairs trs σ H Q := by
  rcases ks with _ | ⟨_ | k, ks⟩ <;> rcases vs with _ | ⟨v, vs⟩ <;> first | (simp [mtd] at h; done) | skip
  have h : (mt a c k && mt b c v && mtd r c ks vs) = true := h
  simp only [Bool.and_eq_true] at h
  obtain ⟨⟨h1, h2⟩, h3⟩ := h
  obtain ⟨trs, pp, p1, p2, p3⟩ := ihr.pd (pos := pos) ok h3
  refine ⟨_, pps_cons (iha.pe ok h1) (ihb.pe ok h2) pp, by simpa using p1, by simp [p2], fun σ H Q ⟨φ, F, A, hr, fr, q⟩ => ?_⟩
  have q : okG (Gd X) φ H (fun c d H' => W c d σ H') _ (evs cl (.cons a (.cons b r)) F A) := q
  rw [evs_two] at q
  refine tE_mono (tE_go2 (β := List D) (cl := cl) (e := a) (e2 := b) (f := fun x y A2 => bnd (evs cl r F A2) fun ys A3 => .ok (x :: y :: ys) A3) hr fr q) fun x H1 t1 => tE_mono t1 fun y H2 ⟨φ2, A2, d, d2, hr2, fr2, r1, r2, q2⟩ => ?_
  refine p3 σ H2 (fun ps H3 => Q ((x, y) :: ps) H3) ⟨φ2, F, A2, hr2, fr2, q2.bnd.imp fun ds A3 φ3 H3 e3 hr3 q3 => ?_⟩
  obtain ⟨kvs, e, k⟩ := q3 φ3 H3 .refl hr3
  obtain ⟨hk, m, em, rfl⟩ := pairUp_key e
  obtain ⟨j, rfl, kr⟩ := KR.key hk r1
  exact ⟨m, em, fun ps rp => k ((j, y) :: ps) ⟨j, y, ps, rfl, kr, r2.ext hr2 e3, rp⟩⟩
theorem se_cons {a r : Ex} (iha : SE cl a) (ihr : SE cl r) (ihd : ∀ b s, r = .cons b s → SE cl b ∧ SE cl s) : SE cl (.cons a r) where
  pe := fun _ h => by simp [mt] at h
  pt := fun _ h => by simp [mt] at h
  pw := fun _ h => by simp [mt] at h
  pa := pa_of iha ihr
  pd := fun {X c W ks vs pos} ok h => by
    cases r with
    | cons b s => exact pd_of iha (ihd b s rfl).1 (ihd b s rfl).2 ok h
    | _ => simp [mtd] at h
  po := po_of iha
  pc := pc_of iha
  pi := fun _ h => by simp [mtw] at h
theorem se_dct {es : Ex} (ih : SE cl es) : SE cl (.dct es) := by
  have pe : ∀ {X : Cx} {c : SC} {W : WX} {x : Expr}, CtxOk X c cl W → mt (.dct es) c x = true → PE X x (tE (Gd X) cl W (.dct es)) := fun {X c W x} ok h => by
    cases x with
    | Dict ks vs p =>
      have h : (mtd es c ks vs && decide (ks.length ≤ 15)) = true := h
      simp only [Bool.and_eq_true, decide_eq_true_eq] at h
      obtain ⟨trs, pp, p1, p2, p3⟩ := ih.pd (pos := p) ok h.1
      by_cases h0 : ks = []
      · subst h0
        have hv : vs = [] := List.eq_nil_of_length_eq_zero p2.symm
        subst hv
        refine pe_imp pe_dnewK fun σ H Q ⟨φ, F, A, hr, fr, q⟩ p hp => ?_
        have he : es = .nil := by
          cases es with
          | nil => rfl
          | cons a r => cases r <;> simp [mtd] at h
          | _ => simp [mtd] at h
        subst he
        have q : okG (Gd X) φ H (fun c d H' => W c d σ H') (pV (Gd X) Q) (.ok (.ref A.length) (A ++ [.dct []])) := q
        exact q.vc.new hr hp ⟨[], rfl, rfl⟩
      · refine pe_imp (pe_disp pp p1 p2 h0 h.2) fun σ H Q ⟨φ, F, A, hr, fr, q⟩ p hp => ?_
        have x0 : Ext φ H φ (upd H p (.dK [])) := Ext.beside hp
        refine p3 σ _ _ ⟨φ, F, A, hr.beside hp, fr.ext hr x0, (okG.keep (α := List D) (r := evs cl es F A) q x0).imp fun ds A1 φ1 H1 x1 hr1 q1 => ?_⟩
        obtain ⟨lk, np⟩ := x1.laid (hr.notMemN hp)
        cases e : pairUp ds with
        | none => rw [e] at q1; exact q1.elim
        | some kvs =>
          rw [e] at q1
          by_cases hl : kvs.length ≤ 15
          · simp only [if_pos hl] at q1
            refine ⟨kvs, rfl, fun ps rp => ⟨lk, ps, rfl, by rw [rp.length]; exact hl, ?_⟩⟩
            refine q1 (φ1 ++ [p]) _ (x1.lay hp) (hr1.lay lk (fun z => z) np ⟨mergeK [] ps, rfl, KReps.merge rp rfl⟩) (.ref p) ⟨p, ?_, rfl⟩
            rw [← hr1.len]; simp
          · simp only [if_neg hl] at q1; exact q1.elim
    | _ => simp [mt] at h
  refine SE.of ⟨fun c xs => by simp [mts], fun c ks vs => by simp [mtd], fun c x => by simp [mto], fun c x => by simp [mtc], fun c x t => by simp [mtw]⟩ pe (fun {X c W x} ok h => pt_of (pe ok h) ?_) (fun ok h => by simp [mt] at h)
  cases x <;> first | (exact fun _ => rfl) | (simp [mt] at h; done)

/-! ### calls -/
theorem glB_gl {X : Cx} {c : SC} {W : WX} {n : Str} (ok : CtxOk X c cl W) (h : glB c.sc n = true) : Gl X n ∧ ((n == ("__debug__" : Str)) = false) ∧ n ≠ "__name__" := by
  simp only [Bool.and_eq_true, decide_eq_true_eq, glB] at h
  refine ⟨?_, h.1.2, h.2⟩
  show X.env.scope.names.lookup _ = _
  rw [ok.sc]; exact h.1.1
theorem se_call (f : String) {es : Ex} (ih : SE cl es) : SE cl (.call f es) := by
  have pe : ∀ {X : Cx} {c : SC} {W : WX} {x : Expr}, CtxOk X c cl W → mt (.call f es) c x = true → PE X x (tE (Gd X) cl W (.call f es)) := fun {X c W x} ok h => by
    cases x with
    | Call fn xs kws pos =>
      cases fn with
      | Name n np =>
        cases kws with
        | cons => simp [mt] at h
        | nil =>
          have h : (decide (n = Str.ofString f) && decide (f ≠ "super") && glB c.sc n && c.fns.contains f && mts es c xs) = true := h
          simp only [Bool.and_eq_true, decide_eq_true_eq] at h
          obtain ⟨⟨⟨⟨rfl, _⟩, hg⟩, hf⟩, hx⟩ := h
          obtain ⟨g1, g2, g3⟩ := glB_gl ok hg
          obtain ⟨fa, fd, ps, k, hm, hk, hb, F, hr⟩ := (ok.calls f (by simpa using hf)).ex
          have rd : ∀ σ H Q, tE (Gd X) cl W (.call f es) σ H Q → tCallSD (spEv (Gd X) cl f) [] (WE W) (tA (Gd X) cl W es) σ H Q := fun σ H Q ⟨φ, F, A, hr, fr, q⟩ => by
            obtain ⟨φ', F', A', hr', fr', o'⟩ := tA_go (β := D) (cl := cl) (e := es) (f := fun ds A1 => cl f ds A1) hr fr q
            refine ⟨φ', F', A', hr', fr', o'.imp fun ds A1 φ1 H1 _ _ q vs rv => ?_⟩
            obtain ⟨φ2, A2, ds2, hr2, fr2, r2, o2⟩ := q vs rv
            exact ⟨φ2, A2, ds2, hr2, by rw [List.append_nil]; exact r2, o2⟩
          cases xs with
          | cons x xs =>
            have hp := mts_plain hx
            simp only [List.all_cons, Bool.and_eq_true] at hp
            exact pe_imp (pe_callSD F hr g1 hm hk hb .nil (fun σ => passAt ok.tk σ) (ih.pa ok hx) g2 (star_plain hp.1) (back_none hp.2)) rd
          | nil =>
            refine ⟨fun pins s σ H Q I h => ?_⟩
            have h := rd σ H Q h
            have he : es = .nil := by
              cases es <;> first | rfl | (simp [mts] at hx; done)
            subst he
            obtain ⟨φ, F', A, hr', fr', q⟩ := h
            have q := q φ H .refl hr' [] rfl
            refine wpAny_Call_Name_kw (ld_glob I g1 hm ?_ g2)
            exact PySem.W.callWith_K0 I.kIn hk (run_fnSD (us := []) F hr hb .nil (passAt ok.tk σ) I .nil q)
      | _ => simp [mt] at h
    | _ => simp [mt] at h
  refine SE.of ⟨fun c xs => by simp [mts], fun c ks vs => by simp [mtd], fun c x => by simp [mto], fun c x => by simp [mtc], fun c x t => by simp [mtw]⟩ pe (fun {X c W x} ok h => pt_of (pe ok h) ?_) (fun ok h => by simp [mt] at h)
  cases x <;> first | (exact fun _ => rfl) | (simp [mt] at h; done)

theorem bi_rule {X : Cx} {c : SC} {W : WX} (ok : CtxOk X c cl W) {f : String} (h : (biNames.contains f || tyBi.contains f) = true) : X.mg (Str.ofString f) = none ∧
    ((∃ id, bootBuiltins (Str.ofString f) = some (.builtin id) ∧ CallR X (.builtin id) (rBi (Gd X) fun A ds => biF A f ds)) ∨ ∃ T, bootBuiltins (Str.ofString f) = some (.type T) ∧ CallR X (.type T) (rBi (Gd X) fun A ds => biF A f ds)) := by
  have hm : f ∈ biNames ++ tyBi := by
    rw [List.mem_append]
    simpa using h
  refine ⟨ok.bn f (by rw [List.mem_append]; exact .inl hm), ?_⟩
  have h : f = "len" ∨ f = "abs" ∨ f = "isinstance" ∨ f = "sum" ∨ f = "sorted" ∨ f = "max" ∨ f = "any" ∨ f = "all" ∨ f = "tuple" ∨ f = "list" ∨ f = "dict" ∨ f = "int" := by simpa [biNames, tyBi] using hm
  rcases h with rfl | rfl | rfl | rfl | rfl | rfl | rfl | rfl | rfl | rfl | rfl | rfl
  · exact .inl ⟨_, by decide +kernel, len_ok⟩
  · exact .inl ⟨_, by decide +kernel, abs_ok⟩
  · exact .inl ⟨_, by decide +kernel, isi_ok ok.fb⟩
  · exact .inl ⟨_, by decide +kernel, sum_ok ok.calm⟩
  · exact .inl ⟨_, by decide +kernel, sorted_ok ok.calm⟩
  · exact .inl ⟨_, by decide +kernel, max_ok ok.calm⟩
  · exact .inl ⟨_, by decide +kernel, any_ok ok.calm⟩
  · exact .inl ⟨_, by decide +kernel, all_ok ok.calm⟩
  · exact .inr ⟨_, by decide +kernel, tuple_ok⟩
  · exact .inr ⟨_, by decide +kernel, list_ok⟩
  · exact .inr ⟨_, by decide +kernel, dict_ok ok.calm⟩
  · exact .inr ⟨_, by decide +kernel, int_ok⟩
theorem biF_exc {A A' : AH} {f : String} {ds : List D} {y : Xc} (h : biF A f ds = .exc y A') : False := by
  unfold biF biLen biTuple biList biDict biInt biAbs biIsi biSum biSorted biMax biAny biAll ofO at h
  repeat' split at h
  all_goals cases h
theorem se_bi (f : String) {es : Ex} (ih : SE cl es) : SE cl (.bi f es) := by
  have pe : ∀ {X : Cx} {c : SC} {W : WX} {x : Expr}, CtxOk X c cl W → mt (.bi f es) c x = true → PE X x (tE (Gd X) cl W (.bi f es)) := fun {X c W x} ok h => by
    cases x with
    | Call fn xs kws pos =>
      cases fn with
      | Name n np =>
        cases kws with
        | cons => simp [mt] at h
        | nil =>
          have h : (decide (n = Str.ofString f) && decide (f ≠ "super") && glB c.sc n && (biNames.contains f || tyBi.contains f) && !xs.isEmpty && mts es c xs) = true := h
          simp only [Bool.and_eq_true, decide_eq_true_eq] at h
          obtain ⟨⟨⟨⟨⟨rfl, _⟩, hg⟩, hf⟩, hne⟩, hx⟩ := h
          obtain ⟨g1, g2, g3⟩ := glB_gl ok hg
          have rd : ∀ σ H Q, tE (Gd X) cl W (.bi f es) σ H Q → tCB (rBi (Gd X) fun A ds => biF A f ds) (tA (Gd X) cl W es) σ H Q := fun σ H Q ⟨φ, F, A, hr, fr, q⟩ => by
            obtain ⟨φ', F', A', hr', fr', o'⟩ := tA_go (β := D) (cl := cl) (e := es) (f := fun ds A1 => biF A1 f ds) hr fr q
            refine ⟨φ', F', A', hr', fr', o'.imp fun ds A1 φ1 H1 _ _ q vs rv => ?_⟩
            obtain ⟨φ2, A2, ds2, hr2, fr2, r2, o2⟩ := q vs rv
            cases e : biF A2 f ds2 with
            | ok r A3 => rw [e] at o2; exact ⟨φ2, A2, ds2, r, A3, hr2, r2, e, o2.vc⟩
            | exc y A3 => exact (biF_exc e).elim
            | no => rw [e] at o2; exact o2.elim
          cases xs with
          | nil => cases hne
          | cons x xs =>
            have hp := mts_plain hx
            simp only [List.all_cons, Bool.and_eq_true] at hp
            obtain ⟨hm, ⟨id, hv, hc⟩ | ⟨T, hv, hc⟩⟩ := bi_rule ok hf
            · exact pe_imp (pe_callB hc g1 hm hv (ih.pa ok hx) g3 g2 (star_plain hp.1) (back_none hp.2)) rd
            · exact pe_imp (pe_callTy hc g1 hm hv (ih.pa ok hx) g3 g2 (star_plain hp.1) (back_none hp.2)) rd
      | _ => simp [mt] at h
    | _ => simp [mt] at h
  refine SE.of ⟨fun c xs => by simp [mts], fun c ks vs => by simp [mtd], fun c x => by simp [mto], fun c x => by simp [mtc], fun c x t => by simp [mtw]⟩ pe (fun {X c W x} ok h => pt_of (pe ok h) ?_) (fun ok h => by simp [mt] at h)
  cases x <;> first | (exact fun _ => rfl) | (simp [mt] at h; done)
end
end Ev

/-! ## EvSnd5 -/
/-! EvSnd5: methods of lists and dicts; what is walked. -/
namespace Ev
open PySem PySem.Spec PyProof.Rows L2
def tyM : Bool → String
  | false => "list"
  | true => "dict"
theorem mt_rule {X : Cx} (hu : X.A.units + 65 < cLine) {k : Bool} {m : String} {f : MF} (h : mtG k m = some f) :
    ∃ id, PlainAttrs (tyM k) ∧ Slot (tyM k) (Str.ofString m) id ∧ typeOf (.builtin id) = pure (.type "method_descriptor") ∧ MtM X id (rMt (Gd X) f) := by
  unfold mtG at h
  split at h <;> split at h <;> first | (cases h; done) | skip
  · cases h; exact ⟨_, PySem.F.plainAttrs_list, PySem.F.slot_list_append, PySem.F.type_list_append, append_ok⟩
  · cases h; exact ⟨_, PySem.F.plainAttrs_list, PySem.F.slot_list_extend, PySem.F.type_list_extend, extend_ok⟩
  · cases h; exact ⟨_, PySem.F.plainAttrs_list, PySem.F.slot_list_pop, PySem.F.type_list_pop, lpop_ok⟩
  · cases h; exact ⟨_, PySem.F.plainAttrs_dict, PySem.F.slot_dict_get, PySem.F.type_dict_get, get_ok hu⟩
  · cases h; exact ⟨_, PySem.F.plainAttrs_dict, PySem.F.slot_dict_pop, PySem.F.type_dict_pop, dpop_ok⟩
  · cases h; exact ⟨_, PySem.F.plainAttrs_dict, PySem.F.slot_dict_update, PySem.F.type_dict_update, update_ok⟩
theorem mtG_exc {k : Bool} {m : String} {f : MF} {A A' : AH} {n : Nat} {ds : List D} {y : Xc} (h : mtG k m = some f) (e : f A n ds = .exc y A') : False := by
  unfold mtG at h
  split at h <;> split at h <;> first | (cases h; done) | skip
  all_goals
    cases h
    revert e
    simp only [mtAppend, mtExtend, mtLPop, mtDPop, mtPop, mtGet, mtUpdate]
    repeat' split
    all_goals (intro e; cases e)
section
variable {cl : Cl}
theorem tyV_mk {G : Md} {φ : Ph} {H : Hp} {A : AH} {d : D} {v : V} {k : Bool} (hr : HR G φ H A) (r : Rep G φ H d v) (h : mkD A d = some k) : tyV G.K (tyM k) v H ∧ ∃ n, d = .ref n := by
  unfold mkD at h
  split at h
  · rename_i n
    split at h
    · rename_i xs hx
      cases h
      obtain ⟨a, ea, rfl⟩ := r
      obtain ⟨vs, e, _⟩ := hr.lst hx ea
      exact ⟨.inl ⟨rfl, vs, .inl (.inl e)⟩, n, rfl⟩
    · rename_i kvs hx
      cases h
      obtain ⟨a, ea, rfl⟩ := r
      obtain ⟨ks, e, _⟩ := hr.dct hx ea
      exact ⟨.inr (.inr (.inl ⟨rfl, .inl ⟨ks, e⟩⟩)), n, rfl⟩
    · cases h
  · cases h
theorem mkM_of {A : AH} {m : String} {d : D} {k : Bool} (h : mkM A m d = some k) : mkD A d = some k ∧ ∃ f, mtG k m = some f := by
  unfold mkM at h
  split at h
  · rename_i k' e
    split at h
    · rename_i h'
      cases h
      exact ⟨e, Option.isSome_iff_exists.mp h'⟩
    · cases h
  · cases h
theorem backKw {cpos : Pos} {env : Env} : (backToKw cpos (keywordEach [] env)).all (fun x => x.1.isSome) = true := rfl
theorem back_all {xs : List Expr} {env : Env} {pos : Pos} (h : xs.all plainB = true) : (backTo pos (starEach xs env)).all (fun x => !x.1) = true := by
  rw [star_all h]
  simp [backTo]
theorem se_mth (m : String) {o es : Ex} (iho : SE cl o) (ih : SE cl es) : SE cl (.mth m o es) := by
  have pe : ∀ {X : Cx} {c : SC} {W : WX} {x : Expr}, CtxOk X c cl W → mt (.mth m o es) c x = true → PE X x (tE (Gd X) cl W (.mth m o es)) := fun {X c W x} ok h => by
    cases x with
    | Call fn xs kws pos =>
      cases fn with
      | Attribute l n apos =>
        cases kws with
        | cons => simp [mt] at h
        | nil =>
          have h : (decide (n = Str.ofString m) && (apos.endLine == pos.line) && mtNames.contains m && decide (xs.length < 29) && mt o c l && mts es c xs) = true := h
          simp only [Bool.and_eq_true, decide_eq_true_eq] at h
          obtain ⟨⟨⟨⟨⟨rfl, hl⟩, _⟩, h29⟩, h1⟩, hx⟩ := h
          have hp := mts_plain hx
          refine ⟨fun pins s σ H Q I ⟨φ, F, A, hr, fr, q⟩ => ?_⟩
          have t := tE_go (β := D) (cl := cl) (e := o) (f := fun x A1 => bnd (ofO (mkM A1 m x) A1) fun k A2 => bnd (evs cl es F A2) fun ds A3 => mtF A3 k m x ds) hr fr q
          refine wpAny_Call_method_late (attr_plain h1) (by simp only [back_all hp, backKw]; simp; omega) hl rfl (thn ((iho.pe ok h1).run pins s σ H _ I t) fun v s1 ⟨x, H1, I1, r1, φ1, A1, d, hr1, fr1, rd, q1⟩ => ?_)
          obtain ⟨k, hk, q2⟩ := q1.bnd.ofO
          have q2 := q2 φ1 H1 .refl hr1
          obtain ⟨hk, f, hG⟩ := mkM_of hk
          obtain ⟨ty, nn, rfl⟩ := tyV_mk hr1 rd hk
          obtain ⟨id, pa, slot, hty, hm⟩ := mt_rule ok.hu hG
          obtain ⟨y1, y2⟩ := tyV_is I1 r1 ty
          refine ⟨tyM k, id, pa, slot, hty, y1, y2, ?_⟩
          have ta : tA (Gd X) cl W es σ H1 (fun vs H2 => rMt (Gd X) f x vs H2 Q) := by
            refine ⟨φ1, F, A1, hr1, fr1, q2.bnd.imp fun ds A2 φ2 H2 e2 hr2 q3 vs rv => ?_⟩
            have rd2 := Rep.ext hr1 e2 rd
            have q3 : okG (Gd X) φ2 H2 _ (pV (Gd X) Q) (match mtG k m with | some f => f A2 nn ds | none => .no) := q3
            rw [hG] at q3
            cases e : f A2 nn ds with
            | ok r A3 => simp only [e] at q3; exact ⟨φ2, A2, nn, ds, r, A3, hr2, rd2, rv, e, q3.vc⟩
            | exc y A3 => exact (mtG_exc hG e).elim
            | no => simp only [e] at q3; exact q3.elim
          have hA := (ih.pa ok hx).run pos pins s1 σ H1 _ I1 ta
          refine Calls.callWith_builtin (back_none hp) ?_
          have fin := thn hA fun us s2 ⟨vs, H2, I2, r2, q2⟩ => hm pins s2 σ H2 x vs v us Q I2 r1 r2 q2
          cases xs with
          | nil =>
            have he : es = .nil := by
              cases es <;> first | rfl | (simp [mts] at hx; done)
            subst he
            obtain ⟨φ3, F3, A3, hr3, fr3, q3⟩ := ta
            exact PySem.evalArgs_none (hm pins s1 σ H1 x [] v [] Q I1 r1 .nil (q3 φ3 H1 .refl hr3 [] rfl))
          | cons x xs =>
            simp only [List.all_cons, Bool.and_eq_true] at hp
            rw [star_plain hp.1] at fin ⊢
            exact Calls.evalArgs_plain fin
      | _ => simp [mt] at h
    | _ => simp [mt] at h
  refine SE.of ⟨fun c xs => by simp [mts], fun c ks vs => by simp [mtd], fun c x => by simp [mto], fun c x => by simp [mtc], fun c x t => by simp [mtw]⟩ pe (fun {X c W x} ok h => pt_of (pe ok h) ?_) (fun ok h => by simp [mt] at h)
  cases x <;> first | (exact fun _ => rfl) | (simp [mt] at h; done)
end
end Ev

/-! ## EvSnd6 -/
/-! EvSnd6: what is walked. -/
namespace Ev
open PySem PySem.Spec PyProof.Rows L2
/-- a list or a tuple that is walked -/
def SrcOk (G : Md) (φ0 : Ph) (H0 : Hp) (xs : List D) (g : Guard) (b : Bool) (a : Addr) : Prop :=
  ∀ φ H A, Ext φ0 H0 φ H → HR G φ H A → gOk A g = true → ∃ vs, SqB b G.K H a vs ∧ Reps G φ H xs vs
theorem src_of {G : Md} {φ : Ph} {H : Hp} {A : AH} {d : D} {v : V} {w : Wk} (hr : HR G φ H A) (r : Rep G φ H d v) (e : wkOf A d = some w) (hn : w.lock = none) :
    ∃ b a, v = .ref a ∧ SrcOk G φ H w.items w.g b a ∧ gOk A w.g = true := by
  unfold wkOf at e
  split at e
  · rename_i xs
    cases e
    obtain ⟨a, vs, rfl, sq, rs⟩ := r
    exact ⟨true, a, rfl, fun φ1 H1 A1 x hr1 _ => ⟨vs, SqT.ext hr x sq, rs.ext hr x⟩, rfl⟩
  · rename_i xs
    cases e
    obtain ⟨a, vs, rfl, sq, rs⟩ := r
    exact ⟨false, a, rfl, fun φ1 H1 A1 x hr1 _ => ⟨vs, (FzL.ext hr x sq).sq, rs.ext hr x⟩, rfl⟩
  · rename_i n
    split at e
    · rename_i xs hx
      cases e
      obtain ⟨a, ea, rfl⟩ := r
      refine ⟨false, a, rfl, fun φ1 H1 A1 x hr1 g => ?_, by simp [gOk, hx]⟩
      have hg : A1[n]? = some (.lst xs) := by simpa [gOk] using g
      obtain ⟨vs, e, rs⟩ := hr1.lst hg (x.get ea)
      exact ⟨vs, .inl (.inl e), rs⟩
    · cases e; cases hn
    · cases e
  · cases e
theorem enum_get : ∀ {xs : List D} {k i : Nat} {d : D}, (enumD k xs)[i]? = some d → ∃ y, d = .tup [.int ((k + i : Nat) : Int), y] ∧ xs[i]? = some y
  | [], _, _, _, e => by simp [enumD] at e
  | x :: xs, k, 0, d, e => by
    simp [enumD] at e
    exact ⟨x, e.symm, rfl⟩
  | x :: xs, k, i + 1, d, e => by
    have e : (enumD (k + 1) xs)[i]? = some d := by simpa [enumD] using e
    obtain ⟨y, h1, h2⟩ := enum_get e
    exact ⟨y, by rw [h1]; congr 3; congr 1; omega, by simpa using h2⟩
theorem enum_len : ∀ (xs : List D) (k : Nat), (enumD k xs).length = xs.length
  | [], _ => rfl
  | x :: xs, k => by simp [enumD, enum_len xs]
theorem zip_get : ∀ {xs ys : List D} {i : Nat} {d : D}, (zipD xs ys)[i]? = some d → ∃ x y, d = .tup [x, y] ∧ xs[i]? = some x ∧ ys[i]? = some y
  | [], _, _, _, e => by simp [zipD] at e
  | x :: xs, [], _, _, e => by simp [zipD] at e
  | x :: xs, y :: ys, 0, d, e => by
    simp [zipD] at e
    exact ⟨x, y, e.symm, rfl, rfl⟩
  | x :: xs, y :: ys, i + 1, d, e => by
    have e : (zipD xs ys)[i]? = some d := by simpa [zipD] using e
    obtain ⟨u, v, h1, h2, h3⟩ := zip_get e
    exact ⟨u, v, h1, by simpa using h2, by simpa using h3⟩
theorem zip_len : ∀ (xs ys : List D), (zipD xs ys).length = min xs.length ys.length
  | [], ys => by simp [zipD]
  | x :: xs, [] => by simp [zipD]
  | x :: xs, y :: ys => by simp [zipD, zip_len xs ys]
section
variable {G : Md} {φ0 : Ph} {H0 : Hp} {xs ys : List D} {g k : Guard} {a c : Addr} {b b2 : Bool} {l : Option Nat}
theorem wk_list (s : SrcOk G φ0 H0 xs g false a) : WkIt G φ0 H0 ⟨xs, g, l⟩ (Itl G.K a) where
  step := fun φ H A i d x hr hg e => by
    obtain ⟨vs, sq, rs⟩ := s φ H A x hr hg
    obtain ⟨v, ev, rv⟩ := rs.get e
    exact ⟨⟨vs, v, sq, ev⟩, fun y H' ⟨e1, e2⟩ => by
      subst e1
      have := e2 vs sq
      rw [ev] at this; cases this
      exact ⟨.refl, hr, rv⟩⟩
  stop := fun φ H A x hr hg => by
    obtain ⟨vs, sq, rs⟩ := s φ H A x hr hg
    exact ⟨vs, sq, Nat.le_of_eq rs.length⟩
theorem wk_tup (s : SrcOk G φ0 H0 xs g true a) : WkIt G φ0 H0 ⟨xs, g, l⟩ (Itt G.K a) where
  step := fun φ H A i d x hr hg e => by
    obtain ⟨vs, sq, rs⟩ := s φ H A x hr hg
    obtain ⟨v, ev, rv⟩ := rs.get e
    exact ⟨⟨vs, v, sq, ev⟩, fun y H' ⟨e1, e2⟩ => by
      subst e1
      have := e2 vs sq
      rw [ev] at this; cases this
      exact ⟨.refl, hr, rv⟩⟩
  stop := fun φ H A x hr hg => by
    obtain ⟨vs, sq, rs⟩ := s φ H A x hr hg
    exact ⟨vs, sq, Nat.le_of_eq rs.length⟩
theorem wk_enum (s : SrcOk G φ0 H0 xs g b a) : WkIt G φ0 H0 ⟨enumD 0 xs, g, l⟩ (IteB b G.K a) where
  step := fun φ H A i d x hr hg e => by
    obtain ⟨vs, sq, rs⟩ := s φ H A x hr hg
    obtain ⟨y, rfl, ey⟩ := enum_get e
    obtain ⟨v, ev, rv⟩ := rs.get ey
    refine ⟨⟨vs, v, sq, ev⟩, fun z H' ⟨T, u, e1, hT, e2, e3⟩ => ?_⟩
    subst e1 e2
    have := e3 vs sq
    rw [ev] at this; cases this
    have x1 : Ext φ H φ (upd H T (.tup [.int ((i : Nat) : Int), v])) := Ext.beside hT
    exact ⟨x1, hr.beside hT, T, _, rfl, .inl (.inl upd_same), Reps.cons (by rw [Nat.zero_add]; rfl) (Reps.cons (rv.ext hr x1) .nil)⟩
  stop := fun φ H A x hr hg => by
    obtain ⟨vs, sq, rs⟩ := s φ H A x hr hg
    exact ⟨vs, sq, by rw [rs.length]; exact (enum_len xs 0).symm⟩
theorem gOk_app {A : AH} : gOk A (g ++ k) = (gOk A g && gOk A k) := by simp [gOk, List.all_append]
theorem wk_zip (s : SrcOk G φ0 H0 xs g b a) (t : SrcOk G φ0 H0 ys k b2 c) : WkIt G φ0 H0 ⟨zipD xs ys, g ++ k, l⟩ (ItzB b b2 G.K a c) where
  step := fun φ H A i d x hr hg e => by
    have hg : gOk A (g ++ k) = true := hg
    rw [gOk_app, Bool.and_eq_true] at hg
    obtain ⟨vs, sq, rs⟩ := s φ H A x hr hg.1
    obtain ⟨ws, sq2, rs2⟩ := t φ H A x hr hg.2
    obtain ⟨y, z, rfl, ey, ez⟩ := zip_get e
    obtain ⟨v, ev, rv⟩ := rs.get ey
    obtain ⟨w, ew, rw⟩ := rs2.get ez
    refine ⟨⟨vs, ws, v, w, sq, sq2, ev, ew⟩, fun z H' ⟨T, u1, u2, e1, hT, e2, e3, e4⟩ => ?_⟩
    subst e1 e2
    have := e3 vs sq
    rw [ev] at this; cases this
    have := e4 ws sq2
    rw [ew] at this; cases this
    have x1 : Ext φ H φ (upd H T (.tup [v, w])) := Ext.beside hT
    exact ⟨x1, hr.beside hT, T, _, rfl, .inl (.inl upd_same), Reps.cons (rv.ext hr x1) (Reps.cons (rw.ext hr x1) .nil)⟩
  stop := fun φ H A x hr hg => by
    have hg : gOk A (g ++ k) = true := hg
    rw [gOk_app, Bool.and_eq_true] at hg
    obtain ⟨vs, sq, rs⟩ := s φ H A x hr hg.1
    obtain ⟨ws, sq2, rs2⟩ := t φ H A x hr hg.2
    exact ⟨vs, ws, sq, sq2, by rw [rs.length, rs2.length]; exact (zip_len xs ys).symm⟩
theorem wk_rng {lo hi : Int} : WkIt G φ0 H0 ⟨rngD lo hi, [], l⟩ (Itr lo (hi - lo).toNat) where
  step := fun φ H A i d x hr hg e => by
    obtain ⟨h1, h2⟩ := List.getElem?_eq_some_iff.mp e
    have h1 : i < (hi - lo).toNat := by simpa [rngD] using h1
    refine ⟨h1, fun y H' ⟨e1, e2⟩ => ?_⟩
    subst e1 e2
    refine ⟨.refl, hr, ?_⟩
    have : d = .int (lo + i) := by rw [← h2]; simp [rngD]
    subst this
    exact rfl
  stop := fun φ H A x hr hg => by
    show (hi - lo).toNat ≤ _
    simp [rngD]
end
section
variable {X : Cx} {pins : List (Addr × Obj)} {σ : L2.St} {H : Hp} {s : Shared} {R : It → Hp → Prop} {tg : Expr} {E : Value → Shared → Prop}
theorem it_list {a : Addr} {xs : List V} (I : L2.Inv X pins σ H s) (h : SqL X.K H a xs) (q : R (Itl X.K a) H) : wpAny (model X.prog X.w) X.A (pyIter (.ref a)) (PIE X pins σ tg R) E s := by
  obtain ⟨its, rv, p, hz⟩ := I.list h
  exact wpAny_pyIter_list p.isList (pi_one (tk := s.toks) I _ (turn_list a _) ⟨_, Heap.get?_push_size _ rfl, rfl, rfl⟩ q)
theorem it_tup {a : Addr} {xs : List V} (I : L2.Inv X pins σ H s) (h : SqT X.K H a xs) (q : R (Itt X.K a) H) : wpAny (model X.prog X.w) X.A (pyIter (.ref a)) (PIE X pins σ tg R) E s := by
  obtain ⟨its, rv, p, hz⟩ := I.tuple h
  exact wpAny_pyIter_tuple (show s.heap.IsTuple a its.toArray from p) (pi_one (tk := s.toks) I _ (turn_tuple a _) ⟨_, Heap.get?_push_size _ rfl, rfl, rfl⟩ q)
theorem it_keys {d : Addr} {o : Obj} {kvs : List (Key × V)} (I : L2.Inv X pins σ H s) (h : H d = some (.frz o (.dK kvs))) (q : R (Itk d o kvs) H) : wpAny (model X.prog X.w) X.A (pyIter (.ref d)) (PIE X pins σ tg R) E s := by
  obtain ⟨hs, hgd, hx, es, ep, vs, hdt, hsz, kv, hm⟩ := I.frzK h
  refine iter_keys hs hgd hx hdt (pi_one (tk := s.toks) I _ (turn_keys _ hdt) ⟨_, Heap.get?_push_size _ rfl, rfl, ?_⟩ q)
  rw [hsz] <;> rfl
end
/-- where a walk starts over a list or a tuple -/
theorem src_begins {X : Cx} {pins : List (Addr × Obj)} {σ : L2.St} {H : Hp} {s : Shared} {b : Bool} {a : Addr} {xs : List V} (I : L2.Inv X pins σ H s) (h : SqB b X.K H a xs) :
    a < s.heap.objs.size ∧ ∃ (o : Obj) (P : Heap → Prop), Begins (.ref a) o P ∧ P s.heap ∧ ∀ (h' : Heap) (it : Addr), h'.get? it = some o → ItB b h' it a 0 := by
  cases b with
  | true =>
    obtain ⟨its, rv, p, hz⟩ := I.tuple h
    obtain ⟨o1, ho1, _⟩ := id p
    exact ⟨Heap.lt_size ho1, _, _, begins_tuple a its.toArray, p, fun h' it e => ⟨_, e, rfl, rfl⟩⟩
  | false =>
    obtain ⟨its, rv, p, hz⟩ := I.list h
    exact ⟨p.lt, _, _, begins_list a its.toArray, p.isList, fun h' it e => ⟨_, e, rfl, rfl⟩⟩
section
variable {cl : Cl}
theorem lock_of {G : Md} {φ : Ph} {H : Hp} {A : AH} {d : D} {v : V} {w : Wk} {n : Nat} (hr : HR G φ H A) (r : Rep G φ H d v) (e : wkOf A d = some w) (hn : w.lock = some n) :
    ∃ a kvs ks, v = .ref a ∧ φ[n]? = some a ∧ A[n]? = some (.dct kvs) ∧ H a = some (.dK ks) ∧ KReps G φ H kvs ks ∧ w = ⟨kvs.map (·.1), [(n, .lk kvs)], some n⟩ := by
  unfold wkOf at e
  split at e
  · cases e; cases hn
  · cases e; cases hn
  · rename_i m
    split at e
    · cases e; cases hn
    · rename_i kvs hx
      cases e
      cases hn
      obtain ⟨a, ea, rfl⟩ := r
      obtain ⟨ks, e, rk⟩ := hr.dct hx ea
      exact ⟨a, kvs, ks, rfl, ea, hx, e, rk, rfl⟩
    · cases e
  · cases e
theorem wk_keys {G : Md} {φ0 : Ph} {H0 : Hp} {kvs : List (D × D)} {ks : List (Key × V)} {n : Nat} {a : Addr} {o : Obj} {A0 : AH} (hr0 : HR G φ0 H0 A0) (ea : φ0[n]? = some a) (h : H0 a = some (.frz o (.dK ks))) (rk : KReps G φ0 H0 kvs ks) :
    WkIt G φ0 H0 ⟨kvs.map (·.1), [(n, .lk kvs)], some n⟩ (Itk a o ks) where
  step := fun φ H A i d x hr hg e => by
    have hk : H a = some (.frz o (.dK ks)) := x.frz _ _ _ h
    have rk' := rk.ext hr0 x
    obtain ⟨v, ev, rv⟩ := rk'.keys.get e
    have hi : i < ks.length := by
      have := (List.getElem?_eq_some_iff.mp ev).1
      simpa using this
    refine ⟨⟨hk, hi⟩, fun y H' ⟨e1, k, v', e2, e3⟩ => ?_⟩
    subst e1 e3
    rw [List.getElem?_map, e2] at ev
    cases ev
    exact ⟨.refl, hr, rv⟩
  stop := fun φ H A x hr hg => by
    refine ⟨x.frz _ _ _ h, ?_⟩
    rw [List.length_map, rk.length]
    exact Nat.le_refl _
theorem se_wk {e : Ex} (ih : SE cl e) : SE cl (.wk e) where
  pe := fun _ h => by simp [mt] at h
  pt := fun _ h => by simp [mt] at h
  pw := fun _ h => by simp [mt] at h
  pa := fun _ h => by simp [mts] at h
  pd := fun _ h => by simp [mtd] at h
  po := fun _ h => by simp [mto] at h
  pc := fun _ h => by simp [mtc] at h
  pi := fun {X c W x tg} ok h => by
    have h : mt e c x = true := h
    refine ⟨fun pins s σ H R I ⟨φ, F, A, hr, fr, q⟩ => ?_⟩
    have t := tE_go (β := Wk) (cl := cl) (e := e) (f := fun x A1 => ofO (wkOf A1 x) A1) hr fr q
    refine thn ((ih.pe ok h).run pins s σ H _ I t) fun v s1 ⟨x, H1, I1, r1, φ1, A1, d, hr1, fr1, rd, q1⟩ => ?_
    obtain ⟨w, hw, q2⟩ := q1.ofO
    have q2 := q2 φ1 H1 .refl hr1
    cases hl : w.lock with
    | none =>
      obtain ⟨b, a, rfl, so, _⟩ := src_of hr1 rd hw hl
      cases r1
      have q3 := fun J => q2 H1 J (fun _ => rfl) (fun n e => by rw [hl] at e; cases e) (by rw [hl]; exact hr1)
      obtain ⟨vs, sq, _⟩ := so φ1 H1 A1 .refl hr1 (src_of hr1 rd hw hl).choose_spec.choose_spec.2.2
      obtain ⟨its, g, l⟩ := w
      cases hl
      cases b with
      | true => exact it_tup I1 sq (q3 _ (wk_tup so))
      | false => exact it_list I1 sq (q3 _ (wk_list so))
    | some n =>
      obtain ⟨a, kvs, ks, rfl, ea, hA, hH, rk, rfl⟩ := lock_of hr1 rd hw hl
      cases r1
      obtain ⟨o, I2⟩ := I1.lock hH trivial
      have nf : NF H1 a := .dK hH
      have x1 : Ext φ1 H1 φ1 (upd H1 a (.frz o (.dK ks))) := Ext.set (List.mem_of_getElem? ea) nf
      have hr2 : HR (Gd X) φ1 (upd H1 a (.frz o (.dK ks))) (A1.set n (.lk kvs)) := hr1.set ea nf ⟨o, ks, rfl, rk⟩
      have hlk : lockA A1 (some n) = A1.set n (.lk kvs) := by
        show (match A1[n]? with | some (.dct kvs) => A1.set n (.lk kvs) | _ => A1) = _
        rw [hA]
      refine it_keys I2 upd_same (q2 _ _ (fun z => by cases z) (fun m em => ?_) (by show HR _ _ _ (lockA A1 (some n)); rw [hlk]; exact hr2) (wk_keys hr2 ea upd_same (rk.ext hr1 x1)))
      cases em
      exact ⟨a, o, ks, ea, hH, rfl, I1.nofrz hH trivial⟩
theorem mg_of {X : Cx} {c : SC} {W : WX} (ok : CtxOk X c cl W) {x : String} (h : x ∈ ["enumerate", "zip", "range"]) : X.mg (Str.ofString x) = none := ok.bn x (by rw [List.mem_append]; exact .inr h)
theorem wk_none {A : AH} {d : D} {xs : List D} {g : Guard} {w : Wk} (h : wkEnum A d = some w) : ∃ u, wkOf A d = some u ∧ u.lock = none ∧ w = ⟨enumD 0 u.items, u.g, none⟩ := by
  unfold wkEnum at h
  split at h
  · rename_i xs g e
    cases h
    exact ⟨_, e, rfl, rfl⟩
  · cases h
theorem wk_none2 {A : AH} {d e : D} {w : Wk} (h : wkZip A d e = some w) : ∃ u v, wkOf A d = some u ∧ wkOf A e = some v ∧ u.lock = none ∧ v.lock = none ∧ w = ⟨zipD u.items v.items, u.g ++ v.g, none⟩ := by
  unfold wkZip at h
  split at h
  · rename_i xs g ys k e1 e2
    cases h
    exact ⟨_, _, e1, e2, rfl, rfl, rfl⟩
  · cases h
theorem se_enm {e : Ex} (ih : SE cl e) : SE cl (.enm e) where
  pe := fun _ h => by simp [mt] at h
  pt := fun _ h => by simp [mt] at h
  pw := fun _ h => by simp [mt] at h
  pa := fun _ h => by simp [mts] at h
  pd := fun _ h => by simp [mtd] at h
  po := fun _ h => by simp [mto] at h
  pc := fun _ h => by simp [mtc] at h
  pi := fun {X c W x tg} ok h => by
    cases tg <;> first | (simp [mtw, isTup] at h; done) | skip
    rename_i elts kk tpos
    cases x <;> first | (simp [mtw, isTup] at h; done) | skip
    rename_i fn xs kws pos
    cases fn <;> first | (simp [mtw, isTup] at h; done) | skip
    rename_i n np
    rcases xs with _ | ⟨l, _ | _⟩ <;> cases kws <;> first | (simp [mtw, isTup] at h; done) | skip
    have h : (true && (decide (n = "enumerate") && glB c.sc n && mt e c l)) = true := h
    simp only [Bool.true_and, Bool.and_eq_true, decide_eq_true_eq] at h
    obtain ⟨⟨rfl, hg⟩, h1⟩ := h
    obtain ⟨g1, g2, g3⟩ := glB_gl ok hg
    refine ⟨fun pins s σ H R I ⟨φ, F, A, hr, fr, q⟩ => ?_⟩
    have t := tE_go (β := Wk) (cl := cl) (e := e) (f := fun x A1 => ofO (wkEnum A1 x) A1) hr fr q
    have ha : PA X [l] (tCons (tE (Gd X) cl W e) tNil) := pa_cons (ih.pe ok h1) pa_nil (star_plain (mt_plain h1))
    refine wpAny_Call_Name_kw (ld_blt I g1 (mg_of ok (x := "enumerate") (by decide)) PyProof.Rows.boot_enumerate (PyProof.Rows.callWith_type1 (thn (ha.run pos pins s σ H (fun vs H1 => ∃ x, vs = [x] ∧ ∃ φ1 A1 d, HR (Gd X) φ1 H1 A1 ∧ FR (Gd X) φ1 H1 F σ ∧ Rep (Gd X) φ1 H1 d x ∧ okG (Gd X) φ1 H1 (fun c d H' => W c d σ H') _ (ofO (wkEnum A1 d) A1)) I (tE_mono t fun x H1 z => ⟨x, rfl, z⟩)) fun us s1 ⟨vs, H1, I1, r1, x, ex, φ1, A1, d, hr1, fr1, rd, q1⟩ => ?_) (star_plain (mt_plain h1)) rfl))
    subst ex
    obtain ⟨u, rfl, ru⟩ := Vals.one r1
    obtain ⟨w, hw, q2⟩ := q1.ofO
    have q2 := q2 φ1 H1 .refl hr1
    obtain ⟨w0, hw0, hl, rfl⟩ := wk_none (xs := []) (g := []) hw
    obtain ⟨b, a, rfl, so, sg⟩ := src_of hr1 rd hw0 hl
    cases ru
    obtain ⟨vs, sq, _⟩ := so φ1 H1 A1 .refl hr1 sg
    obtain ⟨lt, o, P, B, hP, hI⟩ := src_begins I1 sq
    refine ev_enum1_begins B hP fun h' he ho hsz hk => wpAny_pyIter_enum he ?_
    have I2 : L2.Inv X pins σ H1 { s1 with heap := h' } := I1.kept (t' := s1.toks) hk
    have n3 : s1.heap.objs.size + 1 ≠ a := Nat.ne_of_gt (Nat.lt_succ_of_lt lt)
    have n2 : a ≠ s1.heap.objs.size := Nat.ne_of_lt lt
    refine ⟨s1.heap.objs.size + 1, [s1.heap.objs.size + 1, s1.heap.objs.size], _, _, H1, rfl, I2, turn_enumB (b := b) (a := a) (e := s1.heap.objs.size + 1) (it := s1.heap.objs.size) (Nat.succ_ne_self _) n2 n3, ⟨⟨.none, he⟩, hI _ _ ho⟩, fun c hc => ?_, q2 H1 _ (fun _ => rfl) (fun n e => by cases e) hr1 (wk_enum so)⟩
    have e' : c = s1.heap.objs.size + 1 ∨ c = s1.heap.objs.size := by simpa using hc
    have hle : s1.heap.objs.size ≤ c := by
      rcases e' with z | z
      · rw [z]; exact Nat.le_add_right _ _
      · rw [z]; exact Nat.le_refl _
    exact I1.fpOk hle (I1.hok.fresh hle)
theorem se_zip {e e2 : Ex} (ih : SE cl e) (ih2 : SE cl e2) : SE cl (.zip e e2) where
  pe := fun _ h => by simp [mt] at h
  pt := fun _ h => by simp [mt] at h
  pw := fun _ h => by simp [mt] at h
  pa := fun _ h => by simp [mts] at h
  pd := fun _ h => by simp [mtd] at h
  po := fun _ h => by simp [mto] at h
  pc := fun _ h => by simp [mtc] at h
  pi := fun {X c W x tg} ok h => by
    cases tg <;> first | (simp [mtw, isTup] at h; done) | skip
    rename_i elts kk tpos
    cases x <;> first | (simp [mtw, isTup] at h; done) | skip
    rename_i fn xs kws pos
    cases fn <;> first | (simp [mtw, isTup] at h; done) | skip
    rename_i n np
    rcases xs with _ | ⟨l, _ | ⟨r, _ | _⟩⟩ <;> cases kws <;> first | (simp [mtw, isTup] at h; done) | skip
    have h : (true && (decide (n = "zip") && glB c.sc n && mt e c l && mt e2 c r)) = true := h
    simp only [Bool.true_and, Bool.and_eq_true, decide_eq_true_eq] at h
    obtain ⟨⟨⟨rfl, hg⟩, h1⟩, h2⟩ := h
    obtain ⟨g1, g2, g3⟩ := glB_gl ok hg
    refine ⟨fun pins s σ H R I ⟨φ, F, A, hr, fr, q⟩ => ?_⟩
    have t := tE_go2 (β := Wk) (cl := cl) (e := e) (e2 := e2) (f := fun x y A2 => ofO (wkZip A2 x y) A2) hr fr q
    have ha : PA X [l, r] (tCons (tE (Gd X) cl W e) (tCons (tE (Gd X) cl W e2) tNil)) := pa_cons (ih.pe ok h1) (pa_cons (ih2.pe ok h2) pa_nil (star_plain (mt_plain h2))) (star_plain (mt_plain h1))
    refine wpAny_Call_Name_kw (ld_blt I g1 (mg_of ok (x := "zip") (by decide)) PyProof.Rows.boot_zip (PyProof.Rows.callWith_type1 (thn (ha.run pos pins s σ H (fun vs H1 => ∃ x y, vs = [x, y] ∧ ∃ φ1 A1 d d2, HR (Gd X) φ1 H1 A1 ∧ FR (Gd X) φ1 H1 F σ ∧ Rep (Gd X) φ1 H1 d x ∧ Rep (Gd X) φ1 H1 d2 y ∧ okG (Gd X) φ1 H1 (fun c d H' => W c d σ H') _ (ofO (wkZip A1 d d2) A1)) I (tE_mono t fun x H1 z => tE_mono z fun y H2 z2 => ⟨x, y, rfl, z2⟩)) fun us s1 ⟨vs, H1, I1, r1, x, y, ex, φ1, A1, d, d2, hr1, fr1, rd, rd2, q1⟩ => ?_) (star_plain (mt_plain h1)) (back_none (xs := [r]) (by simp [mt_plain h2]))))
    subst ex
    obtain ⟨u, u2, rfl, ru, ru2⟩ := Vals.two r1
    obtain ⟨w, hw, q2⟩ := q1.ofO
    have q2 := q2 φ1 H1 .refl hr1
    obtain ⟨w0, w1, hw0, hw1, hl, hl1, rfl⟩ := wk_none2 hw
    obtain ⟨b, a, rfl, so, sg⟩ := src_of hr1 rd hw0 hl
    obtain ⟨b2, a2, rfl, so2, sg2⟩ := src_of hr1 rd2 hw1 hl1
    cases ru
    cases ru2
    obtain ⟨vs, sq, _⟩ := so φ1 H1 A1 .refl hr1 sg
    obtain ⟨vs2, sq2, _⟩ := so2 φ1 H1 A1 .refl hr1 sg2
    obtain ⟨lt, o, P, B, hP, hI⟩ := src_begins I1 sq
    obtain ⟨lt2, o2, P2, B2, hP2, hI2⟩ := src_begins I1 sq2
    refine zip_begins2 B B2 hP hP2 fun h' hz hTI hTO ho1 ho2 hsz hk => wpAny_pyIter_zip hz ?_
    have I2 : L2.Inv X pins σ H1 { s1 with heap := h' } := I1.kept (t' := s1.toks) hk
    have ap : Apart2 (s1.heap.objs.size + 4) (s1.heap.objs.size + 2) (s1.heap.objs.size + 3) s1.heap.objs.size (s1.heap.objs.size + 1) a a2 :=
      ⟨zip_sep2 (N := s1.heap.objs.size) (fp1 := [a]) (fp2 := [a2]) (fun b hb => by rw [List.mem_singleton.mp hb]; exact lt) (fun b hb => by rw [List.mem_singleton.mp hb]; exact lt2), Nat.ne_of_lt lt, Nat.ne_of_lt (Nat.lt_succ_of_lt lt2)⟩
    refine ⟨s1.heap.objs.size + 4, [s1.heap.objs.size + 4, s1.heap.objs.size + 2, s1.heap.objs.size + 3, s1.heap.objs.size, s1.heap.objs.size + 1], _, _, H1, rfl, I2, turn_zipB (b1 := b) (b2 := b2) ap, ⟨hz, hTI, ⟨_, _, hTO⟩, hI _ _ ho1, hI2 _ _ ho2⟩, fun c hcm => ?_, q2 H1 _ (fun _ => rfl) (fun n e => by cases e) hr1 (wk_zip so so2)⟩
    have e' : c = s1.heap.objs.size + 4 ∨ c = s1.heap.objs.size + 2 ∨ c = s1.heap.objs.size + 3 ∨ c = s1.heap.objs.size ∨ c = s1.heap.objs.size + 1 := by simpa using hcm
    have hle : s1.heap.objs.size ≤ c := by
      rcases e' with z | z | z | z | z
      · rw [z]; exact Nat.le_add_right _ _
      · rw [z]; exact Nat.le_add_right _ _
      · rw [z]; exact Nat.le_add_right _ _
      · rw [z]; exact Nat.le_refl _
      · rw [z]; exact Nat.le_add_right _ _
    exact I1.fpOk hle (I1.hok.fresh hle)
theorem okG.imp' {G : Md} {β : Type} {φ : Ph} {H : Hp} {W : Value → Option Addr → Hp → Prop} {P P' : β → AH → Ph → Hp → Prop} {r : Res β} (h : okG G φ H W P r) (k : ∀ b A φ' H', r = .ok b A → Ext φ H φ' H' → HR G φ' H' A → P b A φ' H' → P' b A φ' H') : okG G φ H W P' r := by
  cases r with
  | ok b A => exact fun φ' H' e hr => k _ _ _ _ rfl e hr (h φ' H' e hr)
  | exc y A => exact h
  | no => exact h
theorem evs_len {c : SC} {F : Fr} : ∀ {es : Ex} {xs : List Expr} {A A' : AH} {ds : List D}, mts es c xs = true → evs cl es F A = .ok ds A' → ds.length = xs.length
  | .nil, xs, A, A', ds, h, e => by
    cases xs with
    | nil => cases e; rfl
    | cons => simp [mts] at h
  | .cons a r, xs, A, A', ds, h, e => by
    cases xs with
    | nil => simp [mts] at h
    | cons x xs =>
      have h : mt a c x = true ∧ mts r c xs = true := by simpa [mts] using h
      have e : (bnd (ev cl a F A) fun x A1 => bnd (evs cl r F A1) fun xs A2 => .ok (x :: xs) A2) = .ok ds A' := e
      cases e1 : ev cl a F A with
      | ok y A1 =>
        rw [e1] at e
        simp only [bnd] at e
        cases e2 : evs cl r F A1 with
        | ok ys A2 =>
          rw [e2] at e
          cases e
          simp [evs_len h.2 e2]
        | exc => rw [e2] at e; cases e
        | no => rw [e2] at e; cases e
      | exc => rw [e1] at e; cases e
      | no => rw [e1] at e; cases e
  | .var _, _, _, _, _, h, _ | .int _, _, _, _, _, h, _ | .str _, _, _, _, _, h, _ | .bl _, _, _, _, _, h, _ | .non, _, _, _, _, h, _ | .gl _, _, _, _, _, h, _ | .cst _ _, _, _, _, _, h, _ | .tup _, _, _, _, _, h, _ | .lst _, _, _, _, _, h, _ | .dct _, _, _, _, _, h, _ | .op _ _ _, _, _, _, _, h, _ | .neg _, _, _, _, _, h, _ | .cmp _ _ _, _, _, _, _, h, _
  | .chn _ _ _ _ _, _, _, _, _, h, _ | .and _ _, _, _, _, _, h, _ | .or _ _, _, _, _, _, h, _ | .not _, _, _, _, _, h, _ | .ite _ _ _, _, _, _, _, h, _ | .ix _ _, _, _, _, _, h, _ | .sl _ _ _, _, _, _, _, h, _ | .call _ _, _, _, _, _, h, _ | .bi _ _, _, _, _, _, h, _ | .mth _ _ _, _, _, _, _, h, _ | .lc _ _ _ _ _, _, _, _, _, h, _
  | .dc _ _ _ _ _ _, _, _, _, _, h, _ | .wk _, _, _, _, _, h, _ | .enm _, _, _, _, _, h, _ | .zip _ _, _, _, _, _, h, _ | .rng _, _, _, _, _, h, _ => by simp [mts] at h
theorem small_of {i : Int} (h : small i = true) : -(2 ^ 62) ≤ i ∧ i < 2 ^ 62 := by
  unfold small at h
  simp only [Bool.and_eq_true, decide_eq_true_eq] at h
  omega
theorem se_rng {es : Ex} (ih : SE cl es) : SE cl (.rng es) where
  pe := fun _ h => by simp [mt] at h
  pt := fun _ h => by simp [mt] at h
  pw := fun _ h => by simp [mt] at h
  pa := fun _ h => by simp [mts] at h
  pd := fun _ h => by simp [mtd] at h
  po := fun _ h => by simp [mto] at h
  pc := fun _ h => by simp [mtc] at h
  pi := fun {X c W x tg} ok h => by
    cases x <;> first | (simp [mtw] at h; done) | skip
    rename_i fn xs kws pos
    cases fn <;> first | (simp [mtw] at h; done) | skip
    rename_i n np
    cases kws <;> first | (simp [mtw] at h; done) | skip
    have h : (decide (n = "range") && glB c.sc n && (xs.length == 1 || xs.length == 2) && mts es c xs) = true := h
    simp only [Bool.and_eq_true, decide_eq_true_eq] at h
    obtain ⟨⟨⟨rfl, hg⟩, hx⟩, h1⟩ := h
    obtain ⟨g1, g2, g3⟩ := glB_gl ok hg
    have hp := mts_plain h1
    refine ⟨fun pins s σ H R I ⟨φ, F, A, hr, fr, q⟩ => ?_⟩
    have t := tA_go (β := Wk) (cl := cl) (e := es) (f := fun ds A1 => ofO (wkRng ds) A1) hr fr q
    rcases xs with _ | ⟨x, _ | ⟨y, _ | _⟩⟩
    · simp at hx
    · refine (pi_range1 g1 (mg_of ok (x := "range") (by decide)) (ih.pa ok h1) (by simp only [List.all_cons, Bool.and_eq_true] at hp; exact star_plain hp.1)).run pins s σ H R I ?_
      refine ⟨φ, F, A, hr, fr, (okG.bnd (α := List D) (r := evs cl es F A) q).imp' fun ds A1 φ1 H1 e1 _ hr1 q vs rv => ?_⟩
      have hl := evs_len h1 e1
      obtain ⟨w, hw, q⟩ := q.ofO
      rcases ds with _ | ⟨d, _ | ⟨d2, ds⟩⟩
      · cases hl
      · obtain ⟨v, rfl, rz⟩ := rv.one
        unfold wkRng at hw
        split at hw <;> first | (cases hw; done) | skip
        · rename_i j e
          cases e
          have rz : v = .int j := rz
          subst rz
          split at hw
          · rename_i hs
            cases hw
            obtain ⟨s1, s2⟩ := small_of hs
            have z := q φ1 H1 .refl hr1 H1 _ (fun _ => rfl) (fun n e => by cases e) hr1 (wk_rng (lo := 0) (hi := j))
            rw [Int.sub_zero] at z
            exact ⟨j, rfl, s1, s2, z⟩
          · cases hw
        · rename_i e; cases e
      · cases hl
    · refine (pi_range2 g1 (mg_of ok (x := "range") (by decide)) (ih.pa ok h1) (by simp only [List.all_cons, Bool.and_eq_true] at hp; rw [star_plain hp.1, star_plain hp.2.1]; rfl) (by simp only [List.all_cons, Bool.and_eq_true] at hp; exact star_plain hp.2.1)).run pins s σ H R I ?_
      refine ⟨φ, F, A, hr, fr, (okG.bnd (α := List D) (r := evs cl es F A) q).imp' fun ds A1 φ1 H1 e1 _ hr1 q vs rv => ?_⟩
      have hl := evs_len h1 e1
      obtain ⟨w, hw, q⟩ := q.ofO
      rcases ds with _ | ⟨d, _ | ⟨d2, _ | ⟨d3, ds⟩⟩⟩
      · cases hl
      · cases hl
      · obtain ⟨v, v2, rfl, rz, rz2⟩ := rv.two
        unfold wkRng at hw
        split at hw <;> first | (cases hw; done) | skip
        · rename_i j e; cases e
        · rename_i i j e
          cases e
          have rz : v = .int i := rz
          have rz2 : v2 = .int j := rz2
          subst rz rz2
          split at hw
          · rename_i hs
            cases hw
            simp only [Bool.and_eq_true] at hs
            obtain ⟨s1, s2⟩ := small_of hs.1
            obtain ⟨s3, s4⟩ := small_of hs.2
            exact ⟨i, j, rfl, ⟨s1, s2, s3, s4⟩, q φ1 H1 .refl hr1 H1 _ (fun _ => rfl) (fun n e => by cases e) hr1 wk_rng⟩
          · cases hw
      · cases hl
    · simp at hx
end
end Ev

/-! ## EvSnd7 -/
/-! EvSnd7: targets, comprehensions. -/
namespace Ev
open PySem PySem.Spec PyProof.Rows L2

/-! ### targets -/
def Agree (l : List Nat) (σ σ' : L2.St) : Prop := σ'.length = σ.length ∧ ∀ i, i ∉ l → σ'[i]? = σ[i]?
theorem Agree.refl {l : List Nat} {σ : L2.St} : Agree l σ σ := ⟨rfl, fun _ _ => rfl⟩
theorem Agree.trans {l m : List Nat} {σ σ1 σ2 : L2.St} (a : Agree l σ σ1) (b : Agree m σ1 σ2) : Agree (l ++ m) σ σ2 :=
  ⟨b.1.trans a.1, fun i h => by
    rw [List.mem_append, not_or] at h
    rw [b.2 i h.2, a.2 i h.1]⟩
def gE (G : Md) (t : Tg) : TG := fun v σ H Q => ∃ φ F A d F', HR G φ H A ∧ FR G φ H F σ ∧ Rep G φ H d v ∧ asgT t d F = some F' ∧ ∀ σ', FR G φ H F' σ' → Agree (tgSlots t) σ σ' → Q σ' H
def gEs (G : Md) (t : Tg) : TGs := fun vs σ H Q => ∃ φ F A ds F', HR G φ H A ∧ FR G φ H F σ ∧ Reps G φ H ds vs ∧ asgTs t ds F = some F' ∧ ∀ σ', FR G φ H F' σ' → Agree (tgSlots t) σ σ' → Q σ' H
theorem pg_imp {X : Cx} {x : Expr} {t t' : TG} (h : PG X x t) (k : ∀ v σ H Q, t' v σ H Q → t v σ H Q) : PG X x t' := ⟨fun pins s σ H v u Q I r q => h.run pins s σ H v u Q I r (k v σ H Q q)⟩
theorem pgs_imp {X : Cx} {x : List Expr} {t t' : TGs} (h : PGs X x t) (k : ∀ v σ H Q, t' v σ H Q → t v σ H Q) : PGs X x t' := ⟨fun pins s σ H v u Q I r q => h.run pins s σ H v u Q I r (k v σ H Q q)⟩
theorem asg_plain {x : Expr} {xs : List Expr} {env : Env} (h : plainB x = true) : assignEach (x :: xs) env = (false, assign x env) :: assignEach xs env := by
  cases x <;> first | rfl | (cases h; done)
theorem mtt_plain : ∀ {t : Tg} {c : SC} {x : Expr}, mtt t c x = true → plainB x = true := fun {t c x} h => by
  cases t <;> cases x <;> first | rfl | (simp [mtt] at h; done)
theorem mtts_plain : ∀ {t : Tg} {c : SC} {xs : List Expr}, mtts t c xs = true → xs.all plainB = true
  | .nil, c, xs, h => by
    cases xs with
    | nil => rfl
    | cons => simp [mtts] at h
  | .cons a r, c, xs, h => by
    cases xs with
    | nil => rfl
    | cons x xs =>
      have h : mtt a c x = true ∧ mtts r c xs = true := by simpa [mtts] using h
      rw [List.all_cons, mtt_plain h.1, mtts_plain h.2]; rfl
  | .nm _, _, _, h => by simp [mtts] at h
  | .tu _, _, _, h => by simp [mtts] at h
theorem asg_len : ∀ {xs : List Expr} {env : Env}, xs.all plainB = true → (assignEach xs env).length = xs.length ∧ (assignEach xs env).findIdx? (·.1) = none
  | [], _, _ => ⟨rfl, rfl⟩
  | x :: xs, env, h => by
    simp only [List.all_cons, Bool.and_eq_true] at h
    obtain ⟨h1, h2⟩ := asg_len (env := env) h.2
    rw [asg_plain h.1]
    refine ⟨by simp [h1], ?_⟩
    rw [List.findIdx?_cons, h2]
    rfl
theorem asgTs_len : ∀ {t : Tg} {c : SC} {xs : List Expr} {ds : List D} {F F' : Fr}, mtts t c xs = true → asgTs t ds F = some F' → ds.length = xs.length
  | .nil, c, xs, ds, F, F', h, e => by
    cases xs with
    | cons => simp [mtts] at h
    | nil => cases ds with
      | nil => rfl
      | cons => simp [asgTs] at e
  | .cons a r, c, xs, ds, F, F', h, e => by
    cases xs with
    | nil => simp [mtts] at h
    | cons x xs =>
      have h : mtt a c x = true ∧ mtts r c xs = true := by simpa [mtts] using h
      cases ds with
      | nil => simp [asgTs] at e
      | cons d ds =>
        unfold asgTs at e
        split at e
        · simp [asgTs_len h.2 e]
        · cases e
  | .nm _, _, _, _, _, _, h, _ => by simp [mtts] at h
  | .tu _, _, _, _, _, _, h, _ => by simp [mtts] at h
section
variable {cl : Cl} {X : Cx} {c : SC} {W : WX}
mutual
theorem pg_of (ok : CtxOk X c cl W) : ∀ {t : Tg} {x : Expr}, mtt t c x = true → PG X x (gE (Gd X) t)
  | .nm i, x, h => by
    cases x with
    | Name n p =>
      have h : (decide (c.N[i]? = some n) && c.sto.contains n) = true := h
      simp only [Bool.and_eq_true, decide_eq_true_eq] at h
      obtain ⟨h1, h2⟩ := ok.sto n (by simpa using h.2)
      refine pg_imp (pg_name (i := i) (by rw [ok.N]; exact ok.nd) (by rw [ok.N]; exact h.1) h1 h2) fun v σ H Q ⟨φ, F, A, d, F', hr, fr, rd, e, q⟩ => ?_
      cases e
      refine q _ (fr.set i rd) ⟨by simp, fun j hj => ?_⟩
      rw [List.getElem?_set_ne (fun e => hj (by rw [← e]; simp [tgSlots]))]
    | _ => simp [mtt] at h
  | .tu ts, x, h => by
    cases x with
    | Tuple es k p =>
      have h : mtts ts c es = true := h
      obtain ⟨h1, h2⟩ := asg_len (env := X.env) (mtts_plain h)
      refine pg_imp (pg_tup (n := es.length) ok.calm (pgs_of ok h) h1 h2) fun v σ H Q ⟨φ, F, A, d, F', hr, fr, rd, e, q⟩ => ?_
      cases d with
      | tup xs =>
        obtain ⟨a, vs, rfl, sq, rs⟩ := rd
        have e : asgTs ts xs F = some F' := e
        exact ⟨a, vs, rfl, sq, by rw [rs.length]; exact asgTs_len h e, φ, F, A, xs, F', hr, fr, rs, e, q⟩
      | _ => cases e
    | _ => simp [mtt] at h
  | .nil, x, h => by simp [mtt] at h
  | .cons _ _, x, h => by simp [mtt] at h
theorem pgs_of (ok : CtxOk X c cl W) : ∀ {t : Tg} {xs : List Expr}, mtts t c xs = true → PGs X xs (gEs (Gd X) t)
  | .nil, xs, h => by
    cases xs with
    | cons => simp [mtts] at h
    | nil =>
      refine pgs_imp pgs_nil fun v σ H Q ⟨φ, F, A, ds, F', hr, fr, rd, e, q⟩ => ?_
      cases ds with
      | cons => simp [asgTs] at e
      | nil =>
        cases e
        exact ⟨rd, q σ fr .refl⟩
  | .cons a r, xs, h => by
    cases xs with
    | nil => simp [mtts] at h
    | cons x xs =>
      have h : mtt a c x = true ∧ mtts r c xs = true := by simpa [mtts] using h
      refine pgs_imp (pgs_cons (pg_of ok h.1) (pgs_of ok h.2) (by rw [asg_plain (mtt_plain h.1)]; rfl)) fun v σ H Q ⟨φ, F, A, ds, F', hr, fr, rd, e, q⟩ => ?_
      cases ds with
      | nil => simp [asgTs] at e
      | cons d ds =>
        obtain ⟨w, ws, rfl, r1, r2⟩ := rd
        unfold asgTs at e
        split at e
        · rename_i F1 e1
          exact ⟨w, ws, rfl, φ, F, A, d, F1, hr, fr, r1, e1, fun σ1 fr1 ag1 => ⟨φ, F1, A, ds, F', hr, fr1, r2, e, fun σ2 fr2 ag2 => q σ2 fr2 (ag1.trans ag2)⟩⟩
        · cases e
  | .nm _, _, h => by simp [mtts] at h
  | .tu _, _, h => by simp [mtts] at h
end
end

/-! ### the frame with slots forgotten -/
theorem wipe_get {σ : L2.St} : ∀ {l : List Nat} {i : Nat}, (L2.wipe σ l)[i]? = if i ∈ l ∧ i < σ.length then some none else σ[i]?
  | [], i => by simp [L2.wipe]
  | v :: l, i => by
    unfold L2.wipe
    by_cases h : v = i
    · subst h
      by_cases hl : v < σ.length
      · rw [List.getElem?_set_self (by rw [L2.wipe_length]; exact hl), if_pos ⟨List.mem_cons_self, hl⟩]
      · rw [List.getElem?_eq_none (by rw [List.length_set, L2.wipe_length]; omega), if_neg (fun z => hl z.2), List.getElem?_eq_none (by omega)]
    · rw [List.getElem?_set_ne h, wipe_get]
      have : (i ∈ v :: l) ↔ i ∈ l := by
        rw [List.mem_cons]
        exact ⟨fun z => z.resolve_left (fun e => h e.symm), .inr⟩
      simp only [this]
theorem wipe_agree {σ σ' : L2.St} {l m : List Nat} (a : Agree m (L2.wipe σ l) σ') (h : ∀ i ∈ m, i ∈ l) : L2.wipe σ' l = L2.wipe σ l := by
  have hl : σ'.length = σ.length := by rw [a.1, L2.wipe_length]
  refine List.ext_getElem? fun i => ?_
  rw [wipe_get, wipe_get, hl]
  by_cases hi : i ∈ l ∧ i < σ.length
  · rw [if_pos hi, if_pos hi]
  · rw [if_neg hi, if_neg hi]
    by_cases him : i ∈ l
    · have : ¬ i < σ.length := fun z => hi ⟨him, z⟩
      rw [List.getElem?_eq_none (by omega), List.getElem?_eq_none (by omega)]
    · rw [a.2 i (fun z => him (h i z)), wipe_get, if_neg hi]
end Ev

/-! ## EvCls -/
/-! EvCls: fields, making, methods. -/
namespace Ev
open PySem PySem.Spec PyProof.Rows L2

/-! ### fields -/
section
variable {G : Md} {φ : Ph} {H : Hp} {A : AH}
theorem FReps.get {f : String} : ∀ {fs : List (String × D)} {ks : List (Str × V)}, FReps G φ H fs ks →
    (∃ d v, fget fs f = some d ∧ ks.lookup (Str.ofString f) = some v ∧ Rep G φ H d v) ∨ (fget fs f = none ∧ ks.lookup (Str.ofString f) = none)
  | [], ks, r => by rw [show ks = [] from r]; exact .inr ⟨rfl, rfl⟩
  | (g, d) :: fs, ks, r => by
    obtain ⟨v, s, rfl, r1, r2⟩ := r
    by_cases h : g = f
    · subst h
      exact .inl ⟨d, v, by simp [fget], by simp [List.lookup], r1⟩
    · have hb : (Str.ofString f == Str.ofString g) = false := by
        rw [beq_eq_false_iff_ne]
        exact fun q => h (ofString_inj q).symm
      rcases FReps.get (f := f) r2 with ⟨d', v', h1, h2, h3⟩ | ⟨h1, h2⟩
      · exact .inl ⟨d', v', by simpa [fget, h] using h1, by simpa [List.lookup, hb] using h2, h3⟩
      · exact .inr ⟨by simpa [fget, h] using h1, by simpa [List.lookup, hb] using h2⟩
theorem FReps.put {f : String} {d : D} {v : V} (rd : Rep G φ H d v) : ∀ {fs : List (String × D)} {ks : List (Str × V)}, FReps G φ H fs ks → FReps G φ H (fput f d fs) (putF (Str.ofString f) v ks)
  | [], ks, r => by rw [show ks = [] from r]; exact ⟨v, [], rfl, rd, rfl⟩
  | (g, d') :: fs, ks, r => by
    obtain ⟨v', s, rfl, r1, r2⟩ := r
    by_cases h : g = f
    · subst h
      simp only [fput, putF, if_pos]
      exact ⟨v, s, rfl, rd, r2⟩
    · have hb : ¬ Str.ofString g = Str.ofString f := fun q => h (ofString_inj q)
      simp only [fput, putF, if_neg h, if_neg hb]
      exact ⟨v', _, rfl, r1, FReps.put rd r2⟩
theorem FReps.length : ∀ {fs : List (String × D)} {ks : List (Str × V)}, FReps G φ H fs ks → ks.length = fs.length
  | [], ks, r => by rw [show ks = [] from r]; rfl
  | (g, d) :: fs, ks, r => by
    obtain ⟨v, s, rfl, _, r2⟩ := r
    simp [FReps.length r2]
theorem HR.ins (hr : HR G φ H A) {n : Nat} {a : Addr} {c : String} {fs : List (String × D)} (e : A[n]? = some (.ins c fs)) (ea : φ[n]? = some a) : ∃ C dx vs, H a = some (.ins C dx vs) ∧ G.mg (Str.ofString c) = some (.ref C) ∧ FReps G φ H fs vs := by
  obtain ⟨ho, e1, C, dx, vs, rfl, g, r⟩ := hr.at_ n a _ ea e
  exact ⟨C, dx, vs, e1, g, r⟩
theorem NF.ins {H : Hp} {a C dx : Addr} {vs : List (Str × V)} (e : H a = some (.ins C dx vs)) : NF H a := fun o u z => by rw [e] at z; cases z
end
/-- a field is read -/
theorem fld_of {X : Cx} {c : SC} {cl : Cl} {W : WX} (ok : CtxOk X c cl W) {k f : String} (hf : (k, f) ∈ c.flds) {φ : Ph} {H : Hp} {A : AH} {d e : D} {v : V} (hr : HR (Gd X) φ H A) (r : Rep (Gd X) φ H d v) (h : fldD A k f d = some e) :
    ∃ n a C dx fs vs w, d = .ref n ∧ v = .ref a ∧ φ[n]? = some a ∧ A[n]? = some (.ins k fs) ∧ H a = some (.ins C dx vs) ∧ X.mg (Str.ofString k) = some (.ref C) ∧ Cls X.K C ∧ NoAttr X.K C (Str.ofString f) ∧ vs.lookup (Str.ofString f) = some w ∧ Rep (Gd X) φ H e w := by
  unfold fldD at h
  split at h
  · rename_i n
    obtain ⟨a, ea, rfl⟩ := r
    split at h
    · rename_i k' fs hA
      split at h
      · rename_i hk
        subst hk
        obtain ⟨C, dx, vs, e1, g, rf⟩ := hr.ins hA ea
        obtain ⟨C', g', hc, hn⟩ := ok.tab.flds _ hf
        have hC : C' = C := by
          have := g'.symm.trans g
          cases this; rfl
        subst hC
        rcases rf.get (f := f) with ⟨d', w, h1, h2, h3⟩ | ⟨h1, _⟩
        · rw [h1] at h; cases h
          exact ⟨n, a, C', dx, fs, vs, w, rfl, rfl, ea, hA, e1, g, hc, hn, h2, h3⟩
        · rw [h1] at h; cases h
      · cases h
    · cases h
  · cases h
section
variable {cl : Cl}
theorem se_fld (k f : String) {a : Ex} (iha : SE cl a) : SE cl (.fld a k f) := by
  have pe : ∀ {X : Cx} {c : SC} {W : WX} {x : Expr}, CtxOk X c cl W → mt (.fld a k f) c x = true → PE X x (tE (Gd X) cl W (.fld a k f)) := fun {X c W x} ok h => by
    cases x with
    | Attribute l n pos =>
      have h : (decide (n = Str.ofString f) && c.flds.contains (k, f) && mt a c l) = true := h
      simp only [Bool.and_eq_true, decide_eq_true_eq] at h
      obtain ⟨⟨rfl, hf⟩, h1⟩ := h
      have hf : (k, f) ∈ c.flds := by simpa using hf
      refine pe_imp (pe_fld (iha.pe ok h1) (attr_plain h1)) fun σ H Q ⟨φ, F, A, hr, fr, q⟩ => ?_
      refine tE_mono (tE_go (β := D) (cl := cl) (e := a) (f := fun x A1 => ofO (fldD A1 k f x) A1) hr fr q) fun v H1 ⟨φ1, A1, d, hr1, fr1, r1, q1⟩ => ?_
      obtain ⟨e, he, q2⟩ := q1.ofO
      obtain ⟨n, b, C, dx, fs, vs, w, rfl, rfl, ea, hA, e1, g, hc, hn, hl, rw'⟩ := fld_of ok hf hr1 r1 he
      exact ⟨b, C, dx, vs, w, rfl, e1, hc, hn, hl, q2 φ1 H1 .refl hr1 w rw'⟩
    | _ => simp [mt] at h
  refine SE.of ⟨fun c xs => by simp [mts], fun c ks vs => by simp [mtd], fun c x => by simp [mto], fun c x => by simp [mtc], fun c x t => by simp [mtw]⟩ pe (fun {X c W x} ok h => pt_of (pe ok h) ?_) (fun ok h => by simp [mt] at h)
  cases x <;> first | (exact fun _ => rfl) | (simp [mt] at h; done)

/-! ### making -/
theorem run_makeS {X : Cx} {CX : CXT} {k : Nat} {C f : Addr} {fd : FuncData} {ps : List Str} {sp : Sp} {E : L2.St → XK} {pins : List (Addr × Obj)} {σ : L2.St} {H : Hp} {s : Shared} {Q : VK} {us : List Value} {vs : List V} (M : Mk X.K C f) (F : FnOk X.prog X.w X.K X.mg X.base CX k f fd ps sp) (hr : Room (k + 1) X.A) (hb : Binds X.K fd ps [])
    (hx : PassesAt CX X σ (E σ)) (I : Inv X pins σ H s) (r : Vals vs us)
    (h : ∀ x dx, H x = none → H dx = none → dx ≠ x → sp (.ref x :: vs) (upd (upd H dx (.own x)) x (.ins C dx [])) (fun v H2 => v = .non ∧ Q (.ref x) H2) (E σ)) :
    wpAny (model X.prog X.w) X.A (call (.ref C) us) (EP X pins σ Q) X.xe s := by
  have hq := h (s.heap.objs.size + 1) s.heap.objs.size (I.hok.fresh (Nat.le_succ _)) (I.hok.fresh (Nat.le_refl _)) (Nat.ne_of_lt (Nat.lt_succ_self _))
  have I2 := Inv.made (C := C) I
  have r2 : Vals (V.ref (s.heap.objs.size + 1) :: vs) (Value.ref (s.heap.objs.size + 1) :: us) := .cons rfl r
  have hl : (Value.ref (s.heap.objs.size + 1) :: us).length = ps.length := by
    have e := r2.length
    rw [F.len _ _ _ _ hq] at e
    exact e.symm
  have hb1 := hb _ (Value.ref (s.heap.objs.size + 1) :: us) I2.kIn (by rw [List.append_nil]; exact hl)
  rw [List.append_nil] at hb1
  refine wpAny_call (make_map (f := f) I.kIn M.makes M.init (beq_iff_eq.mp M.fn) (codeAny_mono (F.run _ X.stack _ _ ⟨Value.ref (s.heap.objs.size + 1) :: us, []⟩ (Value.ref (s.heap.objs.size + 1) :: us) _ _ (E σ) (hr.make C us [])
    (I2.env0.make C us []) hb1 r2 hq) fun r s' hq' => ?_))
  cases r with
  | error e => exact hx pins _ _ e s' I2 hq'
  | ok fl =>
    cases fl with
    | ret u =>
      obtain ⟨v, H', I3, rv, ev, q3⟩ := I2.after hq'
      subst ev
      exact ⟨rv, ⟨V.ref (s.heap.objs.size + 1), H', I3, rfl, q3⟩⟩
    | next => exact False.elim hq'
    | brk => exact False.elim hq'
    | cont => exact False.elim hq'
/-- the reading of a making -/
theorem mk_read {X : Cx} {W : WX} {k f : String} {C : Addr} {σ : L2.St} {φ : Ph} {H : Hp} {A : AH} {ds : List D} {vs : List V} {Q : VK} (hm : X.mg (Str.ofString k) = some (.ref C)) (hr : HR (Gd X) φ H A) (rs : Reps (Gd X) φ H ds vs)
    (o : okG (Gd X) φ H (fun c d H' => W c d σ H') (pV (Gd X) Q) (bnd (cl f (.ref A.length :: ds) (A ++ [.ins k []])) fun r A2 => match r with | .non => .ok (.ref A.length) A2 | _ => .no)) :
    ∀ x dx, H x = none → H dx = none → dx ≠ x → spEv (Gd X) cl f (.ref x :: vs) (upd (upd H dx (.own x)) x (.ins C dx [])) (fun v H2 => v = .non ∧ Q (.ref x) H2) (WE W σ) := by
  intro x dx hx hdx hne
  have x1 : Ext φ H φ (upd H dx (.own x)) := Ext.beside hdx
  have hx1 : upd H dx (.own x) x = none := by rw [upd_ne (Ne.symm hne)]; exact hx
  have hr1 := hr.beside (o := .own x) hdx
  have x2 : Ext φ H (φ ++ [x]) (upd (upd H dx (.own x)) x (.ins C dx [])) := x1.trans (Ext.push hx1)
  have hr2 : HR (Gd X) (φ ++ [x]) (upd (upd H dx (.own x)) x (.ins C dx [])) (A ++ [.ins k []]) := hr1.push hx1 ⟨C, dx, [], rfl, hm, rfl⟩
  have hx2 : (φ ++ [x])[A.length]? = some x := by rw [← hr.len]; simp
  refine ⟨φ ++ [x], A ++ [.ins k []], .ref A.length :: ds, hr2, Reps.cons ⟨x, hx2, rfl⟩ (rs.ext hr x2), ?_⟩
  refine (okG.bnd o).ext x2 |>.imp fun r A3 φ3 H3 e3 hr3 q3 v rv => ?_
  cases r <;> first | (exact q3.elim) | skip
  refine ⟨rv, ?_⟩
  exact q3 φ3 H3 .refl hr3 (.ref x) ⟨x, e3.get hx2, rfl⟩
theorem se_mk (k f : String) {es : Ex} (ih : SE cl es) : SE cl (.mk k f es) := by
  have pe : ∀ {X : Cx} {c : SC} {W : WX} {x : Expr}, CtxOk X c cl W → mt (.mk k f es) c x = true → PE X x (tE (Gd X) cl W (.mk k f es)) := fun {X c W x} ok h => by
    cases x with
    | Call fn xs kws pos =>
      cases fn with
      | Name n np =>
        cases kws with
        | cons => simp [mt] at h
        | nil =>
          have h : (decide (n = Str.ofString k) && decide (k ≠ "super") && glB c.sc n && c.mks.contains (k, f) && mts es c xs) = true := h
          simp only [Bool.and_eq_true, decide_eq_true_eq] at h
          obtain ⟨⟨⟨⟨rfl, _⟩, hg⟩, hf⟩, hx⟩ := h
          obtain ⟨g1, g2, g3⟩ := glB_gl ok hg
          obtain ⟨C, fa, fd, ps, m, hm, M, hb, F, hr⟩ := (ok.mks (k, f) (by simpa using hf)).ex
          refine ⟨fun pins s σ H Q I ⟨φ, F', A, hr', fr', q⟩ => ?_⟩
          have t := tA_go (β := D) (cl := cl) (e := es) (f := fun ds A1 => bnd (cl f (.ref A1.length :: ds) (A1 ++ [.ins k []])) fun r A2 => match r with | .non => .ok (.ref A1.length) A2 | _ => .no) hr' fr' q
          refine wpAny_Call_Name_kw (ld_glob I g1 hm ?_ g2)
          have fin := thn ((ih.pa ok hx).run pos pins s σ H _ I t) fun us s1 ⟨vs, H1, I1, r1, φ1, A1, ds, hr1, fr1, rs1, q1⟩ => (⟨I1.kIn, run_makeS (us := us) M F hr hb (passAt ok.tk σ) I1 r1 (mk_read (σ := σ) hm hr1 rs1 q1)⟩ : X.K.In s1.heap ∧ _)
          cases xs with
          | cons x xs =>
            have hp := mts_plain hx
            simp only [List.all_cons, Bool.and_eq_true] at hp
            exact PySem.W.callWith_K (h₀ := X.base) I.ok.mod.kin M.kp fin (star_plain hp.1) (back_none hp.2)
          | nil =>
            have he : es = .nil := by
              cases es <;> first | rfl | (simp [mts] at hx; done)
            subst he
            obtain ⟨φ3, F3, A3, hr3, fr3, q3⟩ := t
            obtain ⟨φ1, A1, ds, hr1, fr1, rs1, q1⟩ := q3 φ3 H .refl hr3 [] rfl
            exact PySem.W.callWith_K0 I.kIn M.kp (run_makeS (us := []) M F hr hb (passAt ok.tk σ) I .nil (mk_read (σ := σ) hm hr1 rs1 q1))
      | _ => simp [mt] at h
    | _ => simp [mt] at h
  refine SE.of ⟨fun c xs => by simp [mts], fun c ks vs => by simp [mtd], fun c x => by simp [mto], fun c x => by simp [mtc], fun c x t => by simp [mtw]⟩ pe (fun {X c W x} ok h => pt_of (pe ok h) ?_) (fun ok h => by simp [mt] at h)
  cases x <;> first | (exact fun _ => rfl) | (simp [mt] at h; done)

/-! ### methods -/
theorem wpAny_Call_method_ins {prog : Program} {w : World} {A : Around} {E : Value → Shared → Prop} {s : Shared} {env : Env} {o : Expr} {name : Str} {apos pos : Pos} {args : List Expr} {Q : Value → Shared → Prop}
    (hbase : attributeBase o name env (eval o env) = eval o env)
    (hfew : ((backTo pos (starEach args env)).all (fun x => !x.1) && (backToKw pos (keywordEach [] env)).all (fun x => x.1.isSome)
      && decide (args.length + ([] : List Keyword).length + (if ([] : List Keyword).isEmpty then 0 else 1) < 30)) = true)
    (hline : (apos.endLine == pos.line) = true)
    (h : wpAny (model prog w) A (eval o env) (fun ov s₁ => ∀ pl, wpAny (model prog w) A (getMethod ov name pl) (fun fx s₂ => wpAny (model prog w) A (callWith pos fx.1 fx.2 (backTo pos (starEach args env)) (backToKw pos (keywordEach [] env))) Q E s₂) E s₁) E s) :
    wpAny (model prog w) A (eval (.Call (.Attribute o name apos) args [] pos) env) Q E s := by
  rw [arm_eval_Call, hbase]
  refine wpAny_bind (wpAny_mono h (fun ov s₁ h₁ => ?_) fun _ _ e => e)
  refine wpAny_bind (wpAny_standAt ?_)
  first
    | (
       have hform : methodCallForm (args.length + ([] : List Keyword).length) (backTo pos (starEach args env)) (backToKw pos (keywordEach [] env)) = true := hfew
       have hpos : methodCallPos true o env apos pos = pure pos := by unfold methodCallPos; simp [hline]
       unfold methodCall
       rw [hform]
       refine wpAny_bind (wpAny_holding (wpAny_mono (h₁ _) (fun fx s₂ h₂ => ?_) fun _ _ e => e))
       exact wpAny_bind (wpAny_of_eq hpos h₂))
    | (
       unfold methodCall calleeOf methodCallPos methodCallForm
       simp only [hfew, hline, if_true, Bool.not_true, Bool.or_true]
       refine wpAny_bind (wpAny_holding (wpAny_mono (h₁ _) (fun fx s₂ h₂ => ?_) fun _ _ e => e))
       exact h₂)
theorem isMe_of {G : Md} {φ : Ph} {H : Hp} {A : AH} {k m : String} {d : D} {v : V} (hr : HR G φ H A) (r : Rep G φ H d v) (h : isMe A k m d = true) :
    ∃ a C dx vs, v = .ref a ∧ H a = some (.ins C dx vs) ∧ G.mg (Str.ofString k) = some (.ref C) ∧ vs.lookup (Str.ofString m) = none := by
  unfold isMe at h
  split at h
  · rename_i n
    obtain ⟨a, ea, rfl⟩ := r
    split at h
    · rename_i k' fs hA
      simp only [Bool.and_eq_true, decide_eq_true_eq] at h
      obtain ⟨rfl, hn⟩ := h
      obtain ⟨C, dx, vs, e1, g, rf⟩ := hr.ins hA ea
      rcases rf.get (f := m) with ⟨d', w, h1, h2, h3⟩ | ⟨h1, h2⟩
      · rw [h1] at hn; cases hn
      · exact ⟨a, C, dx, vs, rfl, e1, g, h2⟩
    · cases h
  · cases h
theorem se_mc (k m f : String) {o es : Ex} (iho : SE cl o) (ih : SE cl es) : SE cl (.mc k m f o es) := by
  have pe : ∀ {X : Cx} {c : SC} {W : WX} {x : Expr}, CtxOk X c cl W → mt (.mc k m f o es) c x = true → PE X x (tE (Gd X) cl W (.mc k m f o es)) := fun {X c W x} ok h => by
    cases x with
    | Call fn xs kws pos =>
      cases fn with
      | Attribute l n apos =>
        cases kws with
        | cons => simp [mt] at h
        | nil =>
          have h : (decide (n = Str.ofString m) && (apos.endLine == pos.line) && c.meths.contains (k, m, f) && decide (xs.length < 29) && mt o c l && mts es c xs) = true := h
          simp only [Bool.and_eq_true, decide_eq_true_eq] at h
          obtain ⟨⟨⟨⟨⟨rfl, hl⟩, hf⟩, h29⟩, h1⟩, hx⟩ := h
          have hp := mts_plain hx
          obtain ⟨C, fa, fd, ps, kk, hm, hC, hM, hb, F, hrm⟩ := (ok.meths (k, m, f) (by simpa using hf)).ex
          refine ⟨fun pins s σ H Q I ⟨φ, F', A, hr, fr, q⟩ => ?_⟩
          have t := tE_go (β := D) (cl := cl) (e := o) (f := fun x A1 => if isMe A1 k m x then bnd (evs cl es F' A1) fun ds A2 => cl f (x :: ds) A2 else .no) hr fr q
          refine wpAny_Call_method_ins (attr_plain h1) (by simp only [back_all hp, backKw]; simp; omega) hl (thn ((iho.pe ok h1).run pins s σ H _ I t) fun v s1 ⟨x, H1, I1, r1, φ1, A1, d, hr1, fr1, rd, q1⟩ pl => ?_)
          split at q1
          · rename_i hme
            obtain ⟨a, C', dx, vs, rfl, e1, g, hlk⟩ := isMe_of hr1 rd hme
            have hCC : C' = C := by
              have := g.symm.trans hm
              cases this; rfl
            subst hCC
            obtain rfl : v = Value.ref a := r1
            refine getmeth_ok I1 e1 hC hM hlk ?_
            have ta : tA (Gd X) cl W es σ H1 (fun vs H2 => spEv (Gd X) cl f (.ref a :: vs) H2 Q (WE W σ)) := by
              refine ⟨φ1, F', A1, hr1, fr1, (okG.bnd (r := evs cl es F' A1) q1).imp fun ds A2 φ2 H2 e2 hr2 q3 vs rv => ?_⟩
              exact ⟨φ2, A2, d :: ds, hr2, Reps.cons (rd.ext hr1 e2) rv, q3⟩
            have fin := thn ((ih.pa ok hx).run pos pins s1 σ H1 _ I1 ta) fun us s2 ⟨vs, H2, I2, r2, q2⟩ => (⟨I2.kIn, by
              have := run_fnSD (us := .ref a :: us) (vs := .ref a :: vs) (ds := []) (dvs := []) (E := WE W) F hrm hb .nil (passAt ok.tk σ) I2 (.cons rfl r2) (by rw [List.append_nil]; exact q2)
              exact this⟩ : X.K.In s2.heap ∧ _)
            cases xs with
            | cons x xs =>
              simp only [List.all_cons, Bool.and_eq_true] at hp
              exact PySem.W.callWith_K (first := [.ref a]) (h₀ := X.base) I.ok.mod.kin hM.kp fin (star_plain hp.1) (back_none hp.2)
            | nil =>
              have he : es = .nil := by
                cases es <;> first | rfl | (simp [mts] at hx; done)
              subst he
              obtain ⟨φ3, F3, A3, hr3, fr3, q3⟩ := ta
              have q3 := q3 φ3 H1 .refl hr3 [] rfl
              exact PySem.W.callWith_K0 (first := [.ref a]) I1.kIn hM.kp (run_fnSD (us := [.ref a]) (vs := [.ref a]) (ds := []) (dvs := []) (E := WE W) F hrm hb .nil (passAt ok.tk σ) I1 (.cons rfl .nil) (by rw [List.append_nil]; exact q3))
          · exact q1.elim
      | _ => simp [mt] at h
    | _ => simp [mt] at h
  refine SE.of ⟨fun c xs => by simp [mts], fun c ks vs => by simp [mtd], fun c x => by simp [mto], fun c x => by simp [mtc], fun c x t => by simp [mtw]⟩ pe (fun {X c W x} ok h => pt_of (pe ok h) ?_) (fun ok h => by simp [mt] at h)
  cases x <;> first | (exact fun _ => rfl) | (simp [mt] at h; done)
end
end Ev

/-! ## EvSnd8 -/
/-! EvSnd8: comprehensions. -/
namespace Ev
open PySem PySem.Spec PyProof.Rows L2
section
variable {G : Md} {φ φ1 : Ph} {H H1 : Hp} {A : AH}
theorem Ext.own {p : Addr} {ho : HO} (x : Ext φ1 H1 φ H) (hp : H1 p = none) : Ext φ1 H1 φ (upd H p ho) :=
  ⟨x.pre, fun a o e n => by rw [upd_ne (ne_of_none e hp)]; exact x.keep a o e n, x.new, fun a o u e => by rw [upd_ne (ne_of_none e hp)]; exact x.frz a o u e⟩
theorem Ext.addp {p : Addr} (x : Ext φ1 H1 φ H) (hp : H1 p = none) : Ext φ1 H1 (φ ++ [p]) H := by
  obtain ⟨m, e⟩ := x.pre
  refine ⟨⟨m ++ [p], by rw [e, List.append_assoc]⟩, x.keep, fun a h n => ?_, x.frz⟩
  rcases List.mem_append.mp h with h | h
  · exact x.new a h n
  · rw [List.mem_singleton.mp h]; exact hp
/-- what stands and is none of the evaluator's stays so -/
theorem Ext.held {p : Addr} {o : HO} (x : Ext φ1 H1 φ H) (hp : H1 p = some o) (np : p ∉ φ1) : H p = some o ∧ p ∉ φ :=
  ⟨x.keep p o hp np, fun h => by have := x.new p h np; rw [hp] at this; cases this⟩
theorem HR.setM (h : HR G φ H A) {n : Nat} {a : Addr} {o : AO} {ho hq : HO} (hn : φ[n]? = some a) (hq' : H a = some hq) (ns : ¬ Still hq) (r : ORep G φ H o ho) : HR G φ (upd H a ho) (A.set n o) := by
  have x : Mono φ H φ (upd H a ho) := Mono.own hq' ns
  refine ⟨by simp [h.len], h.inj, fun m b ob e1 e2 => ?_⟩
  by_cases hm : m = n
  · subst hm
    rw [hn] at e1; cases e1
    have hl : m < A.length := by rw [← h.len]; exact (List.getElem?_eq_some_iff.mp hn).1
    rw [List.getElem?_set_self hl] at e2
    cases e2
    exact ⟨ho, upd_same, r.mono x⟩
  · rw [List.getElem?_set_ne (Ne.symm hm)] at e2
    obtain ⟨ho', e3, r'⟩ := h.at_ m b ob e1 e2
    refine ⟨ho', ?_, r'.mono x⟩
    rw [upd_ne (show b ≠ a from fun q => hm (h.inj m n a (by rw [← q]; exact e1) hn))]; exact e3
theorem Ext.unlock {a : Addr} {o : Obj} {u v : HO} (x : Ext φ1 (upd H1 a v) φ H) (ha : a ∈ φ1) (nf : NF H1 a) : Ext φ1 H1 φ (upd H a u) := by
  refine ⟨x.pre, fun b ob e n => ?_, fun b h n => ?_, fun b ob w e => ?_⟩
  · have hne : b ≠ a := fun z => n (by rw [z]; exact ha)
    rw [upd_ne hne]
    exact x.keep b ob (by rw [upd_ne hne]; exact e) n
  · have := x.new b h n
    have hne : b ≠ a := fun z => n (by rw [z]; exact ha)
    rw [upd_ne hne] at this
    exact this
  · have hne : b ≠ a := fun z => nf ob w (by rw [← z]; exact e)
    rw [upd_ne hne]
    exact x.frz b ob w (by rw [upd_ne hne]; exact e)
theorem upd_self {p : Addr} {o : HO} (h : H p = some o) : upd H p o = H := by
  funext a
  by_cases e : a = p
  · subst e; rw [upd_same, h]
  · rw [upd_ne e]
end
theorem bnd_assoc {α β γ : Type} {r : Res α} {f : α → AH → Res β} {g : β → AH → Res γ} : bnd (bnd r f) g = bnd r fun a A => bnd (f a A) g := by
  cases r <;> rfl
abbrev WT : Value → Option Addr → Hp → Prop := fun _ _ _ => True
theorem okG.nox {G : Md} {α β : Type} {φ φ1 : Ph} {H H1 : Hp} {W W' : Value → Option Addr → Hp → Prop} {P : β → AH → Ph → Hp → Prop} {r : Res α} {f : α → AH → Res β} (h : okG G φ H W P (Ev.bnd (Ev.nox r) f)) :
    okG G φ1 H1 W' (fun a A _ _ => okG G φ H W P (f a A)) r := by
  cases r with
  | ok a A => exact fun φ' H' e _ => h
  | exc y A => exact h.elim
  | no => exact h.elim
theorem okG.unl {G : Md} {α : Type} {φ φ1 : Ph} {H H1 : Hp} {W : Value → Option Addr → Hp → Prop} {P : α → AH → Ph → Hp → Prop} {r : Res α} {l : Option Nat} (h : okG G φ H W P (unlR l r)) :
    okG G φ1 H1 WT (fun a A _ _ => okG G φ H W P (.ok a (unlockA A l))) r := by
  cases r with
  | ok a A => cases l <;> exact fun φ' H' e _ => h
  | exc y A => exact fun _ _ _ _ _ _ _ => trivial
  | no => cases l <;> exact h
abbrev WF : WX := fun _ _ _ _ => False
def Unl (X : Cx) (Q : VK) : VK := fun v H' => Q v H' ∨ ∃ a o u, H' a = some (.frz o u) ∧ (∀ o' u', X.H_0 a ≠ some (.frz o' u')) ∧ Q v (upd H' a u)
theorem pe_unl {X : Cx} {x : Expr} {t : TE} (h : PE X x t) : PE X x (fun σ H Q => t σ H (Unl X Q)) := by
  refine ⟨fun pins s σ H Q I q => ?_⟩
  refine thn (h.run pins s σ H _ I q) fun v s1 ⟨x, H1, I1, r1, z⟩ => ?_
  rcases z with z | ⟨a, o, u, e, n, z⟩
  · exact ⟨x, H1, I1, r1, z⟩
  · exact ⟨x, _, I1.unlock e n, r1, z⟩
/-- the end of a walk: the lock is opened -/
theorem unl_end {G : Md} {φ1 φ : Ph} {H0 H1 H2 H : Hp} {A A0 : AH} {w : Wk} {W : Value → Option Addr → Hp → Prop} {α : Type} {b : α} {P : α → AH → Ph → Hp → Prop} (hr1 : HR G φ1 H1 A0)
    (c1 : w.lock = none → H2 = H1) (c2 : ∀ n, w.lock = some n → ∃ a o ks, φ1[n]? = some a ∧ H1 a = some (.dK ks) ∧ H2 = upd H1 a (.frz o (.dK ks)) ∧ ∀ o' u', H0 a ≠ some (.frz o' u'))
    (x : Ext φ1 H2 φ H) (hr : HR G φ H A) (q : okG G φ1 H1 W P (.ok b (unlockA A w.lock))) :
    (w.lock = none ∧ P b A φ H) ∨ ∃ a o u n kvs, w.lock = some n ∧ H a = some (.frz o u) ∧ (∀ o' u', H0 a ≠ some (.frz o' u')) ∧ a ∈ φ ∧ ¬ Still (.frz o u) ∧ HR G φ (upd H a u) (A.set n (.dct kvs)) ∧ Mono φ H φ (upd H a u) ∧ P b (A.set n (.dct kvs)) φ (upd H a u) := by
  cases e : w.lock with
  | none =>
    rw [e] at q
    rw [c1 e] at x
    exact .inl ⟨rfl, q φ H x hr⟩
  | some n =>
    obtain ⟨a, o, ks, ea, hH, rfl, nf⟩ := c2 n e
    have hf : H a = some (.frz o (.dK ks)) := x.frz _ _ _ upd_same
    obtain ⟨kvs, hA⟩ : ∃ kvs, A[n]? = some (.lk kvs) := by
      have hn : n < A.length := by rw [← hr.len]; exact (List.getElem?_eq_some_iff.mp (x.get ea)).1
      obtain ⟨ho, e3, r⟩ := hr.at_ n a _ (x.get ea) (List.getElem?_eq_getElem hn)
      rw [hf] at e3
      cases e3
      cases ho : A[n] with
      | lst ds => rw [ho] at r; obtain ⟨vs, z, _⟩ := r; cases z
      | dct ds => rw [ho] at r; obtain ⟨vs, z, _⟩ := r; cases z
      | lk kvs => exact ⟨kvs, by rw [List.getElem?_eq_getElem hn, ho]⟩
      | ins c fs => rw [ho] at r; obtain ⟨_, _, _, z, _⟩ := r; cases z
    obtain ⟨ho, e3, o', ks', rfl, rk⟩ := hr.at_ n a _ (x.get ea) hA
    rw [hf] at e3
    cases e3
    have ma : a ∈ φ := List.mem_of_getElem? (x.get ea)
    have h2 : HR G φ (upd H a (.dK ks)) (A.set n (.dct kvs)) := hr.setM (x.get ea) hf (fun z => z) ⟨ks, rfl, rk⟩
    have hu : unlockA A w.lock = A.set n (.dct kvs) := by
      rw [e]
      show (match A[n]? with | some (.lk kvs) => A.set n (.dct kvs) | _ => A) = _
      rw [hA]
    rw [hu] at q
    exact .inr ⟨a, o, _, n, kvs, rfl, hf, nf, ma, fun z => z, h2, Mono.own hf (fun z => z), q φ _ (x.unlock (o := o) (List.mem_of_getElem? ea) (.dK hH)) h2⟩
theorem gOk_mem {A : AH} {g : Guard} (h : gOk A g = true) {n : Nat} {o : AO} (m : (n, o) ∈ g) : A[n]? = some o := by
  have := List.all_eq_true.mp h _ m
  simpa using this
/-- a walk with a lock guards it -/
def WkLk (w : Wk) : Prop := ∀ n, w.lock = some n → ∃ kvs, (n, AO.lk kvs) ∈ w.g
section
variable {cl : Cl}
abbrev finL : List D → AH → Res D := fun ds A2 => .ok (.ref A2.length) (A2 ++ [.lst ds])
abbrev finK : List (D × D) → AH → Res D := fun ds A2 => .ok (.ref A2.length) (A2 ++ [.dct ds])
/-- the loop of a list comprehension -/
theorem lc_read {X : Cx} {W : WX} {t : Tg} {it cd e : Ex} {own : List Nat} {σ : L2.St} {H : Hp} {Q : VK} (ht : ∀ i ∈ tgSlots t, i ∈ own) (hlk : ∀ F A w A', evw cl it F A = .ok w A' → WkLk w)
    (h : tE (Gd X) cl W (.lc t it cd e own) σ H Q) : tLc (iW X cl W it) (gE (Gd X) t) (tCd (Gd X) cl WF cd) (tE (Gd X) cl WF e) own σ H (Unl X Q) := by
  obtain ⟨φ, F, A, hr, fr, q⟩ := h
  refine ⟨φ, F, A, hr, fr, (okG.bnd (α := Wk) (r := evw cl it F A) q).imp' fun w A1 φ1 H1 ew e1 hr1 q1 H2 J c1 c2 hr2 wk La hD => ?_⟩
  have wlk := hlk _ _ _ _ ew
  have x2 : Ext φ1 H1 φ1 H2 := by
    cases el : w.lock with
    | none => rw [c1 el]; exact .refl
    | some n =>
      obtain ⟨a, o, ks, ea, hH, rfl, _⟩ := c2 n el
      exact Ext.set (List.mem_of_getElem? ea) (.dK hH)
  generalize hbody : (fun F' A' => Ev.nox (bnd (evc cl cd F' A') fun b A2 => if b = true then bnd (ev cl e F' A2) fun y A3 => .ok (some y) A3 else .ok none A2)) = body at q1
  generalize hP2 : (fun (d : D) A' (_ : Ph) (_ : Hp) => okG (Gd X) φ1 H1 (fun c d H' => W c d σ H') (pV (Gd X) Q) (.ok d (unlockA A' w.lock))) = P2
  have q2 : okG (Gd X) φ1 H2 WT P2 (bnd (lcL (asgT t) w.g body (wipeF F own) w.items [] (lockA A1 w.lock)) finL) := by
    rw [← hP2]
    exact okG.unl q1
  have np0 : La ∉ φ1 := hr2.notMemN hD
  have fr2 : FR (Gd X) φ1 H2 (wipeF F own) (L2.wipe σ own) := ((fr.ext hr e1).ext hr1 x2).wipe own
  refine ⟨fun i m H => m = w.items.length - i ∧ i ≤ w.items.length ∧ ∃ φ A acc vs, Ext φ1 H2 φ H ∧ HR (Gd X) φ H A ∧ La ∉ φ ∧ H La = some (.lst vs) ∧ Reps (Gd X) φ H acc vs ∧ FR (Gd X) φ H (wipeF F own) (L2.wipe σ own) ∧
    okG (Gd X) φ1 H2 WT P2 (bnd (lcL (asgT t) w.g body (wipeF F own) (w.items.drop i) acc A) finL),
    ⟨_, rfl, Nat.zero_le _, φ1, _, [], [], Ext.beside hD, hr2.beside hD, np0, upd_same, rfl, fr2.ext hr2 (Ext.beside hD), q2⟩, ?_⟩
  rintro i m H3 ⟨rfl, hi, φ3, A3, acc, vs, x3, hr3, np3, hD3, rs3, fr3, q3⟩
  have hlk : gOk A3 w.g = true := by
    cases hg : gOk A3 w.g with
    | true => rfl
    | false =>
      exfalso
      cases hd : w.items.drop i with
      | nil => rw [hd] at q3; unfold lcL at q3; rw [if_neg (by rw [hg]; exact Bool.false_ne_true)] at q3; exact q3
      | cons d r => rw [hd] at q3; unfold lcL at q3; rw [if_neg (by rw [hg]; exact Bool.false_ne_true)] at q3; exact q3
  by_cases hlt : i < w.items.length
  · have hd : w.items.drop i = w.items[i] :: w.items.drop (i + 1) := List.drop_eq_getElem_cons hlt
    obtain ⟨go, yld⟩ := wk.step φ3 H3 A3 i _ x3 hr3 hlk (List.getElem?_eq_getElem hlt)
    refine .inr ⟨go, fun H4 => ∃ φ4 A4 acc4 vs4, Ext φ1 H2 φ4 H4 ∧ HR (Gd X) φ4 H4 A4 ∧ La ∉ φ4 ∧ H4 La = some (.lst vs4) ∧ Reps (Gd X) φ4 H4 acc4 vs4 ∧ FR (Gd X) φ4 H4 (wipeF F own) (L2.wipe σ own) ∧
      okG (Gd X) φ1 H2 WT P2 (bnd (lcL (asgT t) w.g body (wipeF F own) (w.items.drop (i + 1)) acc4 A4) finL),
      fun H' z => ⟨_, by omega, rfl, hlt, z⟩, fun x H4 hy => ?_⟩
    obtain ⟨x4, hr4, rx⟩ := yld x H4 hy
    rw [hd] at q3
    unfold lcL at q3
    rw [if_pos hlk] at q3
    split at q3
    · rename_i F' ha
      rw [← hbody] at q3
      simp only [bnd_assoc] at q3
      rw [hbody] at q3
      refine ⟨φ3, _, A3, _, F', hr4, fr3.ext hr3 x4, rx, ha, fun σ' frσ ag => ⟨wipe_agree ag ht, ?_⟩⟩
      have q4 := okG.nox (φ1 := φ3) (H1 := H4) (W' := fun c d H' => WF c d σ' H') q3
      refine ⟨φ3, F', A3, hr4, frσ, q4.bnd.imp fun b A5 φ5 H5 e5 hr5 q5 => ?_⟩
      have x5 : Ext φ1 H2 φ5 H5 := (x3.trans x4).trans e5
      have x35 : Ext φ3 H3 φ5 H5 := x4.trans e5
      obtain ⟨hD5, np5⟩ := x35.held hD3 np3
      cases b with
      | false =>
        have q5 := q5 φ5 H5 .refl hr5
        exact ⟨φ5, A5, acc, vs, x5, hr5, np5, hD5, rs3.ext hr3 x35, fr3.ext hr3 x35, q5⟩
      | true =>
        refine ⟨φ5, F', A5, hr5, frσ.ext hr4 e5, (okG.bnd q5).imp fun y A6 φ6 H6 e6 hr6 q6 v rv => ?_⟩
        have q6 := q6 φ6 H6 .refl hr6
        have x6 : Ext φ1 H2 φ6 H6 := x5.trans e6
        have x36 : Ext φ3 H3 φ6 H6 := x35.trans e6
        obtain ⟨hD6, np6⟩ := x36.held hD3 np3
        have rs6 := rs3.ext hr3 x36
        by_cases hz : acc.length < sizeLine
        · simp only [if_pos hz] at q6
          have mo : Mono φ6 H6 φ6 (upd H6 La (.lst (vs ++ [v]))) := Mono.own hD6 (fun z => z)
          exact ⟨vs, hD6, by rw [rs6.length]; exact hz, φ6, A6, acc ++ [y], vs ++ [v], x6.own hD, hr6.own hD6 (fun z => z) np6, np6, upd_same, Reps.mono mo _ _ (rs6.append (.cons rv .nil)), (fr3.ext hr3 x36).mono mo, q6⟩
        · simp only [if_neg hz] at q6; exact q6.elim
    · exact q3.elim
  · have hi' : i = w.items.length := by omega
    subst hi'
    refine .inl ⟨wk.stop φ3 H3 A3 x3 hr3 hlk, ?_⟩
    rw [List.drop_length] at q3
    unfold lcL at q3
    rw [if_pos hlk] at q3
    have hrF : HR (Gd X) (φ3 ++ [La]) H3 (A3 ++ [.lst acc]) := by
      have := hr3.lay (o := .lst acc) (ho := .lst vs) hD3 (fun z => z) np3 ⟨vs, rfl, rs3⟩
      rw [upd_self hD3] at this
      exact this
    have xF : Ext φ1 H2 (φ3 ++ [La]) H3 := x3.addp hD
    have q4 := q3 (φ3 ++ [La]) H3 xF hrF
    rw [← hP2] at q4
    have hDn : (φ3 ++ [La])[A3.length]? = some La := by rw [← hr3.len]; simp
    rcases unl_end (w := w) hr1 c1 c2 xF hrF q4 with ⟨_, z⟩ | ⟨a, o, u, n, kvs, en, hf, nf, ma, ns, h2, mo, z⟩
    · exact .inl (z (.ref La) ⟨La, hDn, rfl⟩)
    · exact .inr ⟨a, o, u, hf, nf, z (.ref La) ⟨La, hDn, rfl⟩⟩
/-- the loop of a dict comprehension -/
theorem dc_read {X : Cx} {W : WX} {t : Tg} {it cd ek e : Ex} {own : List Nat} {σ : L2.St} {H : Hp} {Q : VK} (ht : ∀ i ∈ tgSlots t, i ∈ own) (hlk : ∀ F A w A', evw cl it F A = .ok w A' → WkLk w)
    (h : tE (Gd X) cl W (.dc t it cd ek e own) σ H Q) : tDc (iW X cl W it) (gE (Gd X) t) (tCd (Gd X) cl WF cd) (tE (Gd X) cl WF ek) (tE (Gd X) cl WF e) own σ H (Unl X Q) := by
  obtain ⟨φ, F, A, hr, fr, q⟩ := h
  refine ⟨φ, F, A, hr, fr, (okG.bnd (α := Wk) (r := evw cl it F A) q).imp' fun w A1 φ1 H1 ew e1 hr1 q1 H2 J c1 c2 hr2 wk La hD => ?_⟩
  have wlk := hlk _ _ _ _ ew
  have x2 : Ext φ1 H1 φ1 H2 := by
    cases el : w.lock with
    | none => rw [c1 el]; exact .refl
    | some n =>
      obtain ⟨a, o, ks, ea, hH, rfl, _⟩ := c2 n el
      exact Ext.set (List.mem_of_getElem? ea) (.dK hH)
  generalize hbody : (fun F' A' => Ev.nox (bnd (evc cl cd F' A') fun b A2 => if b = true then bnd (ev cl ek F' A2) fun x A3 => bnd (ev cl e F' A3) fun y A4 => .ok (some (x, y)) A4 else .ok none A2)) = body at q1
  generalize hP2 : (fun (d : D) A' (_ : Ph) (_ : Hp) => okG (Gd X) φ1 H1 (fun c d H' => W c d σ H') (pV (Gd X) Q) (.ok d (unlockA A' w.lock))) = P2
  have q2 : okG (Gd X) φ1 H2 WT P2 (bnd (dcL (asgT t) w.g body (wipeF F own) w.items [] (lockA A1 w.lock)) finK) := by
    rw [← hP2]
    exact okG.unl q1
  have np0 : La ∉ φ1 := hr2.notMemN hD
  have fr2 : FR (Gd X) φ1 H2 (wipeF F own) (L2.wipe σ own) := ((fr.ext hr e1).ext hr1 x2).wipe own
  refine ⟨fun i m H => m = w.items.length - i ∧ i ≤ w.items.length ∧ ∃ φ A acc vs, Ext φ1 H2 φ H ∧ HR (Gd X) φ H A ∧ La ∉ φ ∧ H La = some (.dK vs) ∧ KReps (Gd X) φ H acc vs ∧ FR (Gd X) φ H (wipeF F own) (L2.wipe σ own) ∧
    okG (Gd X) φ1 H2 WT P2 (bnd (dcL (asgT t) w.g body (wipeF F own) (w.items.drop i) acc A) finK),
    ⟨_, rfl, Nat.zero_le _, φ1, _, [], [], Ext.beside hD, hr2.beside hD, np0, upd_same, rfl, fr2.ext hr2 (Ext.beside hD), q2⟩, ?_⟩
  rintro i m H3 ⟨rfl, hi, φ3, A3, acc, vs, x3, hr3, np3, hD3, rs3, fr3, q3⟩
  have hlk : gOk A3 w.g = true := by
    cases hg : gOk A3 w.g with
    | true => rfl
    | false =>
      exfalso
      cases hd : w.items.drop i with
      | nil => rw [hd] at q3; unfold dcL at q3; rw [if_neg (by rw [hg]; exact Bool.false_ne_true)] at q3; exact q3
      | cons d r => rw [hd] at q3; unfold dcL at q3; rw [if_neg (by rw [hg]; exact Bool.false_ne_true)] at q3; exact q3
  by_cases hlt : i < w.items.length
  · have hd : w.items.drop i = w.items[i] :: w.items.drop (i + 1) := List.drop_eq_getElem_cons hlt
    obtain ⟨go, yld⟩ := wk.step φ3 H3 A3 i _ x3 hr3 hlk (List.getElem?_eq_getElem hlt)
    refine .inr ⟨go, fun H4 => ∃ φ4 A4 acc4 vs4, Ext φ1 H2 φ4 H4 ∧ HR (Gd X) φ4 H4 A4 ∧ La ∉ φ4 ∧ H4 La = some (.dK vs4) ∧ KReps (Gd X) φ4 H4 acc4 vs4 ∧ FR (Gd X) φ4 H4 (wipeF F own) (L2.wipe σ own) ∧
      okG (Gd X) φ1 H2 WT P2 (bnd (dcL (asgT t) w.g body (wipeF F own) (w.items.drop (i + 1)) acc4 A4) finK),
      fun H' z => ⟨_, by omega, rfl, hlt, z⟩, fun x H4 hy => ?_⟩
    obtain ⟨x4, hr4, rx⟩ := yld x H4 hy
    rw [hd] at q3
    unfold dcL at q3
    rw [if_pos hlk] at q3
    split at q3
    · rename_i F' ha
      rw [← hbody] at q3
      simp only [bnd_assoc] at q3
      rw [hbody] at q3
      refine ⟨φ3, _, A3, _, F', hr4, fr3.ext hr3 x4, rx, ha, fun σ' frσ ag => ⟨wipe_agree ag ht, ?_⟩⟩
      have q4 := okG.nox (φ1 := φ3) (H1 := H4) (W' := fun c d H' => WF c d σ' H') q3
      refine ⟨φ3, F', A3, hr4, frσ, q4.bnd.imp fun b A5 φ5 H5 e5 hr5 q5 => ?_⟩
      have x5 : Ext φ1 H2 φ5 H5 := (x3.trans x4).trans e5
      have x35 : Ext φ3 H3 φ5 H5 := x4.trans e5
      obtain ⟨hD5, np5⟩ := x35.held hD3 np3
      cases b with
      | false =>
        have q5 := q5 φ5 H5 .refl hr5
        exact ⟨φ5, A5, acc, vs, x5, hr5, np5, hD5, rs3.ext hr3 x35, fr3.ext hr3 x35, q5⟩
      | true =>
        refine ⟨φ5, F', A5, hr5, frσ.ext hr4 e5, (okG.bnd q5).imp fun y A6 φ6 H6 e6 hr6 q6 v rv => ?_⟩
        refine ⟨φ6, F', A6, hr6, (frσ.ext hr4 e5).ext hr5 e6, (okG.bnd q6).imp fun y2 A7 φ7 H7 e7 hr7 q7 v2 rv2 => ?_⟩
        have q7 := q7 φ7 H7 .refl hr7
        have x7 : Ext φ1 H2 φ7 H7 := (x5.trans e6).trans e7
        have x37 : Ext φ3 H3 φ7 H7 := (x35.trans e6).trans e7
        obtain ⟨hD7, np7⟩ := x37.held hD3 np3
        have rs7 := rs3.ext hr3 x37
        by_cases hz : (decide (acc.length < sizeLine) && keyOk y) = true
        · simp only [if_pos hz] at q7
          simp only [Bool.and_eq_true, decide_eq_true_eq] at hz
          obtain ⟨j, rfl, kr⟩ := KR.key hz.2 rv
          have mo : Mono φ7 H7 φ7 (upd H7 La (.dK (putK vs j v2))) := Mono.own hD7 (fun z => z)
          exact ⟨vs, j, rfl, hD7, by rw [rs7.length]; exact hz.1, φ7, A7, dput acc y y2, putK vs j v2, x7.own hD, hr7.own hD7 (fun z => z) np7, np7, upd_same, KReps.mono mo _ _ (rs7.put kr rv2), (fr3.ext hr3 x37).mono mo, q7⟩
        · simp only [if_neg hz] at q7; exact q7.elim
    · exact q3.elim
  · have hi' : i = w.items.length := by omega
    subst hi'
    refine .inl ⟨wk.stop φ3 H3 A3 x3 hr3 hlk, ?_⟩
    rw [List.drop_length] at q3
    unfold dcL at q3
    rw [if_pos hlk] at q3
    have hrF : HR (Gd X) (φ3 ++ [La]) H3 (A3 ++ [.dct acc]) := by
      have := hr3.lay (o := .dct acc) (ho := .dK vs) hD3 (fun z => z) np3 ⟨vs, rfl, rs3⟩
      rw [upd_self hD3] at this
      exact this
    have xF : Ext φ1 H2 (φ3 ++ [La]) H3 := x3.addp hD
    have q4 := q3 (φ3 ++ [La]) H3 xF hrF
    rw [← hP2] at q4
    have hDn : (φ3 ++ [La])[A3.length]? = some La := by rw [← hr3.len]; simp
    rcases unl_end (w := w) hr1 c1 c2 xF hrF q4 with ⟨_, z⟩ | ⟨a, o, u, n, kvs, en, hf, nf, ma, ns, h2, mo, z⟩
    · exact .inl (z (.ref La) ⟨La, hDn, rfl⟩)
    · exact .inr ⟨a, o, u, hf, nf, z (.ref La) ⟨La, hDn, rfl⟩⟩

/-! ### comprehensions -/
theorem CtxOk.blk {X : Cx} {c : SC} {W : WX} {scope : Scope} {own : List (Str × Nat)} (ok : CtxOk X c cl W) (hb : BlkOk X.N X.env.scope scope own) (s : Shared) (H : Hp) (C : Addr) (clo : List (Str × Addr)) (fp : List Addr) :
    CtxOk (X.blk s H scope (compEnvC scope clo C X.env) fp) (c.blk scope) cl WF where
  N := ok.N
  nd := ok.nd
  sc := by
    show relS scope X.env.scope = relS scope c.sc
    rw [ok.sc]
  calm := ok.calm
  kd := hb.kind
  hu := ok.hu
  tk := fun u s' ⟨_, _, _, _, _, _, _, _, _, _, _, _, _, _, _, _, w⟩ => w
  ps := PassesOwn.never
  fb := ok.fb
  bn := ok.bn
  sto := fun x hx => by
    obtain ⟨y, hy, rfl⟩ := List.mem_map.mp (show x ∈ (scope.names.filter fun y => y.2 == .local || y.2 == .cell).map (·.1) from hx)
    obtain ⟨h1, h2⟩ := List.mem_filter.mp hy
    have h3 := hb.uniq y h1
    simp only [Bool.or_eq_true, beq_iff_eq] at h2
    rcases h2 with h2 | h2
    · rw [h2] at h3
      have := lookup_relS_keep (sc := X.env.scope) (by decide) h3
      exact ⟨.inl this, .inr this⟩
    · rw [h2] at h3
      have := lookup_relS_keep (sc := X.env.scope) (by decide) h3
      refine ⟨.inr this, .inl ?_⟩
      show (scope.names.lookup y.1 == some NameKind.cell) = true
      rw [h3]; rfl
  calls := ok.calls
  csts := ok.csts
  mks := ok.mks
  meths := ok.meths
  tab := ok.tab
  rm := ok.rm
theorem evw_lk {it : Ex} {F : Fr} {A A' : AH} {w : Wk} (h : evw cl it F A = .ok w A') : WkLk w := by
  have go : ∀ {A : AH} {d : D} {w : Wk}, wkOf A d = some w → WkLk w := fun {A d w} h n hn => by
    unfold wkOf at h
    split at h
    · cases h; cases hn
    · cases h; cases hn
    · split at h
      · cases h; cases hn
      · cases h; cases hn; exact ⟨_, List.mem_singleton.mpr rfl⟩
      · cases h
    · cases h
  have nn : ∀ {w : Wk}, w.lock = none → WkLk w := fun h n hn => by rw [h] at hn; cases hn
  cases it <;> first | (cases h; done) | skip
  · rename_i e
    have h : (bnd (ev cl e F A) fun x A1 => ofO (wkOf A1 x) A1) = .ok w A' := h
    cases e1 : ev cl e F A with
    | ok x A1 =>
      rw [e1] at h
      have h : ofO (wkOf A1 x) A1 = .ok w A' := h
      cases e2 : wkOf A1 x with
      | some w' => rw [e2] at h; cases h; exact go e2
      | none => rw [e2] at h; cases h
    | exc => rw [e1] at h; cases h
    | no => rw [e1] at h; cases h
  · rename_i e
    have h : (bnd (ev cl e F A) fun x A1 => ofO (wkEnum A1 x) A1) = .ok w A' := h
    cases e1 : ev cl e F A with
    | ok x A1 =>
      rw [e1] at h
      have h : ofO (wkEnum A1 x) A1 = .ok w A' := h
      cases e2 : wkEnum A1 x with
      | some w' => rw [e2] at h; cases h; obtain ⟨u, _, _, rfl⟩ := wk_none (xs := []) (g := []) e2; exact nn rfl
      | none => rw [e2] at h; cases h
    | exc => rw [e1] at h; cases h
    | no => rw [e1] at h; cases h
  · rename_i e e'
    have h : (bnd (ev cl e F A) fun x A1 => bnd (ev cl e' F A1) fun y A2 => ofO (wkZip A2 x y) A2) = .ok w A' := h
    cases e1 : ev cl e F A with
    | ok x A1 =>
      rw [e1] at h
      have h : (bnd (ev cl e' F A1) fun y A2 => ofO (wkZip A2 x y) A2) = .ok w A' := h
      cases e3 : ev cl e' F A1 with
      | ok y A2 =>
        rw [e3] at h
        have h : ofO (wkZip A2 x y) A2 = .ok w A' := h
        cases e2 : wkZip A2 x y with
        | some w' => rw [e2] at h; cases h; obtain ⟨u, v, _, _, _, _, rfl⟩ := wk_none2 e2; exact nn rfl
        | none => rw [e2] at h; cases h
      | exc => rw [e3] at h; cases h
      | no => rw [e3] at h; cases h
    | exc => rw [e1] at h; cases h
    | no => rw [e1] at h; cases h
  · rename_i es
    have h : (bnd (evs cl es F A) fun ds A1 => ofO (wkRng ds) A1) = .ok w A' := h
    cases e1 : evs cl es F A with
    | ok ds A1 =>
      rw [e1] at h
      have h : ofO (wkRng ds) A1 = .ok w A' := h
      cases e2 : wkRng ds with
      | some w' =>
        rw [e2] at h; cases h
        unfold wkRng at e2
        split at e2 <;> first | (cases e2; done) | skip
        all_goals
          split at e2
          · cases e2; exact nn rfl
          · cases e2
      | none => rw [e2] at h; cases h
    | exc => rw [e1] at h; cases h
    | no => rw [e1] at h; cases h
theorem mtw_plain {it : Ex} {c : SC} {x tg : Expr} (h : mtw it c x tg = true) : plainB x = true := by
  cases it <;> first | (simp [mtw] at h; done) | skip
  · exact mt_plain (show mt _ c x = true from h)
  all_goals
    cases x <;> first | rfl | (simp [mtw] at h; done)
theorem se_lc {t : Tg} {it cd e : Ex} {own : List Nat} (ihi : SE cl it) (ihc : SE cl cd) (ihe : SE cl e) : SE cl (.lc t it cd e own) := by
  have pe : ∀ {X : Cx} {c : SC} {W : WX} {x : Expr}, CtxOk X c cl W → mt (.lc t it cd e own) c x = true → PE X x (tE (Gd X) cl W (.lc t it cd e own)) := fun {X c W x} ok h => by
    cases x with
    | ListComp l gs scope pos =>
      rcases gs with _ | ⟨⟨tg, iter, ifs, k⟩, _ | _⟩ <;> first | (simp [mt] at h; done) | skip
      have h : (decide (k = 0) && blkC c.N c.sc scope (ownB c.N own) && decide ((ownB c.N own).map (·.2) = own) && (tgSlots t).all own.contains && mtw it c iter tg && mtt t (c.blk scope) tg && mtc cd (c.blk scope) ifs && mt e (c.blk scope) l) = true := h
      simp only [Bool.and_eq_true, decide_eq_true_eq] at h
      obtain ⟨⟨⟨⟨⟨⟨⟨rfl, hb⟩, ho⟩, ht⟩, h1⟩, h2⟩, h3⟩, h4⟩ := h
      have hb : BlkOk X.N X.env.scope scope (ownB c.N own) := blkOk_by (by rw [ok.N, ok.sc]; exact hb)
      have ht : ∀ i ∈ tgSlots t, i ∈ own := fun i hi => by simpa using List.all_eq_true.mp ht i hi
      refine pe_imp (pe_unl (pe_lc (g := gE (Gd X) t) (tt := tCd (Gd X) cl WF cd) (te := tE (Gd X) cl WF e) ok.calm (by rw [ok.N]; exact ok.nd) (ihi.pi ok h1) hb (fun s H C clo fp => pg_of (ok.blk hb s H C clo fp) h2) (fun s H C clo fp => ihc.pc (ok.blk hb s H C clo fp) h3) (fun s H C clo fp => ihe.pe (ok.blk hb s H C clo fp) h4) ?_)) fun σ H Q q => ?_
      · exact fun x => folded_plain (mtw_plain h1)
      · rw [ho]
        exact lc_read ht (fun F A w A' h => evw_lk h) q
    | _ => simp [mt] at h
  refine SE.of ⟨fun c xs => by simp [mts], fun c ks vs => by simp [mtd], fun c x => by simp [mto], fun c x => by simp [mtc], fun c x t => by simp [mtw]⟩ pe (fun {X c W x} ok h => pt_of (pe ok h) ?_) (fun ok h => by simp [mt] at h)
  cases x <;> first | (exact fun _ => rfl) | (simp [mt] at h; done)
theorem se_dc {t : Tg} {it cd ek e : Ex} {own : List Nat} (ihi : SE cl it) (ihc : SE cl cd) (ihk : SE cl ek) (ihe : SE cl e) : SE cl (.dc t it cd ek e own) := by
  have pe : ∀ {X : Cx} {c : SC} {W : WX} {x : Expr}, CtxOk X c cl W → mt (.dc t it cd ek e own) c x = true → PE X x (tE (Gd X) cl W (.dc t it cd ek e own)) := fun {X c W x} ok h => by
    cases x with
    | DictComp kx l gs scope pos =>
      rcases gs with _ | ⟨⟨tg, iter, ifs, k⟩, _ | _⟩ <;> first | (simp [mt] at h; done) | skip
      have h : (decide (k = 0) && blkC c.N c.sc scope (ownB c.N own) && decide ((ownB c.N own).map (·.2) = own) && (tgSlots t).all own.contains && mtw it c iter tg && mtt t (c.blk scope) tg && mtc cd (c.blk scope) ifs && mt ek (c.blk scope) kx && mt e (c.blk scope) l) = true := h
      simp only [Bool.and_eq_true, decide_eq_true_eq] at h
      obtain ⟨⟨⟨⟨⟨⟨⟨⟨rfl, hb⟩, ho⟩, ht⟩, h1⟩, h2⟩, h3⟩, hk⟩, h4⟩ := h
      have hb : BlkOk X.N X.env.scope scope (ownB c.N own) := blkOk_by (by rw [ok.N, ok.sc]; exact hb)
      have ht : ∀ i ∈ tgSlots t, i ∈ own := fun i hi => by simpa using List.all_eq_true.mp ht i hi
      refine pe_imp (pe_unl (pe_dc (g := gE (Gd X) t) (tt := tCd (Gd X) cl WF cd) (tk := tE (Gd X) cl WF ek) (tv := tE (Gd X) cl WF e) ok.calm (by rw [ok.N]; exact ok.nd) (ihi.pi ok h1) hb (fun s H C clo fp => pg_of (ok.blk hb s H C clo fp) h2) (fun s H C clo fp => ihc.pc (ok.blk hb s H C clo fp) h3) (fun s H C clo fp => ihk.pe (ok.blk hb s H C clo fp) hk) (fun s H C clo fp => ihe.pe (ok.blk hb s H C clo fp) h4) ?_)) fun σ H Q q => ?_
      · exact fun x => folded_plain (mtw_plain h1)
      · rw [ho]
        exact dc_read ht (fun F A w A' h => evw_lk h) q
    | _ => simp [mt] at h
  refine SE.of ⟨fun c xs => by simp [mts], fun c ks vs => by simp [mtd], fun c x => by simp [mto], fun c x => by simp [mtc], fun c x t => by simp [mtw]⟩ pe (fun {X c W x} ok h => pt_of (pe ok h) ?_) (fun ok h => by simp [mt] at h)
  cases x <;> first | (exact fun _ => rfl) | (simp [mt] at h; done)

theorem se_both : ∀ e : Ex, SE cl e ∧ ∀ b s, e = .cons b s → SE cl b ∧ SE cl s
  | .var i => ⟨se_var i, fun _ _ h => by cases h⟩
  | .int i => ⟨se_int i, fun _ _ h => by cases h⟩
  | .str s => ⟨se_str s, fun _ _ h => by cases h⟩
  | .bl b => ⟨se_bl b, fun _ _ h => by cases h⟩
  | .non => ⟨se_non, fun _ _ h => by cases h⟩
  | .gl x => ⟨se_gl x, fun _ _ h => by cases h⟩
  | .cst x d => ⟨se_cst x d, fun _ _ h => by cases h⟩
  | .tup es => ⟨se_tup (se_both es).1, fun _ _ h => by cases h⟩
  | .lst es => ⟨se_lst (se_both es).1, fun _ _ h => by cases h⟩
  | .dct es => ⟨se_dct (se_both es).1, fun _ _ h => by cases h⟩
  | .nil => ⟨se_nil, fun _ _ h => by cases h⟩
  | .cons a r => ⟨se_cons (se_both a).1 (se_both r).1 (se_both r).2, fun b s h => by cases h; exact ⟨(se_both a).1, (se_both r).1⟩⟩
  | .op o a b => ⟨se_op o (se_both a).1 (se_both b).1, fun _ _ h => by cases h⟩
  | .neg a => ⟨se_neg (se_both a).1, fun _ _ h => by cases h⟩
  | .cmp o a b => ⟨se_cmp o (se_both a).1 (se_both b).1, fun _ _ h => by cases h⟩
  | .chn o p a b c => ⟨se_chn o p (se_both a).1 (se_both b).1 (se_both c).1, fun _ _ h => by cases h⟩
  | .and a b => ⟨se_and (se_both a).1 (se_both b).1, fun _ _ h => by cases h⟩
  | .or a b => ⟨se_or (se_both a).1 (se_both b).1, fun _ _ h => by cases h⟩
  | .not a => ⟨se_not (se_both a).1, fun _ _ h => by cases h⟩
  | .ite c a b => ⟨se_ite (se_both c).1 (se_both a).1 (se_both b).1, fun _ _ h => by cases h⟩
  | .ix a i => ⟨se_ix (se_both a).1 (se_both i).1, fun _ _ h => by cases h⟩
  | .sl a lo hi => ⟨se_sl (se_both a).1 (se_both lo).1 (se_both hi).1, fun _ _ h => by cases h⟩
  | .call f es => ⟨se_call f (se_both es).1, fun _ _ h => by cases h⟩
  | .bi f es => ⟨se_bi f (se_both es).1, fun _ _ h => by cases h⟩
  | .mth m o es => ⟨se_mth m (se_both o).1 (se_both es).1, fun _ _ h => by cases h⟩
  | .lc t it c e own => ⟨se_lc (se_both it).1 (se_both c).1 (se_both e).1, fun _ _ h => by cases h⟩
  | .dc t it c k v own => ⟨se_dc (se_both it).1 (se_both c).1 (se_both k).1 (se_both v).1, fun _ _ h => by cases h⟩
  | .fld a k f => ⟨se_fld k f (se_both a).1, fun _ _ h => by cases h⟩
  | .mk k f es => ⟨se_mk k f (se_both es).1, fun _ _ h => by cases h⟩
  | .mc k m f o es => ⟨se_mc k m f (se_both o).1 (se_both es).1, fun _ _ h => by cases h⟩
  | .wk e => ⟨se_wk (se_both e).1, fun _ _ h => by cases h⟩
  | .enm e => ⟨se_enm (se_both e).1, fun _ _ h => by cases h⟩
  | .zip a b => ⟨se_zip (se_both a).1 (se_both b).1, fun _ _ h => by cases h⟩
  | .rng es => ⟨se_rng (se_both es).1, fun _ _ h => by cases h⟩
theorem se_all (e : Ex) : SE cl e := (se_both e).1
end
end Ev

/-! ## EvSt -/
/-! EvSt: statements. -/
namespace Ev
open PySem PySem.Spec PyProof.Rows L2

def isComp : Expr → Bool
  | .ListComp _ _ _ _ => true
  | .SetComp _ _ _ _ => true
  | .DictComp _ _ _ _ _ => true
  | _ => false
def compScope : Expr → Option Scope
  | .ListComp _ _ s _ => some s
  | .SetComp _ _ s _ => some s
  | .DictComp _ _ _ s _ => some s
  | _ => none
/-- the value of a comprehension goes straight into the local name -/
def swB (sc : Scope) (n : Str) (py : Pos) (x : Expr) : Bool := match compScope x with
  | none => false
  | some s => decide (sc.names.lookup n = some .local) && (py.line == x.pos.line) && !(s.names.any fun (m, k) => m == n && (k == .local || k == .cell))
/-- two or three local names are stored from the right -/
def parB (sc : Scope) (tg x : Expr) : Bool := match tg, x with
  | .Tuple [.Name n p, .Name m q] _ _, .Tuple vs _ _ => (vs.length == 2) && decide (sc.names.lookup n = some .local) && decide (sc.names.lookup m = some .local) && (q.line == p.line) && decide (n ≠ m) && !(vs.all (foldedForSure 8)) && !(vs.all (constantsAlone 8))
  | .Tuple [.Name n p, .Name m q, .Name l r] _ _, .Tuple vs _ _ => (vs.length == 3) && decide (sc.names.lookup n = some .local) && decide (sc.names.lookup m = some .local) && decide (sc.names.lookup l = some .local) && (q.line == p.line) && (r.line == p.line) && decide (n ≠ m) && decide (n ≠ l) && decide (m ≠ l) && !(vs.all (foldedForSure 8)) && !(vs.all (constantsAlone 8))
  | _, _ => false
def isTupSm : Tg → Bool
  | .tu _ => true
  | _ => false
mutual
def mhe : HE → Option Str → Expr → Bool
  | .non, _, x => match x with
    | .Constant .none _ _ => true
    | _ => false
  | .bl b, _, x => match x with
    | .Constant (.bool d) _ _ => b == d
    | _ => false
  | .int i, _, x => match x with
    | .Constant (.int j) _ _ => decide (i = j)
    | _ => false
  | .str s, _, x => match x with
    | .Constant (.str z) _ _ => decide (z = Str.ofString s)
    | _ => false
  | .fld f, nm, x => match nm, x with
    | some n, .Attribute (.Name m _) g _ => decide (m = n) && decide (g = Str.ofString f) && (decide (f = "code") || decide (f = "path"))
    | _, _ => false
  | .tup es, nm, x => match x with
    | .Tuple xs _ _ => mhes es nm xs
    | _ => false
  | .nil, _, _ => false
  | .cons _ _, _, _ => false
def mhes : HE → Option Str → List Expr → Bool
  | .nil, _, xs => match xs with
    | [] => true
    | _ => false
  | .cons a r, nm, xs => match xs with
    | x :: xs => mhe a nm x && mhes r nm xs
    | _ => false
  | _, _, _ => false
end
/-- an except clause's suite -/
def mhd : Hd → SC → Option Str → List Stmt → Bool
  | .ret e, _, nm, sts => match sts with
    | [.Return (some x) _] => mhe e nm x
    | _ => false
  | .set j e, c, nm, sts => match sts with
    | [.Assign [.Name n _] x _] => decide (c.N[j]? = some n) && c.sto.contains n && mhe e nm x
    | _ => false
  | .cont, _, _, sts => match sts with
    | [.Continue _] => true
    | _ => false
  | .brk, _, _, sts => match sts with
    | [.Break _] => true
    | _ => false
  | .pas, _, _, sts => match sts with
    | [.Pass _] => true
    | _ => false
def inB : Option Nat → SC → Option Str → Bool
  | none, _, nm => match nm with
    | none => true
    | some _ => false
  | some i, c, nm => match nm with
    | some n => decide (c.N[i]? = some n) && decide (c.sc.names.lookup n = some .local) && decide ((n == ("__debug__" : Str)) = false) && decide ((n == ("__classdict__" : Str)) = false)
    | none => false
mutual
def mst : Sm → SC → Stmt → Bool
  | .skip, _, st => match st with
    | .Pass _ => true
    | _ => false
  | .ex e, c, st => match st with
    | .Expr x _ => mt e c x && !isComp x
    | _ => false
  | .set i e, c, st => match st with
    | .Assign [.Name n _] x _ => decide (c.N[i]? = some n) && c.sto.contains n && mt e c x
    | _ => false
  | .asg t e, c, st => match st with
    | .Assign [tg] x _ => isTupSm t && mtt t c tg && mt e c x && (!isTup x || parB c.sc tg x)
    | _ => false
  | .sub o i e, c, st => match st with
    | .Assign [.Subscript ox ix _] x _ => mt o c ox && mt i c ix && mt e c x
    | _ => false
  | .ret e, c, st => match st with
    | .Return (some x) _ => mt e c x
    | .Return none _ => (match e with
      | .non => true
      | _ => false)
    | _ => false
  | .ite k a b, c, st => match st with
    | .If t xs ys _ => mt k c t && mss a c xs && mss b c ys
    | _ => false
  | .for t it b, c, st => match st with
    | .For tg iter body [] _ => mtw it c iter tg && mtt t c tg && mss b c body
    | _ => false
  | .whl k b, c, st => match st with
    | .While t body [] _ => mt k c t && mss b c body
    | _ => false
  | .brk, _, st => match st with
    | .Break _ => true
    | _ => false
  | .cont, _, st => match st with
    | .Continue _ => true
    | _ => false
  | .fst o k f e, c, st => match st with
    | .Assign [.Attribute ox n _] x _ => decide (n = Str.ofString f) && c.flds.contains (k, f) && mt o c ox && mt e c x
    | _ => false
  | .fau o k f op e, c, st => match st with
    | .AugAssign (.Attribute ox n _) p x _ => decide (n = Str.ofString f) && c.flds.contains (k, f) && decide (p = bop op) && mt o c ox && mt e c x
    | _ => false
  | .rs0 k, c, st => match st with
    | .Raise (some (.Call (.Name n _) [.Constant (.str _) _ _] [] _)) none _ => decide (n = Str.ofString k) && glB c.sc n && c.xos.contains k
    | _ => false
  | .rs2 k es, c, st => match st with
    | .Raise (some (.Call (.Name n _) [x, y] [] _)) none _ => decide (n = Str.ofString "TypeProblem") && decide (k = "TypeProblem") && glB c.sc n && c.xpb && mts es c [x, y]
    | _ => false
  | .tr b k cs i h, c, st => match st with
    | .Try body [.ExceptHandler (some (.Name x _)) nm suite _] [] [] _ => decide (x = Str.ofString k) && glB c.sc x && c.xcs.contains k && cs.all c.xcs.contains && (!nm.isSome || c.xpb) && inB i c nm && mss b c body && mhd h c nm suite
    | _ => false
  | .seq _ _, _, _ => false
def mss : Sm → SC → List Stmt → Bool
  | .skip, _, xs => match xs with
    | [] => true
    | _ => false
  | .seq a b, c, xs => match xs with
    | x :: xs => mst a c x && mss b c xs
    | [] => false
  | _, _, _ => false
end

/-! ### readings -/
structure PE4 where
  nx : Fr → AH → Ph → Hp → Prop
  bk : Fr → AH → Ph → Hp → Prop
  ct : Fr → AH → Ph → Hp → Prop
  rt : D → AH → Ph → Hp → Prop
  exc : Xc → Fr → AH → Ph → Hp → Prop
def okSP (G : Md) (φ : Ph) (H : Hp) (P : PE4) : SR → Prop
  | .nx F A => ∀ φ' H', Ext φ H φ' H' → HR G φ' H' A → P.nx F A φ' H'
  | .bk F A => ∀ φ' H', Ext φ H φ' H' → HR G φ' H' A → P.bk F A φ' H'
  | .ct F A => ∀ φ' H', Ext φ H φ' H' → HR G φ' H' A → P.ct F A φ' H'
  | .rt d A => ∀ φ' H', Ext φ H φ' H' → HR G φ' H' A → P.rt d A φ' H'
  | .exc x F A => ∀ φ' H', Ext φ H φ' H' → HR G φ' H' A → P.exc x F A φ' H'
  | .no => False
def pEnds (G : Md) (W : WX) (D : Ends) : PE4 where
  nx := fun F _ φ H => ∀ σ, FR G φ H F σ → D.nx σ H
  bk := fun F _ φ H => ∀ σ, FR G φ H F σ → D.bk σ H
  ct := fun F _ φ H => ∀ σ, FR G φ H F σ → D.ct σ H
  rt := fun d _ φ H => ∀ v, Rep G φ H d v → D.rt v H
  exc := fun x F _ φ H => ∀ σ cls dd, FR G φ H F σ → XRep G φ H x cls dd → W cls dd σ H
def tS (G : Md) (cl : Cl) (N : Nat) (W : WX) (b : Sm) : TS := fun D σ H => ∃ φ F A, HR G φ H A ∧ FR G φ H F σ ∧ okSP G φ H (pEnds G W D) (sx cl N b F A)
section
variable {G : Md} {φ φ1 : Ph} {H H1 : Hp} {P P' : PE4}
theorem okSP.ext {r : SR} (h : okSP G φ H P r) (x : Ext φ H φ1 H1) : okSP G φ1 H1 P r := by
  cases r <;> first | exact h | exact fun φ' H' e hr => h φ' H' (x.trans e) hr
/-- a value first, then the statement's end -/
theorem okSP.bns {α : Type} {W : WX} {D : Ends} {F : Fr} {σ : L2.St} {A : AH} {r : Res α} {f : α → AH → SR} (h : okSP G φ H (pEnds G W D) (bns F r f)) (hr : HR G φ H A) (fr : FR G φ H F σ) :
    okG G φ H (fun c d H' => W c d σ H') (fun a A φ' H' => okSP G φ' H' (pEnds G W D) (f a A)) r := by
  cases r with
  | ok a A => exact fun φ' H' e _ => okSP.ext (r := f a A) h e
  | exc y A => exact fun φ' H' cls dd e hr' x => h φ' H' e hr' σ cls dd (fr.ext hr e) x
  | no => exact h
end
theorem ps_imp {X : Cx} {st : Stmt} {t t' : TS} (h : PS X st t) (k : ∀ D σ H, t' D σ H → t D σ H) : PS X st t' := ⟨fun pins s σ H D I q => h.run pins s σ H D I (k D σ H q)⟩
theorem pss_imp {X : Cx} {st : List Stmt} {t t' : TS} (h : PSs X st t) (k : ∀ D σ H, t' D σ H → t D σ H) : PSs X st t' := ⟨fun pins s σ H D I q => h.run pins s σ H D I (k D σ H q)⟩
/-! ### the end of a walk that locked a dict -/
def unlQ (X : Cx) (P : Hp → Prop) (H : Hp) : Prop := P H ∨ ∃ a o u, H a = some (.frz o u) ∧ (∀ o' u', X.H_0 a ≠ some (.frz o' u')) ∧ P (upd H a u)
def UnlS (X : Cx) (D : Ends) : Ends where
  nx := fun σ H => unlQ X (D.nx σ) H
  bk := fun σ H => unlQ X (D.bk σ) H
  ct := fun σ H => unlQ X (D.ct σ) H
  rt := fun v H => unlQ X (D.rt v) H
theorem ps_unl {X : Cx} {st : Stmt} {t : TS} (h : PS X st t) : PS X st (fun D σ H => t (UnlS X D) σ H) := by
  refine ⟨fun pins s σ H D I q => thn (h.run pins s σ H _ I q) fun f s1 z => ?_⟩
  cases f with
  | next =>
    obtain ⟨σ1, H1, I1, z | ⟨a, o, u, e, n, z⟩⟩ := z
    · exact ⟨σ1, H1, I1, z⟩
    · exact ⟨σ1, _, I1.unlock e n, z⟩
  | brk =>
    obtain ⟨σ1, H1, I1, z | ⟨a, o, u, e, n, z⟩⟩ := z
    · exact ⟨σ1, H1, I1, z⟩
    · exact ⟨σ1, _, I1.unlock e n, z⟩
  | cont =>
    obtain ⟨σ1, H1, I1, z | ⟨a, o, u, e, n, z⟩⟩ := z
    · exact ⟨σ1, H1, I1, z⟩
    · exact ⟨σ1, _, I1.unlock e n, z⟩
  | ret v =>
    obtain ⟨w, σ1, H1, I1, r, z | ⟨a, o, u, e, n, z⟩⟩ := z
    · exact ⟨w, σ1, H1, I1, r, z⟩
    · exact ⟨w, σ1, _, I1.unlock e n, r, z⟩
theorem unl_endS {G : Md} {φ1 φ : Ph} {H1 H2 H : Hp} {X : Cx} {A A0 : AH} {l : Option Nat} {P : AH → Ph → Hp → Prop} {K : Hp → Prop} (hr1 : HR G φ1 H1 A0)
    (c1 : l = none → H2 = H1) (c2 : ∀ n, l = some n → ∃ a o ks, φ1[n]? = some a ∧ H1 a = some (.dK ks) ∧ H2 = upd H1 a (.frz o (.dK ks)) ∧ ∀ o' u', X.H_0 a ≠ some (.frz o' u'))
    (x : Ext φ1 H2 φ H) (hr : HR G φ H A) (q : ∀ φ' H', Ext φ1 H1 φ' H' → HR G φ' H' (unlockA A l) → P (unlockA A l) φ' H') (k : ∀ A' H', Mono φ H φ H' → P A' φ H' → K H') : unlQ X K H := by
  rcases unl_end (w := ⟨[], [], l⟩) (α := Unit) (b := ()) (W := fun _ _ _ => True) (P := fun _ A φ H => P A φ H) (H0 := X.H_0) hr1 c1 c2 x hr q with ⟨_, z⟩ | ⟨a, o, u, n, kvs, en, hf, nf, ma, ns, h2, mo, z⟩
  · exact .inl (k _ _ ⟨⟨[], by simp⟩, fun _ _ e _ => e⟩ z)
  · exact .inr ⟨a, o, u, hf, nf, k _ _ mo z⟩
def pUnl (G : Md) (φ1 : Ph) (H1 : Hp) (P : PE4) (l : Option Nat) : PE4 where
  nx := fun F A _ _ => okSP G φ1 H1 P (.nx F (unlockA A l))
  bk := fun F A _ _ => okSP G φ1 H1 P (.bk F (unlockA A l))
  ct := fun F A _ _ => okSP G φ1 H1 P (.ct F (unlockA A l))
  rt := fun d A _ _ => okSP G φ1 H1 P (.rt d (unlockA A l))
  exc := fun x F A _ _ => l = none ∧ okSP G φ1 H1 P (.exc x F A)
theorem okSP.unl {G : Md} {φ1 φ2 : Ph} {H1 H2 : Hp} {P : PE4} {l : Option Nat} {r : SR} (h : okSP G φ1 H1 P (unlS l r)) : okSP G φ2 H2 (pUnl G φ1 H1 P l) r := by
  cases l with
  | none => cases r <;> first | exact h | exact fun φ' H' e hr => h | exact fun φ' H' e hr => ⟨rfl, h⟩
  | some n => cases r <;> first | exact h | exact fun φ' H' e hr => h | exact h.elim
/-! ### for -/
theorem for_read {X : Cx} {cl : Cl} {N : Nat} {W : WX} {t : Tg} {it : Ex} {b : Sm} {D : Ends} {σ : L2.St} {H : Hp}
    (h : tS (Gd X) cl N W (.for t it b) D σ H) : tFor (iW X cl W it) (gE (Gd X) t) (tS (Gd X) cl N W b) (UnlS X D) σ H := by
  obtain ⟨φ, F, A, hr, fr, q⟩ := h
  refine ⟨φ, F, A, hr, fr, (okSP.bns (r := evw cl it F A) q hr fr).imp fun w A1 φ1 H1 e1 hr1 q1 H2 J c1 c2 hr2 wk => ?_⟩
  have x2 : Ext φ1 H1 φ1 H2 := by
    cases el : w.lock with
    | none => rw [c1 el]; exact .refl
    | some n =>
      obtain ⟨a, o, ks, ea, hH, rfl, _⟩ := c2 n el
      exact Ext.set (List.mem_of_getElem? ea) (.dK hH)
  generalize hbody : (fun F' A' => sx cl N b F' A') = body at q1
  generalize hP2 : pUnl (Gd X) φ1 H1 (pEnds (Gd X) W D) w.lock = P2
  have q2 : okSP (Gd X) φ1 H2 P2 (forL (asgT t) w.g body w.items F (lockA A1 w.lock)) := by
    rw [← hP2]
    exact okSP.unl q1
  have fr2 : FR (Gd X) φ1 H2 F σ := (fr.ext hr e1).ext hr1 x2
  refine ⟨fun i m σ H => m = w.items.length - i ∧ i ≤ w.items.length ∧ ∃ φ F A, Ext φ1 H2 φ H ∧ HR (Gd X) φ H A ∧ FR (Gd X) φ H F σ ∧ okSP (Gd X) φ1 H2 P2 (forL (asgT t) w.g body (w.items.drop i) F A),
    ⟨_, rfl, Nat.zero_le _, φ1, F, _, .refl, hr2, fr2, q2⟩, ?_⟩
  rintro i m σ3 H3 ⟨rfl, hi, φ3, F3, A3, x3, hr3, fr3, q3⟩
  have hlk : gOk A3 w.g = true := by
    cases hg : gOk A3 w.g with
    | true => rfl
    | false =>
      exfalso
      cases hd : w.items.drop i with
      | nil => rw [hd] at q3; unfold forL at q3; rw [if_neg (by rw [hg]; exact Bool.false_ne_true)] at q3; exact q3
      | cons d r => rw [hd] at q3; unfold forL at q3; rw [if_neg (by rw [hg]; exact Bool.false_ne_true)] at q3; exact q3
  by_cases hlt : i < w.items.length
  · have hd : w.items.drop i = w.items[i] :: w.items.drop (i + 1) := List.drop_eq_getElem_cons hlt
    obtain ⟨go, yld⟩ := wk.step φ3 H3 A3 i _ x3 hr3 hlk (List.getElem?_eq_getElem hlt)
    refine .inr ⟨go, fun σ4 H4 => ∃ φ F A, Ext φ1 H2 φ H4 ∧ HR (Gd X) φ H4 A ∧ FR (Gd X) φ H4 F σ4 ∧ okSP (Gd X) φ1 H2 P2 (forL (asgT t) w.g body (w.items.drop (i + 1)) F A),
      fun σ' H' z => ⟨_, by omega, rfl, hlt, z⟩, fun x H4 hy => ?_⟩
    obtain ⟨x4, hr4, rx⟩ := yld x H4 hy
    rw [hd] at q3
    unfold forL at q3
    rw [if_pos hlk] at q3
    split at q3
    · rename_i F' ha
      refine ⟨φ3, F3, A3, _, F', hr4, fr3.ext hr3 x4, rx, ha, fun σ' frσ ag => ⟨φ3, F', A3, hr4, frσ, ?_⟩⟩
      rw [← hbody] at q3
      have q3 : okSP (Gd X) φ1 H2 P2 (match sx cl N b F' A3 with
        | .nx F2 A2 => forL (asgT t) w.g (fun F' A' => sx cl N b F' A') (w.items.drop (i + 1)) F2 A2
        | .ct F2 A2 => forL (asgT t) w.g (fun F' A' => sx cl N b F' A') (w.items.drop (i + 1)) F2 A2
        | .bk F2 A2 => .nx F2 A2
        | x => x) := q3
      cases e : sx cl N b F' A3 with
      | nx F2 A2 =>
        rw [e] at q3
        simp only [hbody] at q3
        exact fun φ' H' e' hr' σ'' fr'' => ⟨φ', F2, A2, (x3.trans x4).trans e', hr', fr'', q3⟩
      | ct F2 A2 =>
        rw [e] at q3
        simp only [hbody] at q3
        exact fun φ' H' e' hr' σ'' fr'' => ⟨φ', F2, A2, (x3.trans x4).trans e', hr', fr'', q3⟩
      | bk F2 A2 =>
        rw [e, ← hP2] at q3
        intro φ' H' e' hr' σ'' fr''
        have xx := (x3.trans x4).trans e'
        exact unl_endS (X := X) (P := (pEnds (Gd X) W D).nx F2) (K := D.nx σ'') hr1 c1 c2 xx hr' (q3 φ' H' xx hr') fun A' H'' mo z => z σ'' (fr''.mono mo)
      | rt d A2 =>
        rw [e, ← hP2] at q3
        intro φ' H' e' hr' v rv
        have xx := (x3.trans x4).trans e'
        exact unl_endS (X := X) (P := (pEnds (Gd X) W D).rt d) (K := D.rt v) hr1 c1 c2 xx hr' (q3 φ' H' xx hr') fun A' H'' mo z => z v (Rep.mono mo _ _ rv)
      | exc y F2 A2 =>
        rw [e, ← hP2] at q3
        intro φ' H' e' hr' σ'' cls dd fr'' xr
        have xx := (x3.trans x4).trans e'
        obtain ⟨hn, z⟩ := q3 φ' H' xx hr'
        rw [c1 hn] at xx
        exact z φ' H' xx hr' σ'' cls dd fr'' xr
      | no => rw [e] at q3; exact q3.elim
    · exact q3.elim
  · have hi' : i = w.items.length := by omega
    subst hi'
    refine .inl ⟨wk.stop φ3 H3 A3 x3 hr3 hlk, ?_⟩
    rw [List.drop_length] at q3
    unfold forL at q3
    rw [if_pos hlk, ← hP2] at q3
    exact unl_endS (X := X) (P := (pEnds (Gd X) W D).nx F3) (K := D.nx σ3) hr1 c1 c2 x3 hr3 (q3 φ3 H3 x3 hr3) fun A' H'' mo z => z σ3 (fr3.mono mo)
end Ev

/-! ## EvSt2 -/
/-! EvSt2: statements, each. -/
namespace Ev
open PySem PySem.Spec PyProof.Rows L2
section
variable {X : Cx} {cl : Cl} {N : Nat} {W : WX}
theorem while_read {k : Ex} {b : Sm} {D : Ends} {σ : L2.St} {H : Hp} (h : tS (Gd X) cl N W (.whl k b) D σ H) : tWhile (tT (Gd X) cl W k) (tS (Gd X) cl N W b) D σ H := by
  obtain ⟨φ, F, A, hr, fr, q⟩ := h
  have q : okSP (Gd X) φ H (pEnds (Gd X) W D) (whlL (fun F' A' => tru (ev cl k F' A')) (fun F' A' => sx cl N b F' A') N F A) := q
  refine ⟨fun m σ H => ∃ φ F A, HR (Gd X) φ H A ∧ FR (Gd X) φ H F σ ∧ okSP (Gd X) φ H (pEnds (Gd X) W D) (whlL (fun F' A' => tru (ev cl k F' A')) (fun F' A' => sx cl N b F' A') m F A), ⟨N, φ, F, A, hr, fr, q⟩, ?_⟩
  rintro m σ1 H1 ⟨φ1, F1, A1, hr1, fr1, q1⟩
  cases m with
  | zero => exact q1.elim
  | succ m =>
    have q1 : okSP (Gd X) φ1 H1 (pEnds (Gd X) W D) (match tru (ev cl k F1 A1) with
      | .ok false A' => .nx F1 A'
      | .ok true A' => (match sx cl N b F1 A' with
        | .nx F2 A2 => whlL (fun F' A' => tru (ev cl k F' A')) (fun F' A' => sx cl N b F' A') m F2 A2
        | .ct F2 A2 => whlL (fun F' A' => tru (ev cl k F' A')) (fun F' A' => sx cl N b F' A') m F2 A2
        | .bk F2 A2 => .nx F2 A2
        | x => x)
      | .exc x A' => .exc x F1 A'
      | .no => .no) := q1
    refine ⟨φ1, F1, A1, hr1, fr1, ?_⟩
    show okG (Gd X) φ1 H1 (fun c d H' => W c d σ1 H') (pB _) (tru (ev cl k F1 A1))
    cases e : tru (ev cl k F1 A1) with
    | no => rw [e] at q1; exact q1.elim
    | exc y A2 =>
      rw [e] at q1
      exact fun φ' H' cls dd e' hr' x => q1 φ' H' e' hr' σ1 cls dd (fr1.ext hr1 e') x
    | ok r A2 =>
      rw [e] at q1
      intro φ2 H2 e2 hr2
      have fr2 := fr1.ext hr1 e2
      cases r with
      | false => exact q1 φ2 H2 e2 hr2 σ1 fr2
      | true =>
        refine ⟨fun σ' H' => ∃ φ F A, HR (Gd X) φ H' A ∧ FR (Gd X) φ H' F σ' ∧ okSP (Gd X) φ H' (pEnds (Gd X) W D) (whlL (fun F' A' => tru (ev cl k F' A')) (fun F' A' => sx cl N b F' A') m F A), fun σ' H' z => ⟨m, Nat.lt_succ_self m, z⟩, φ2, F1, A2, hr2, fr2, ?_⟩
        have q1 : okSP (Gd X) φ2 H2 (pEnds (Gd X) W D) (match sx cl N b F1 A2 with
          | .nx F2 A2 => whlL (fun F' A' => tru (ev cl k F' A')) (fun F' A' => sx cl N b F' A') m F2 A2
          | .ct F2 A2 => whlL (fun F' A' => tru (ev cl k F' A')) (fun F' A' => sx cl N b F' A') m F2 A2
          | .bk F2 A2 => .nx F2 A2
          | x => x) := q1.ext e2
        cases e3 : sx cl N b F1 A2 with
        | nx F2 A3 => rw [e3] at q1; exact fun φ' H' e' hr' σ'' fr'' => ⟨φ', F2, A3, hr', fr'', okSP.ext (r := whlL _ _ m F2 A3) q1 e'⟩
        | ct F2 A3 => rw [e3] at q1; exact fun φ' H' e' hr' σ'' fr'' => ⟨φ', F2, A3, hr', fr'', okSP.ext (r := whlL _ _ m F2 A3) q1 e'⟩
        | bk F2 A3 => rw [e3] at q1; exact q1
        | rt d A3 => rw [e3] at q1; exact q1
        | exc y F2 A3 => rw [e3] at q1; exact q1
        | no => rw [e3] at q1; exact q1.elim

/-! ### small statements -/
theorem st_ex {c : SC} {e : Ex} {st : Stmt} (ok : CtxOk X c cl W) (h : mst (.ex e) c st = true) : PS X st (tS (Gd X) cl N W (.ex e)) := by
  cases st <;> first | (simp [mst] at h; done) | skip
  rename_i x pos
  have h : (mt e c x && !isComp x) = true := h
  simp only [Bool.and_eq_true] at h
  refine ps_imp (ps_expr ((se_all e).pe ok h.1) (by cases x <;> first | rfl | exact absurd h.2 Bool.false_ne_true)) fun D σ H ⟨φ, F, A, hr, fr, q⟩ => ?_
  exact ⟨φ, F, A, hr, fr, (okSP.bns (r := ev cl e F A) q hr fr).imp fun d A1 φ1 H1 e1 hr1 q1 v _ => q1 φ1 H1 .refl hr1 σ (fr.ext hr e1)⟩
theorem st_ret {c : SC} {e : Ex} {st : Stmt} (ok : CtxOk X c cl W) (h : mst (.ret e) c st = true) : PS X st (tS (Gd X) cl N W (.ret e)) := by
  cases st <;> first | (simp [mst] at h; done) | skip
  rename_i o pos
  cases o with
  | some x =>
    have h : mt e c x = true := h
    refine ps_imp (ps_ret ((se_all e).pe ok h)) fun D σ H ⟨φ, F, A, hr, fr, q⟩ => ?_
    exact ⟨φ, F, A, hr, fr, (okSP.bns (r := ev cl e F A) q hr fr).imp fun d A1 φ1 H1 e1 hr1 q1 v rv => q1 φ1 H1 .refl hr1 v rv⟩
  | none =>
    cases e <;> first | (simp [mst] at h; done) | skip
    exact ps_imp ps_retN fun D σ H ⟨φ, F, A, hr, fr, q⟩ => q φ H .refl hr .non rfl
theorem sw_eq {x : Expr} {s : Scope} {n : Str} {py : Pos} {l : Nat} {env : Env} (hc : compScope x = some s) : swapsWith x (some (.Name n py)) l env = pure (env.blockKind == .function && env.kindOf n == some .local && py.line == x.pos.line && !(s.names.any fun (m, k) => m == n && (k == .local || k == .cell))) := by
  cases x <;> first | (cases hc; done) | skip
  all_goals
    cases hc
    rfl
theorem sw_none {x : Expr} {t : Option Expr} {l : Nat} {env : Env} (hc : compScope x = none) : swapsWith x t l env = pure false := by
  cases x <;> first | rfl | (cases hc; done)
theorem sw_val {sc : Scope} {x : Expr} {n : Str} {py : Pos} {l : Nat} {env : Env} (hs : env.scope = sc) (hk : env.scope.kind = .function) : swapsWith x (some (.Name n py)) l env = pure (swB sc n py x) := by
  subst hs
  unfold swB
  cases hc : compScope x with
  | none => exact sw_none hc
  | some s =>
    rw [sw_eq hc]
    have hb : env.blockKind = .function := by unfold Env.blockKind; rw [hk]; rfl
    rw [hb]
    congr 1
    show (true && (env.scope.names.lookup n == some .local) && _ && _) = _
    by_cases h : env.scope.names.lookup n = some .local
    · rw [h]; simp
    · have : (env.scope.names.lookup n == some NameKind.local) = false := by simpa using h
      rw [this]; simp [h]
theorem st_set_plain {c : SC} {i : Nat} {e : Ex} {n : Str} {py pos : Pos} {x : Expr} (ok : CtxOk X c cl W) (hn : c.N[i]? = some n) (hs : n ∈ c.sto) (he : mt e c x = true) (hw : swB c.sc n py x = false) :
    PS X (.Assign [.Name n py] x pos) (tS (Gd X) cl N W (.set i e)) := by
  obtain ⟨h1, h2⟩ := ok.sto n hs
  refine ps_imp (ps_set (i := i) (by rw [ok.N]; exact ok.nd) (by rw [ok.N]; exact hn) h1 ((se_all e).pe ok he) (by rw [sw_val ok.sc ok.kd, hw]) h2) fun D σ H ⟨φ, F, A, hr, fr, q⟩ => ?_
  exact ⟨φ, F, A, hr, fr, (okSP.bns (r := ev cl e F A) q hr fr).imp fun d A1 φ1 H1 e1 hr1 q1 v rv => q1 φ1 H1 .refl hr1 _ ((fr.ext hr e1).set i rv)⟩
/-- the unlocked end, for a statement that stores -/
theorem ps_setDc {i : Nat} {y : Str} {py : Pos} {kx elt tg iter : Expr} {ifs : List Expr} {scope : Scope} {own : List (Str × Nat)} {pos spos : Pos} {wi : TI} {g : TG} {tt : TT} {tk tv : TE} (hc : X.calm = true) (hN : X.N.Nodup) (hy : X.N[i]? = some y) (hyl : X.env.scope.names.lookup y = some .local)
    (hsw : swapsWith (.DictComp kx elt [⟨tg, iter, ifs, 0⟩] scope pos) (some (.Name y py)) spos.line X.env = pure true) (hi : PI X tg iter wi) (ok : BlkOk X.N X.env.scope scope own)
    (hg : ∀ (s : Shared) (H : Hp) (C : Addr) (cl : List (Str × Addr)) (fp : List Addr), PG (X.blk s H scope (compEnvC scope cl C X.env) fp) tg g) (ht : ∀ (s : Shared) (H : Hp) (C : Addr) (cl : List (Str × Addr)) (fp : List Addr), PTs (X.blk s H scope (compEnvC scope cl C X.env) fp) ifs tt)
    (hk : ∀ (s : Shared) (H : Hp) (C : Addr) (cl : List (Str × Addr)) (fp : List Addr), PE (X.blk s H scope (compEnvC scope cl C X.env) fp) kx tk)
    (he : ∀ (s : Shared) (H : Hp) (C : Addr) (cl : List (Str × Addr)) (fp : List Addr), PE (X.blk s H scope (compEnvC scope cl C X.env) fp) elt tv) (hs : ∀ x, foldedSetIterable iter X.env x = pure x := by intro _; rfl) :
    PS X (.Assign [.Name y py] (.DictComp kx elt [⟨tg, iter, ifs, 0⟩] scope pos) spos) (tAsg (tDc wi g tt tk tv (own.map (·.2))) (gName i)) := by
  refine ⟨fun pins s σ H D I h => ?_⟩
  rw [exec_Assign_Name_used _ _ _ _ hsw]
  refine wpAny_bind (wpAny_standAt (wpAny_bind ?_))
  show wpAny _ X.A (do let _ ← comprehension (.DictComp kx elt [⟨tg, iter, ifs, 0⟩] scope pos) scope X.env (firstIterPos [⟨tg, iter, ifs, 0⟩] pos) newDict false (eval iter X.env) (some (assign (.Name y py) X.env))) _ _ s
  have h : tDc wi g tt tk tv (own.map (·.2)) σ H (fun x H1 => gName i x σ H1 D.nx) := h
  refine wpAny_bind (thn (dc_core (Qf := fun _ s' => SP X pins D .next s') hc hN I hi ok hg ht hk he hs h fun L C s' m H' I' q hn f => ?_) fun _ s' hq => wpAny_pure (wpAny_pure hq))
  show wpAny _ _ (assign (.Name y py) X.env (.ref L)) _ _ _
  refine wpAny_assign_Name (store_ok2 (v := V.ref L) I' hN hy (.inl hyl) rfl (fun s2 I2 ⟨a, sb, ha⟩ => ?_) (.inr hyl))
  obtain ⟨f0, f1, f2, f3, f4, f5⟩ := f
  have haC : C ≠ a := by
    rcases ha with z | z
    · rw [z]; exact f1
    · exact fun e => f4 y a z e.symm
  refine ⟨m, hn.sameBut sb haC, fun h3 sb3 => ?_⟩
  exact ⟨_, H', I2.turned (t' := s2.toks) (fun b o hb e => (sb3.2 b hb).trans e) f0 f1 f3 f4 f5, q⟩
theorem st_set_lc {c : SC} {i : Nat} {e : Ex} {n : Str} {py pos : Pos} {x : Expr} (ok : CtxOk X c cl W) (hn : c.N[i]? = some n) (he : mt e c x = true) (hw : swB c.sc n py x = true) :
    PS X (.Assign [.Name n py] x pos) (tS (Gd X) cl N W (.set i e)) := by
  have hl : X.env.scope.names.lookup n = some .local := by
    unfold swB at hw
    split at hw
    · cases hw
    · simp only [Bool.and_eq_true, decide_eq_true_eq] at hw
      rw [ok.sc]; exact hw.1.1
  have hsw : swapsWith x (some (.Name n py)) pos.line X.env = pure true := by rw [sw_val ok.sc ok.kd, hw]
  have fin : ∀ D σ H, tS (Gd X) cl N W (.set i e) D σ H → tE (Gd X) cl W e σ H (fun v H1 => D.nx (σ.set i (some v)) H1) := fun D σ H ⟨φ, F, A, hr, fr, q⟩ =>
    ⟨φ, F, A, hr, fr, (okSP.bns (r := ev cl e F A) q hr fr).imp fun d A1 φ1 H1 e1 hr1 q1 v rv => q1 φ1 H1 .refl hr1 _ ((fr.ext hr e1).set i rv)⟩
  cases x <;> first | (cases hw; done) | skip
  · rename_i l gs scope cpos
    cases e <;> first | (simp [mt] at he; done) | skip
    rename_i t it cd e own
    rcases gs with _ | ⟨⟨tg, iter, ifs, k⟩, _ | _⟩ <;> first | (simp [mt] at he; done) | skip
    have h : (decide (k = 0) && blkC c.N c.sc scope (ownB c.N own) && decide ((ownB c.N own).map (·.2) = own) && (tgSlots t).all own.contains && mtw it c iter tg && mtt t (c.blk scope) tg && mtc cd (c.blk scope) ifs && mt e (c.blk scope) l) = true := he
    simp only [Bool.and_eq_true, decide_eq_true_eq] at h
    obtain ⟨⟨⟨⟨⟨⟨⟨rfl, hb⟩, ho⟩, ht⟩, h1⟩, h2⟩, h3⟩, h4⟩ := h
    have hb : BlkOk X.N X.env.scope scope (ownB c.N own) := blkOk_by (by rw [ok.N, ok.sc]; exact hb)
    have ht : ∀ i ∈ tgSlots t, i ∈ own := fun i hi => by simpa using List.all_eq_true.mp ht i hi
    refine ps_imp (ps_unl (ps_setLc (i := i) (g := gE (Gd X) t) (tt := tCd (Gd X) cl WF cd) (te := tE (Gd X) cl WF e) ok.calm (by rw [ok.N]; exact ok.nd) (by rw [ok.N]; exact hn) hl hsw ((se_all it).pi ok h1) hb (fun s H C clo fp => pg_of (ok.blk hb s H C clo fp) h2) (fun s H C clo fp => (se_all cd).pc (ok.blk hb s H C clo fp) h3) (fun s H C clo fp => (se_all e).pe (ok.blk hb s H C clo fp) h4) (fun x => folded_plain (mtw_plain h1)))) fun D σ H q => ?_
    have z := lc_read ht (fun F A w A' h => evw_lk h) (fin D σ H q)
    rw [ho]
    exact z
  · exfalso
    revert he
    cases e <;> simp [mt]
  · rename_i kx l gs scope cpos
    cases e <;> first | (simp [mt] at he; done) | skip
    rename_i t it cd ek e own
    rcases gs with _ | ⟨⟨tg, iter, ifs, k⟩, _ | _⟩ <;> first | (simp [mt] at he; done) | skip
    have h : (decide (k = 0) && blkC c.N c.sc scope (ownB c.N own) && decide ((ownB c.N own).map (·.2) = own) && (tgSlots t).all own.contains && mtw it c iter tg && mtt t (c.blk scope) tg && mtc cd (c.blk scope) ifs && mt ek (c.blk scope) kx && mt e (c.blk scope) l) = true := he
    simp only [Bool.and_eq_true, decide_eq_true_eq] at h
    obtain ⟨⟨⟨⟨⟨⟨⟨⟨rfl, hb⟩, ho⟩, ht⟩, h1⟩, h2⟩, h3⟩, hk⟩, h4⟩ := h
    have hb : BlkOk X.N X.env.scope scope (ownB c.N own) := blkOk_by (by rw [ok.N, ok.sc]; exact hb)
    have ht : ∀ i ∈ tgSlots t, i ∈ own := fun i hi => by simpa using List.all_eq_true.mp ht i hi
    refine ps_imp (ps_unl (ps_setDc (i := i) (g := gE (Gd X) t) (tt := tCd (Gd X) cl WF cd) (tk := tE (Gd X) cl WF ek) (tv := tE (Gd X) cl WF e) ok.calm (by rw [ok.N]; exact ok.nd) (by rw [ok.N]; exact hn) hl hsw ((se_all it).pi ok h1) hb (fun s H C clo fp => pg_of (ok.blk hb s H C clo fp) h2) (fun s H C clo fp => (se_all cd).pc (ok.blk hb s H C clo fp) h3) (fun s H C clo fp => (se_all ek).pe (ok.blk hb s H C clo fp) hk) (fun s H C clo fp => (se_all e).pe (ok.blk hb s H C clo fp) h4) (fun x => folded_plain (mtw_plain h1)))) fun D σ H q => ?_
    have z := dc_read ht (fun F A w A' h => evw_lk h) (fin D σ H q)
    rw [ho]
    exact z
theorem st_set {c : SC} {i : Nat} {e : Ex} {st : Stmt} (ok : CtxOk X c cl W) (h : mst (.set i e) c st = true) : PS X st (tS (Gd X) cl N W (.set i e)) := by
  cases st <;> first | (simp [mst] at h; done) | skip
  rename_i tgs x pos
  rcases tgs with _ | ⟨tg, _ | _⟩ <;> first | (simp [mst] at h; done) | skip
  cases tg <;> first | (simp [mst] at h; done) | skip
  rename_i n py
  have h : (decide (c.N[i]? = some n) && c.sto.contains n && mt e c x) = true := h
  simp only [Bool.and_eq_true, decide_eq_true_eq] at h
  cases hw : swB c.sc n py x with
  | false => exact st_set_plain ok h.1.1 (by simpa using h.1.2) h.2 hw
  | true => exact st_set_lc ok h.1.1 h.2 hw
theorem st_sub {c : SC} {o i e : Ex} {st : Stmt} (ok : CtxOk X c cl W) (h : mst (.sub o i e) c st = true) : PS X st (tS (Gd X) cl N W (.sub o i e)) := by
  cases st <;> first | (simp [mst] at h; done) | skip
  rename_i tgs x pos
  rcases tgs with _ | ⟨tg, _ | _⟩ <;> first | (simp [mst] at h; done) | skip
  cases tg <;> first | (simp [mst] at h; done) | skip
  rename_i ox ix spos
  have h : (mt o c ox && mt i c ix && mt e c x) = true := h
  simp only [Bool.and_eq_true] at h
  obtain ⟨⟨h1, h2⟩, h3⟩ := h
  have hip := mt_plain h2
  refine ps_imp (ps_asg ((se_all e).pe ok h3) (pg_sub ((se_all o).pe ok h1) ((se_all i).pe ok h2) (set_ok ok.hu) (by intro v; cases ix <;> first | rfl | (cases hip; done))) (by
    show swapsWith x (some (.Subscript ox ix spos)) pos.line X.env = pure false
    cases x <;> rfl)) fun D σ H ⟨φ, F, A, hr, fr, q⟩ => ?_
  refine ⟨φ, F, A, hr, fr, (okSP.bns (r := ev cl e F A) q hr fr).imp fun d A1 φ1 H1 e1 hr1 q1 v rv => ?_⟩
  have fr1 := fr.ext hr e1
  refine ⟨φ1, F, A1, hr1, fr1, (okSP.bns (r := ev cl o F A1) q1 hr1 fr1).imp fun d2 A2 φ2 H2 e2 hr2 q2 v2 rv2 => ?_⟩
  have fr2 := fr1.ext hr1 e2
  refine ⟨φ2, F, A2, hr2, fr2, (okSP.bns (r := ev cl i F A2) q2 hr2 fr2).imp fun d3 A3 φ3 H3 e3 hr3 q3 v3 rv3 => ?_⟩
  have fr3 := fr2.ext hr2 e3
  cases hA : opSet A3 d2 d3 d with
  | none => rw [hA] at q3; exact q3.elim
  | some A4 =>
    rw [hA] at q3
    exact ⟨φ3, A3, d2, d3, d, A4, hr3, rv2.ext hr2 e3, rv3, (rv.ext hr1 e2).ext hr2 e3, hA, fun φ' H' e' hr' => q3 φ' H' e' hr' σ (fr3.ext hr3 e')⟩
end
end Ev

/-! ## EvTr -/
/-! EvTr: stores to fields, raise, try. -/
namespace Ev
open PySem PySem.Spec PyProof.Rows L2
/-- where a try may stand -/
structure StOk (X : Cx) : Prop where
  stk : X.stack = X.env :: X.outer
  frm : X.env.frame = some X.env.locals
section
variable {X : Cx} {cl : Cl} {N : Nat} {W : WX}
theorem fst_of {c : SC} (ok : CtxOk X c cl W) {k f : String} (hf : (k, f) ∈ c.flds) {φ : Ph} {H : Hp} {A A' : AH} {d e : D} {v w : V} (hr : HR (Gd X) φ H A) (r : Rep (Gd X) φ H d v) (re : Rep (Gd X) φ H e w) (h : fstD A k f d e = some A') :
    ∃ a C dx vs, v = .ref a ∧ a ∈ φ ∧ H a = some (.ins C dx vs) ∧ Cls X.K C ∧ NoAttr X.K C (Str.ofString f) ∧ vs.length < 1000 ∧ HR (Gd X) φ (upd H a (.ins C dx (putF (Str.ofString f) w vs))) A' := by
  unfold fstD at h
  split at h
  · rename_i n
    obtain ⟨a, ea, rfl⟩ := r
    split at h
    · rename_i k' fs hA
      split at h
      · rename_i hk
        obtain ⟨rfl, hl⟩ := hk
        cases h
        obtain ⟨C, dx, vs, e1, g, rf⟩ := hr.ins hA ea
        obtain ⟨C', g', hc, hn⟩ := ok.tab.flds _ hf
        have hC : C' = C := by
          have := g'.symm.trans g
          cases this; rfl
        subst hC
        exact ⟨a, C', dx, vs, rfl, List.mem_of_getElem? ea, e1, hc, hn, by rw [rf.length]; exact hl, hr.set ea (.ins e1) ⟨C', dx, _, rfl, g, rf.put re⟩⟩
      · cases h
    · cases h
  · cases h
theorem st_fst {c : SC} {o e : Ex} {k f : String} {st : Stmt} (ok : CtxOk X c cl W) (h : mst (.fst o k f e) c st = true) : PS X st (tS (Gd X) cl N W (.fst o k f e)) := by
  cases st <;> first | (simp [mst] at h; done) | skip
  rename_i tgs x pos
  rcases tgs with _ | ⟨tg, _ | _⟩ <;> first | (simp [mst] at h; done) | skip
  cases tg <;> first | (simp [mst] at h; done) | skip
  rename_i ox n apos
  have h : (decide (n = Str.ofString f) && c.flds.contains (k, f) && mt o c ox && mt e c x) = true := h
  simp only [Bool.and_eq_true, decide_eq_true_eq] at h
  obtain ⟨⟨⟨rfl, hf⟩, h1⟩, h2⟩ := h
  have hf : (k, f) ∈ c.flds := by simpa using hf
  refine ps_imp (ps_fld ((se_all o).pe ok h1) ((se_all e).pe ok h2) (by
    show swapsWith x (some (.Attribute ox (Str.ofString f) apos)) pos.line X.env = pure false
    cases x <;> rfl)) fun D σ H ⟨φ, F, A, hr, fr, q⟩ => ?_
  refine ⟨φ, F, A, hr, fr, (okSP.bns (r := ev cl e F A) q hr fr).imp fun d A1 φ1 H1 e1 hr1 q1 v rv => ?_⟩
  have fr1 := fr.ext hr e1
  refine ⟨φ1, F, A1, hr1, fr1, (okSP.bns (r := ev cl o F A1) q1 hr1 fr1).imp fun d2 A2 φ2 H2 e2 hr2 q2 v2 rv2 => ?_⟩
  have fr2 := fr1.ext hr1 e2
  cases hA : fstD A2 k f d2 d with
  | none => rw [hA] at q2; exact q2.elim
  | some A3 =>
    rw [hA] at q2
    obtain ⟨a, C, dx, vs, rfl, ha, e3, hc, hn, hl, hr3⟩ := fst_of ok hf hr2 rv2 (rv.ext hr1 e2) hA
    have x3 : Ext φ2 H2 φ2 _ := Ext.set (o := .ins C dx (putF (Str.ofString f) v vs)) ha (.ins e3)
    exact ⟨a, C, dx, vs, rfl, e3, hc, hn, hl, q2 _ _ x3 hr3 σ (fr2.ext hr2 x3)⟩
theorem aug_of {op : BOp} {d e r : D} (h : augI op d e = some r) : ∃ i j, d = .int i ∧ e = .int j ∧ ((op = .add ∧ r = .int (i + j)) ∨ (op = .sub ∧ r = .int (i - j))) := by
  unfold augI at h
  split at h <;> cases h
  · exact ⟨_, _, rfl, rfl, .inl ⟨rfl, rfl⟩⟩
  · exact ⟨_, _, rfl, rfl, .inr ⟨rfl, rfl⟩⟩
theorem st_fau {c : SC} {o e : Ex} {k f : String} {op : BOp} {st : Stmt} (ok : CtxOk X c cl W) (h : mst (.fau o k f op e) c st = true) : PS X st (tS (Gd X) cl N W (.fau o k f op e)) := by
  cases st <;> first | (simp [mst] at h; done) | skip
  rename_i tg p x pos
  cases tg <;> first | (simp [mst] at h; done) | skip
  rename_i ox n apos
  have h : (decide (n = Str.ofString f) && c.flds.contains (k, f) && decide (p = bop op) && mt o c ox && mt e c x) = true := h
  simp only [Bool.and_eq_true, decide_eq_true_eq] at h
  obtain ⟨⟨⟨⟨rfl, hf⟩, rfl⟩, h1⟩, h2⟩ := h
  have hf : (k, f) ∈ c.flds := by simpa using hf
  have rd : ∀ (D : Ends) (σ : L2.St) (H : Hp), tS (Gd X) cl N W (.fau o k f op e) D σ H → sFldAug X.K (tE (Gd X) cl W o) (tE (Gd X) cl W e) (fun x y H Q => (op = .add ∧ rAdd x y H Q) ∨ (op = .sub ∧ rSub x y H Q)) (Str.ofString f) D σ H := fun D σ H ⟨φ, F, A, hr, fr, q⟩ => by
    refine ⟨φ, F, A, hr, fr, (okSP.bns (r := ev cl o F A) q hr fr).imp fun d A1 φ1 H1 e1 hr1 q1 v rv => ?_⟩
    have fr1 := fr.ext hr e1
    cases hA : fldD A1 k f d with
    | none => rw [hA] at q1; exact q1.elim
    | some u =>
      rw [hA] at q1
      obtain ⟨n, a, C, dx, fs, vs, w, rfl, rfl, ea, hAn, e3, g, hc, hn, hl, rw'⟩ := fld_of ok hf hr1 rv hA
      refine ⟨a, C, dx, vs, w, rfl, e3, hc, hn, hl, ?_⟩
      refine ⟨φ1, F, A1, hr1, fr1, (okSP.bns (r := ev cl e F A1) q1 hr1 fr1).imp fun d2 A2 φ2 H2 e2 hr2 q2 v2 rv2 => ?_⟩
      have fr2 := fr1.ext hr1 e2
      cases hu : augI op u d2 with
      | none => rw [hu] at q2; exact q2.elim
      | some z =>
        rw [hu] at q2
        obtain ⟨i, j, rfl, rfl, hop⟩ := aug_of hu
        cases rw'
        cases rv2
        cases hB : fstD A2 k f (.ref n) z with
        | none => simp only [hB] at q2; exact q2.elim
        | some A3 =>
          simp only [hB] at q2
          have fin : ∀ t : Int, z = .int t → ∃ dx' fs', H2 a = some (.ins C dx' fs') ∧ fs'.length < 1000 ∧ D.nx σ (upd H2 a (.ins C dx' (putF (Str.ofString f) (.int t) fs'))) := fun t ht => by
            obtain ⟨a', C', dx', vs', ha', hm', e4, hc', hn', hl', hr3⟩ := fst_of ok hf hr2 (Rep.ext hr1 e2 rv) (show Rep (Gd X) φ2 H2 z (.int t) from by rw [ht]; rfl) hB
            cases ha'
            have hCC : C' = C := by
              obtain ⟨k2, fs2, hk2⟩ : ∃ k2 fs2, A2[n]? = some (.ins k2 fs2) ∧ k2 = k := by
                have hB : (match A2[n]? with
                  | some (.ins k1 fs) => if k1 = k ∧ fs.length < 1000 then some (A2.set n (.ins k (fput f z fs))) else none
                  | _ => none) = some A3 := hB
                split at hB
                · rename_i k' fs' hA'
                  split at hB
                  · rename_i hk'
                    exact ⟨k', fs', hA', hk'.1⟩
                  · cases hB
                · cases hB
              obtain ⟨hk2, rfl⟩ := hk2
              obtain ⟨C2, dx2, vs2, e5, g2, _⟩ := hr2.ins hk2 (e2.get ea)
              rw [e4] at e5
              cases e5
              have := g2.symm.trans g
              cases this; rfl
            subst hCC
            have x3 : Ext φ2 H2 φ2 _ := Ext.set (o := .ins C' dx' (putF (Str.ofString f) (.int t) vs')) hm' (.ins e4)
            exact ⟨dx', vs', e4, hl', q2 _ _ x3 hr3 σ (fr2.ext hr2 x3)⟩
          rcases hop with ⟨rfl, hz⟩ | ⟨rfl, hz⟩
          · exact .inl ⟨rfl, _, _, rfl, rfl, fin _ hz⟩
          · exact .inr ⟨rfl, _, _, rfl, rfl, fin _ hz⟩
  refine ps_imp (ps_fldaug (rd := fun x y H Q => (op = .add ∧ rAdd x y H Q) ∨ (op = .sub ∧ rSub x y H Q)) ((se_all o).pe ok h1) ((se_all e).pe ok h2) ?_) rd
  rintro pins s σ H x y u v Q I rx ry (⟨rfl, q⟩ | ⟨rfl, q⟩)
  · exact in_add pins s σ H x y u v Q I rx ry q
  · exact in_sub pins s σ H x y u v Q I rx ry q

/-! ### raise -/
theorem st_rs0 {c : SC} {k : String} {st : Stmt} (ok : CtxOk X c cl W) (h : mst (.rs0 k) c st = true) : PS X st (tS (Gd X) cl N W (.rs0 k)) := by
  cases st <;> first | (simp [mst] at h; done) | skip
  rename_i x y pos
  unfold mst at h
  split at h
  · rename_i n p m j p2 p3 p4 hst
    cases hst
    simp only [Bool.and_eq_true, decide_eq_true_eq] at h
    obtain ⟨⟨rfl, hg⟩, hx⟩ := h
    obtain ⟨g1, g2, g3⟩ := glB_gl ok hg
    obtain ⟨C, hm, hq, hk, hs, ht⟩ := ok.tab.xos k (by simpa using hx)
    refine ps_imp (ps_raise ok.calm ok.tk (pmk_own PySem.F.excBase_ValueError hq hm hk (raises_own hs ht) g1 g2)) fun D σ H ⟨φ, F, A, hr, fr, q⟩ => ?_
    exact q φ H .refl hr σ _ _ fr ⟨C, hm, rfl, .inl ⟨rfl, rfl⟩⟩
  · cases h
theorem st_rs2 {c : SC} {k : String} {es : Ex} {st : Stmt} (ok : CtxOk X c cl W) (h : mst (.rs2 k es) c st = true) : PS X st (tS (Gd X) cl N W (.rs2 k es)) := by
  cases st <;> first | (simp [mst] at h; done) | skip
  rename_i x y pos
  unfold mst at h
  split at h
  · rename_i n p a b p3 p4 hst
    cases hst
    simp only [Bool.and_eq_true, decide_eq_true_eq] at h
    obtain ⟨⟨⟨⟨rfl, rfl⟩, hg⟩, hx⟩, hes⟩ := h
    obtain ⟨g1, g2, g3⟩ := glB_gl ok hg
    obtain ⟨C, fI, T⟩ := ok.tab.prob hx
    obtain ⟨kk, hrm⟩ := ok.rm
    have hp := mts_plain hes
    simp only [List.all_cons, Bool.and_eq_true] at hp
    refine ps_imp (ps_raise ok.calm ok.tk (pmk_prob T hrm ((se_all es).pa ok hes) g1 (star_plain hp.1) (back_none (by simp only [List.all_cons, Bool.and_eq_true]; exact hp.2)))) fun D σ H ⟨φ, F, A, hr, fr, q⟩ => ?_
    refine ⟨φ, F, A, hr, fr, (okSP.bns (r := evs cl es F A) q hr fr).imp fun ds A1 φ1 H1 e1 hr1 q1 vs rv => ?_⟩
    split at q1
    · rename_i d1 d2
      obtain ⟨v1, v2, rfl, r1, r2⟩ := rv.two
      refine ⟨v1, v2, rfl, fun d hd => ?_⟩
      have x2 : Ext φ1 H1 φ1 (upd H1 d (.xd (xdP v1 v2))) := Ext.beside hd
      exact q1 φ1 _ x2 (hr1.beside hd) σ _ _ ((fr.ext hr e1).ext hr1 x2) ⟨C, T.gC, rfl, .inr ⟨d1, d2, v1, v2, d, rfl, rfl, rfl, upd_same, r1.ext hr1 x2, r2.ext hr1 x2⟩⟩
    · exact q1.elim
  · cases h

/-! ### an except clause's suite -/
theorem XRep.ext {G : Md} {φ φ' : Ph} {H H' : Hp} {A : AH} {x : Xc} {cls : Value} {d : Option Addr} (hr : HR G φ H A) (e : Ext φ H φ' H') (r : XRep G φ H x cls d) : XRep G φ' H' x cls d := by
  obtain ⟨C, g, rfl, h⟩ := r
  refine ⟨C, g, rfl, ?_⟩
  rcases h with h | ⟨d1, d2, v1, v2, a, h1, h2, h3, h4, r1, r2⟩
  · exact .inl h
  · exact .inr ⟨d1, d2, v1, v2, a, h1, h2, h3, e.keep a _ h4 (hr.notMem h4 (fun z => z)), r1.ext hr e, r2.ext hr e⟩
def tH (G : Md) (i : Option Nat) (a : Addr) (cls : Value) (d : Option Addr) (e : HE) : TE := fun σ H Q => ∃ φ A x r, HR G φ H A ∧ XRep G φ H x cls d ∧ (∀ j, i = some j → σ[j]? = some (some (V.ref a))) ∧ evH x e = some r ∧ VC G φ H Q r A
def tHs (G : Md) (i : Option Nat) (a : Addr) (cls : Value) (d : Option Addr) (e : HE) : TA := fun σ H Q => ∃ φ A x rs, HR G φ H A ∧ XRep G φ H x cls d ∧ (∀ j, i = some j → σ[j]? = some (some (V.ref a))) ∧ evHs x e = some rs ∧
  ∀ φ' H' vs, Ext φ H φ' H' → HR G φ' H' A → Reps G φ' H' rs vs → Q vs H'
theorem mhe_plain {e : HE} {nm : Option Str} {x : Expr} (h : mhe e nm x = true) : plainB x = true := by
  cases x <;> first | rfl | (exfalso; revert h; cases e <;> cases nm <;> simp [mhe])
theorem mhes_plain : ∀ {e : HE} {nm : Option Str} {xs : List Expr}, mhes e nm xs = true → xs.all plainB = true
  | .nil, nm, xs, h => by
    cases xs with
    | nil => rfl
    | cons => simp [mhes] at h
  | .cons a r, nm, xs, h => by
    cases xs with
    | nil => rfl
    | cons x xs =>
      have h : mhe a nm x = true ∧ mhes r nm xs = true := by simpa [mhes] using h
      rw [List.all_cons, mhe_plain h.1, mhes_plain h.2]; rfl
  | .non, _, _, h | .bl _, _, _, h | .int _, _, _, h | .str _, _, _, h | .fld _, _, _, h | .tup _, _, _, h => by simp [mhes] at h
section
variable {c : SC} {i : Option Nat} {nm : Option Str} {a : Addr} {oe : Obj} {cls : Value} {d : Option Addr} {pn : List (Addr × Obj)}
theorem he_both (ok : CtxOk X c cl W) (hi : inB i c nm = true) (hx : nm.isSome = true → c.xpb = true) (hz : Zc cls d oe) (hf : ∃ vs, oe.data = .fields vs) : ∀ e : HE,
    (∀ {x : Expr}, mhe e nm x = true → PE (X.suite a ((a, oe) :: pn)) x (tH (Gd X) i a cls d e)) ∧ (∀ {xs : List Expr}, mhes e nm xs = true → PA (X.suite a ((a, oe) :: pn)) xs (tHs (Gd X) i a cls d e))
  | .non => ⟨fun {x} h => by
      cases x <;> first | (simp [mhe] at h; done) | skip
      rename_i k j p
      cases k <;> first | (simp [mhe] at h; done) | skip
      exact pe_imp pe_non fun σ H Q ⟨φ, A, x, r, hr, xr, hs, he, q⟩ => by cases he; exact q.here hr rfl, fun h => by simp [mhes] at h⟩
  | .bl b => ⟨fun {x} h => by
      cases x <;> first | (simp [mhe] at h; done) | skip
      rename_i k j p
      cases k <;> first | (simp [mhe] at h; done) | skip
      rename_i z
      have h : b = z := by simpa [mhe] using h
      subst h
      exact pe_imp pe_bl fun σ H Q ⟨φ, A, x, r, hr, xr, hs, he, q⟩ => by cases he; exact q.here hr rfl, fun h => by simp [mhes] at h⟩
  | .int b => ⟨fun {x} h => by
      cases x <;> first | (simp [mhe] at h; done) | skip
      rename_i k j p
      cases k <;> first | (simp [mhe] at h; done) | skip
      rename_i z
      have h : b = z := by simpa [mhe] using h
      subst h
      exact pe_imp pe_int fun σ H Q ⟨φ, A, x, r, hr, xr, hs, he, q⟩ => by cases he; exact q.here hr rfl, fun h => by simp [mhes] at h⟩
  | .str b => ⟨fun {x} h => by
      cases x <;> first | (simp [mhe] at h; done) | skip
      rename_i k j p
      cases k <;> first | (simp [mhe] at h; done) | skip
      rename_i z
      have h : z = Str.ofString b := by simpa [mhe] using h
      subst h
      exact pe_imp pe_str fun σ H Q ⟨φ, A, x, r, hr, xr, hs, he, q⟩ => by cases he; exact q.here hr rfl, fun h => by simp [mhes] at h⟩
  | .fld f => ⟨fun {x} h => by
      cases nm with
      | none => simp [mhe] at h
      | some n =>
        cases x <;> first | (simp [mhe] at h; done) | skip
        rename_i o g p
        cases o <;> first | (simp [mhe] at h; done) | skip
        rename_i m p2
        have h : (decide (m = n) && decide (g = Str.ofString f) && (decide (f = "code") || decide (f = "path"))) = true := h
        simp only [Bool.and_eq_true, Bool.or_eq_true, decide_eq_true_eq] at h
        obtain ⟨⟨rfl, rfl⟩, hff⟩ := h
        cases i with
        | none => simp [inB] at hi
        | some i =>
          have hi : (decide (c.N[i]? = some m) && decide (c.sc.names.lookup m = some .local) && decide ((m == ("__debug__" : Str)) = false) && decide ((m == ("__classdict__" : Str)) = false)) = true := hi
          simp only [Bool.and_eq_true, decide_eq_true_eq] at hi
          obtain ⟨⟨⟨i1, i2⟩, i3⟩, i4⟩ := hi
          obtain ⟨C, fI, T⟩ := ok.tab.prob (hx rfl)
          have hv : PE (X.suite a ((a, oe) :: pn)) (.Name m p2) _ := pe_var (X := X.suite a ((a, oe) :: pn)) (i := i) (by show X.N[i]? = _; rw [ok.N]; exact i1) (by
            show Vis X.env.scope m
            rw [ok.sc]
            unfold Vis
            simp [i2]) i3 i4
          have hn : PySem.W.findIn X.K (.ref C) (Str.ofString f) = some none := by
            rcases hff with rfl | rfl
            · exact T.noC
            · exact T.noP
          refine pe_imp (pe_fldP (X := X) T hn hz hf hv (attr_plain (e := .var i) (c := c) (by
            show (decide (c.N[i]? = some m) && visB c.sc m && decide ((m == ("__debug__" : Str)) = false) && decide ((m == ("__classdict__" : Str)) = false)) = true
            simp [i1, i3, i4, visB, i2]))) fun σ H Q ⟨φ, A, x, r, hr, xr, hs, he, q⟩ => ?_
          refine ⟨.ref a, hs i rfl, rfl, ?_⟩
          obtain ⟨C', g', rfl, ⟨h1, _⟩ | ⟨d1, d2, v1, v2, dd, hcl, h1, h2, h3, r1, r2⟩⟩ := xr
          · have he : fget x.fs f = some r := he
            rw [h1] at he; cases he
          · have hC : C' = C := by
              rw [hcl] at g'
              have := g'.symm.trans T.gC
              cases this; rfl
            subst hC
            have he : fget x.fs f = some r := he
            rw [h1] at he
            rcases hff with rfl | rfl
            · have : d1 = r := by simpa [fget] using he
              subst this
              exact ⟨rfl, dd, v1, v2, v1, h2, h3, xdP_code, q.here hr r1⟩
            · have : d2 = r := by simpa [fget] using he
              subst this
              exact ⟨rfl, dd, v1, v2, v2, h2, h3, xdP_path, q.here hr r2⟩, fun h => by simp [mhes] at h⟩
  | .tup es => ⟨fun {x} h => by
      cases x <;> first | (simp [mhe] at h; done) | skip
      rename_i xs k p
      have h : mhes es nm xs = true := h
      refine pe_imp (pe_tup ((he_both ok hi hx hz hf es).2 h)) fun σ H Q ⟨φ, A, x, r, hr, xr, hs, he, q⟩ => ?_
      have he : (match evHs x es with | some ds => if ds.length ≤ sizeLine then some (D.tup ds) else none | none => none) = some r := he
      cases e : evHs x es with
      | none => rw [e] at he; cases he
      | some ds =>
        rw [e] at he
        by_cases hl : ds.length ≤ sizeLine
        · simp only [if_pos hl] at he
          cases he
          exact ⟨φ, A, x, ds, hr, xr, hs, e, fun φ' H' vs e' hr' rv => ⟨by rw [rv.length]; exact hl, fun p hp => (q.ext e').tup hr' hp rv⟩⟩
        · simp only [if_neg hl] at he; (cases he), fun h => by simp [mhes] at h⟩
  | .nil => ⟨fun h => by simp [mhe] at h, fun {xs} h => by
      cases xs with
      | nil => exact pa_imp pa_nil fun σ H Q ⟨φ, A, x, rs, hr, xr, hs, he, q⟩ => by cases he; exact q φ H [] .refl hr rfl
      | cons => simp [mhes] at h⟩
  | .cons b r => ⟨fun h => by simp [mhe] at h, fun {xs} h => by
      cases xs with
      | nil => simp [mhes] at h
      | cons x xs =>
        have h : (mhe b nm x && mhes r nm xs) = true := h
        simp only [Bool.and_eq_true] at h
        refine pa_imp (pa_cons ((he_both ok hi hx hz hf b).1 h.1) ((he_both ok hi hx hz hf r).2 h.2) (star_plain (mhe_plain h.1))) fun σ H Q ⟨φ, A, x, rs, hr, xr, hs, he, q⟩ => ?_
        have he : (match evH x b, evHs x r with | some d, some ds => some (d :: ds) | _, _ => none) = some rs := he
        cases e1 : evH x b with
        | none => rw [e1] at he; cases he
        | some d1 =>
          cases e2 : evHs x r with
          | none => rw [e1, e2] at he; cases he
          | some ds =>
            rw [e1, e2] at he
            cases he
            exact ⟨φ, A, x, d1, hr, xr, hs, e1, fun φ1 H1 v e3 hr1 rv => ⟨φ1, A, x, ds, hr1, xr.ext hr e3, hs, e2, fun φ2 H2 vs e4 hr2 rvs => q φ2 H2 _ (e3.trans e4) hr2 (.cons (rv.ext hr1 e4) rvs)⟩⟩⟩
def tHd (G : Md) (i : Option Nat) (h : Hd) (a : Addr) (cls : Value) (d : Option Addr) : TS := fun D σ H => ∃ x φ F A, HR G φ H A ∧ FR G φ H F σ ∧ XRep G φ H x cls d ∧ (∀ j, i = some j → σ[j]? = some (some (V.ref a))) ∧ okSP G φ H (pEnds G (fun _ _ _ _ => False) D) (hdS x h F A)
theorem hd_ok (ok : CtxOk X c cl W) (hi : inB i c nm = true) (hx : nm.isSome = true → c.xpb = true) (hz : Zc cls d oe) (hf : ∃ vs, oe.data = .fields vs) {h : Hd} {sts : List Stmt} (hm : mhd h c nm sts = true) :
    PSs (X.suite a ((a, oe) :: pn)) sts (tHd (Gd X) i h a cls d) := by
  have bd := he_both (a := a) (pn := pn) ok hi hx hz hf
  cases h with
  | ret e =>
    rcases sts with _ | ⟨st, _ | _⟩ <;> first | (simp [mhd] at hm; done) | skip
    · cases st <;> first | (simp [mhd] at hm; done) | skip
      rename_i o pos
      cases o <;> first | (simp [mhd] at hm; done) | skip
      rename_i x
      refine pss_imp (pss_cons (ps_ret ((bd e).1 hm)) pss_nil) fun D σ H ⟨x, φ, F, A, hr, fr, xr, hs, q⟩ => ?_
      have q : okSP (Gd X) φ H (pEnds (Gd X) (fun _ _ _ _ => False) D) (match evH x e with | some d => .rt d A | none => .no) := q
      cases he : evH x e with
      | none => rw [he] at q; exact q.elim
      | some r =>
        rw [he] at q
        exact ⟨φ, A, x, r, hr, xr, hs, he, fun φ' H' v e' hr' rv => q φ' H' e' hr' v rv⟩
    all_goals (exfalso; revert hm; cases st <;> simp [mhd]; done)
  | set j e =>
    rcases sts with _ | ⟨st, _ | _⟩ <;> first | (simp [mhd] at hm; done) | skip
    · cases st <;> first | (simp [mhd] at hm; done) | skip
      rename_i tgs x pos
      rcases tgs with _ | ⟨tg, _ | _⟩ <;> first | (simp [mhd] at hm; done) | skip
      · cases tg <;> first | (simp [mhd] at hm; done) | skip
        rename_i n py
        have hm : (decide (c.N[j]? = some n) && c.sto.contains n && mhe e nm x) = true := hm
        simp only [Bool.and_eq_true, decide_eq_true_eq] at hm
        obtain ⟨⟨hn, hs⟩, he⟩ := hm
        obtain ⟨h1, h2⟩ := ok.sto n (by simpa using hs)
        have hcs : compScope x = none := by
          cases x <;> first | rfl | (exfalso; revert he; cases e <;> cases nm <;> simp [mhe])
        refine pss_imp (pss_cons (ps_set (X := X.suite a ((a, oe) :: pn)) (i := j) (by show X.N.Nodup; rw [ok.N]; exact ok.nd) (by show X.N[j]? = _; rw [ok.N]; exact hn) h1 ((bd e).1 he) (sw_none hcs) h2) pss_nil) fun D σ H ⟨x, φ, F, A, hr, fr, xr, hs, q⟩ => ?_
        have q : okSP (Gd X) φ H (pEnds (Gd X) (fun _ _ _ _ => False) D) (match evH x e with | some d => .nx (fset F j d) A | none => .no) := q
        cases he : evH x e with
        | none => rw [he] at q; exact q.elim
        | some r =>
          rw [he] at q
          exact ⟨φ, A, x, r, hr, xr, hs, he, fun φ' H' v e' hr' rv => q φ' H' e' hr' _ ((fr.ext hr e').set j rv)⟩
    all_goals (exfalso; revert hm; cases st <;> simp [mhd]; done)
  | cont =>
    rcases sts with _ | ⟨st, _ | _⟩ <;> first | (simp [mhd] at hm; done) | skip
    · cases st <;> first | (simp [mhd] at hm; done) | skip
      exact pss_imp (pss_cons ps_continue pss_nil) fun D σ H ⟨x, φ, F, A, hr, fr, xr, hs, q⟩ => q φ H .refl hr σ fr
    all_goals (exfalso; revert hm; cases st <;> simp [mhd]; done)
  | brk =>
    rcases sts with _ | ⟨st, _ | _⟩ <;> first | (simp [mhd] at hm; done) | skip
    · cases st <;> first | (simp [mhd] at hm; done) | skip
      exact pss_imp (pss_cons ps_break pss_nil) fun D σ H ⟨x, φ, F, A, hr, fr, xr, hs, q⟩ => q φ H .refl hr σ fr
    all_goals (exfalso; revert hm; cases st <;> simp [mhd]; done)
  | pas =>
    rcases sts with _ | ⟨st, _ | _⟩ <;> first | (simp [mhd] at hm; done) | skip
    · cases st <;> first | (simp [mhd] at hm; done) | skip
      exact pss_imp (pss_cons ps_pass pss_nil) fun D σ H ⟨x, φ, F, A, hr, fr, xr, hs, q⟩ => q φ H .refl hr σ fr
    all_goals (exfalso; revert hm; cases st <;> simp [mhd]; done)
end
theorem FR.set0 {G : Md} {φ : Ph} {H : Hp} {F : Fr} {σ : L2.St} (r : FR G φ H F σ) (i : Nat) (o : Option V) : FR G φ H (F.set i none) (σ.set i o) := by
  refine ⟨by simp [r.1], fun j e h => ?_⟩
  by_cases hj : i = j
  · subst hj
    by_cases hl : i < F.length
    · rw [List.getElem?_set_self hl] at h; cases h
    · rw [List.getElem?_eq_none (by simpa using hl)] at h; cases h
  · rw [List.getElem?_set_ne hj] at h
    obtain ⟨w, e1, r1⟩ := r.2 j e h
    exact ⟨w, by rw [List.getElem?_set_ne hj]; exact e1, r1⟩
theorem CtxOk.tr {c : SC} (ok : CtxOk X c cl W) {W' : WX} {pn : List (Addr × Obj)} {xe : Value → Shared → Prop} (tk : Takes (X.tr pn xe) W') (ps : PassesOwn (model X.prog X.w) X.A X.env xe) : CtxOk (X.tr pn xe) c cl W' :=
  { N := ok.N, nd := ok.nd, sc := ok.sc, calm := ok.calm, kd := ok.kd, hu := ok.hu, tk := tk, ps := ps, fb := ok.fb, bn := ok.bn, sto := ok.sto, calls := ok.calls, csts := ok.csts, mks := ok.mks, meths := ok.meths, tab := ok.tab, rm := ok.rm }
theorem tr_exc {c : SC} {k : String} {cs : List String} (ok : CtxOk X c cl W) (hk : k ∈ c.xcs) (hcs : cs.all c.xcs.contains = true) {φ : Ph} {H : Hp} {x : Xc} {cls : Value} {dd : Option Addr} {C : Value} (hC : X.mg (Str.ofString k) = some C) (xr : XRep (Gd X) φ H x cls dd)
    (hx : x.cls = k ∨ cs.contains x.cls = true) : PySem.W.exmOne X.K cls C = some (decide (x.cls = k)) := by
  have hm : x.cls ∈ c.xcs := by
    rcases hx with h | h
    · rw [h]; exact hk
    · have := List.all_eq_true.mp hcs x.cls (by simpa using h)
      simpa using this
  obtain ⟨C1, C2, g1, g2, e⟩ := ok.tab.xcs _ hm _ hk
  obtain ⟨C', g', rfl, _⟩ := xr
  have h1 := g'.symm.trans g1
  cases h1
  have h2 := hC.symm.trans g2
  cases h2
  exact e
theorem st_tr {c : SC} {b : Sm} {k : String} {cs : List String} {i : Option Nat} {h : Hd} {st : Stmt} (ok : CtxOk X c cl W) (so : StOk X)
    (hb : ∀ {X : Cx} {W : WX}, CtxOk X c cl W → StOk X → ∀ {sts : List Stmt}, mss b c sts = true → PSs X sts (tS (Gd X) cl N W b)) (hm : mst (.tr b k cs i h) c st = true) : PS X st (tS (Gd X) cl N W (.tr b k cs i h)) := by
  cases st <;> first | (simp [mst] at hm; done) | skip
  rename_i body hds el fi pos
  unfold mst at hm
  split at hm
  · rename_i body' n np nm suite hp pos' hst
    cases hst
    simp only [Bool.and_eq_true, decide_eq_true_eq, Bool.or_eq_true, Bool.not_eq_true'] at hm
    obtain ⟨⟨⟨⟨⟨⟨⟨rfl, hg⟩, hk⟩, hcs⟩, hpb⟩, hi⟩, hbd⟩, hh⟩ := hm
    obtain ⟨g1, g2, g3⟩ := glB_gl ok hg
    have hk : k ∈ c.xcs := by simpa using hk
    have hpb : nm.isSome = true → c.xpb = true := fun z => by
      rcases hpb with y | y
      · rw [y] at z; cases z
      · exact y
    obtain ⟨C, C2, hC, hC2, _⟩ := ok.tab.xcs _ hk _ hk
    have nms : Names X (Str.ofString k) (.ref C) := ⟨g1, g2, .inl hC⟩
    rcases suite with _ | ⟨b0, suite⟩
    · exfalso
      cases h <;> simp [mhd] at hh
    cases nm with
    | none =>
      cases i with
      | some i => simp [inB] at hi
      | none =>
        refine ps_imp (ps_try_only (tb := fun W => tS (Gd X) cl N W b) (ts := fun a cls d => tHd (Gd X) none h a cls d) so.stk so.frm nms ok.tk
          (fun W' pn xe tk ps => hb (X := X.tr pn xe) (ok.tr tk ps) ⟨so.stk, so.frm⟩ hbd) (fun a oe cls d pn hz hf => hd_ok ok hi hpb hz hf hh)) fun D σ H ⟨φ, F, A, hr, fr, q⟩ => ?_
        refine ⟨φ, F, A, hr, fr, ?_⟩
        have q : okSP (Gd X) φ H (pEnds (Gd X) W D) (trR k cs none h (sx cl N b F A)) := q
        cases e : sx cl N b F A with
        | nx F' A' => rw [e] at q; exact q
        | bk F' A' => rw [e] at q; exact q
        | ct F' A' => rw [e] at q; exact q
        | rt d A' => rw [e] at q; exact q
        | no => rw [e] at q; exact q
        | exc x F' A' =>
          rw [e] at q
          intro φ' H' e' hr' σ' cls dd fr' xr
          have q : okSP (Gd X) φ H (pEnds (Gd X) W D) (if x.cls = k then (if inO F' none then wipS none (hdS x h (wipeO F' none) A') else .no) else if cs.contains x.cls then .exc x F' A' else .no) := q
          by_cases hx : x.cls = k
          · refine ⟨true, by rw [tr_exc ok hk hcs hC xr (.inl hx), decide_eq_true hx], fun _ a ha => ?_, fun z => by cases z⟩
            rw [if_pos hx, if_pos (show inO F' none = true from rfl)] at q
            have q := q.ext e'
            refine ⟨x, φ', F', A', hr', fr', xr, fun j z => (by cases z), ?_⟩
            show okSP _ _ _ _ (hdS x h (wipeO F' none) A')
            cases e2 : hdS x h (wipeO F' none) A' with
            | nx F2 A2 => rw [e2] at q; exact q
            | bk F2 A2 => rw [e2] at q; exact q
            | ct F2 A2 => rw [e2] at q; exact q
            | rt d A2 => rw [e2] at q; exact q
            | exc y F2 A2 => rw [e2] at q; exact q.elim
            | no => rw [e2] at q; exact q.elim
          · rw [if_neg hx] at q
            by_cases hc : cs.contains x.cls = true
            · rw [if_pos hc] at q
              refine ⟨false, by rw [tr_exc ok hk hcs hC xr (.inr hc), decide_eq_false hx], fun z => (by cases z), fun _ => ?_⟩
              exact q φ' H' e' hr' σ' cls dd fr' xr
            · rw [if_neg hc] at q; exact q.elim
    | some n =>
      cases i with
      | none => simp [inB] at hi
      | some i =>
        have hi' : (decide (c.N[i]? = some n) && decide (c.sc.names.lookup n = some .local) && decide ((n == ("__debug__" : Str)) = false) && decide ((n == ("__classdict__" : Str)) = false)) = true := hi
        simp only [Bool.and_eq_true, decide_eq_true_eq] at hi'
        obtain ⟨⟨⟨i1, i2⟩, i3⟩, i4⟩ := hi'
        refine ps_imp (ps_try_as (i := i) (tb := fun W => tS (Gd X) cl N W b) (ts := fun a cls d => tHd (Gd X) (some i) h a cls d) so.stk so.frm (by rw [ok.N]; exact ok.nd) (by rw [ok.N]; exact i1) (by show X.env.scope.names.lookup n = _; rw [ok.sc]; exact i2) nms ok.tk
          (fun W' pn xe tk ps => hb (X := X.tr pn xe) (ok.tr tk ps) ⟨so.stk, so.frm⟩ hbd) (fun a oe cls d pn hz hf => hd_ok ok hi hpb hz hf hh)) fun D σ H ⟨φ, F, A, hr, fr, q⟩ => ?_
        refine ⟨φ, F, A, hr, fr, ?_⟩
        have q : okSP (Gd X) φ H (pEnds (Gd X) W D) (trR k cs (some i) h (sx cl N b F A)) := q
        cases e : sx cl N b F A with
        | nx F' A' => rw [e] at q; exact q
        | bk F' A' => rw [e] at q; exact q
        | ct F' A' => rw [e] at q; exact q
        | rt d A' => rw [e] at q; exact q
        | no => rw [e] at q; exact q
        | exc x F' A' =>
          rw [e] at q
          intro φ' H' e' hr' σ' cls dd fr' xr
          have q : okSP (Gd X) φ H (pEnds (Gd X) W D) (if x.cls = k then (if inO F' (some i) then wipS (some i) (hdS x h (wipeO F' (some i)) A') else .no) else if cs.contains x.cls then .exc x F' A' else .no) := q
          by_cases hx : x.cls = k
          · refine ⟨true, by rw [tr_exc ok hk hcs hC xr (.inl hx), decide_eq_true hx], fun _ a ha => ?_, fun z => by cases z⟩
            rw [if_pos hx] at q
            by_cases hio : inO F' (some i) = true
            · rw [if_pos hio] at q
              have q := q.ext e'
              have hil : i < σ'.length := by
                rw [← fr'.1]
                simpa [inO] using hio
              refine ⟨x, φ', F'.set i none, A', hr', fr'.set0 i _, xr, fun j z => (by cases z; rw [List.getElem?_set_self hil]), ?_⟩
              show okSP _ _ _ _ (hdS x h (wipeO F' (some i)) A')
              cases e2 : hdS x h (wipeO F' (some i)) A' with
              | nx F2 A2 => rw [e2] at q; exact fun φ2 H2 e3 hr3 σ2 fr2 => q φ2 H2 e3 hr3 _ (fr2.set0 i none)
              | bk F2 A2 => rw [e2] at q; exact fun φ2 H2 e3 hr3 σ2 fr2 => q φ2 H2 e3 hr3 _ (fr2.set0 i none)
              | ct F2 A2 => rw [e2] at q; exact fun φ2 H2 e3 hr3 σ2 fr2 => q φ2 H2 e3 hr3 _ (fr2.set0 i none)
              | rt d A2 => rw [e2] at q; exact q
              | exc y F2 A2 => rw [e2] at q; exact q.elim
              | no => rw [e2] at q; exact q.elim
            · rw [if_neg hio] at q; exact q.elim
          · rw [if_neg hx] at q
            by_cases hc : cs.contains x.cls = true
            · rw [if_pos hc] at q
              refine ⟨false, by rw [tr_exc ok hk hcs hC xr (.inr hc), decide_eq_false hx], fun z => (by cases z), fun _ => ?_⟩
              exact q φ' H' e' hr' σ' cls dd fr' xr
            · rw [if_neg hc] at q; exact q.elim
  · cases hm
end
end Ev

/-! ## EvSt3 -/
/-! EvSt3: pairs of names; all statements. -/
namespace Ev
open PySem PySem.Spec PyProof.Rows L2
section
variable {X : Cx} {cl : Cl} {N : Nat} {W : WX}
theorem nostar : ∀ {vs : List Expr}, vs.all plainB = true → (vs.any fun | .Starred .. => true | _ => false) = false
  | [], _ => rfl
  | x :: xs, h => by
    simp only [List.all_cons, Bool.and_eq_true] at h
    rw [List.any_cons, nostar h.2, Bool.or_false]
    cases x <;> first | rfl | (cases h.1; done)
theorem sw_par2 {env : Env} {n m : Str} {p q pt pt2 : Pos} {k k2 : Nat} {a b : Expr} (hk : env.scope.kind = .function) (hp : [a, b].all plainB = true) (h1 : env.scope.names.lookup n = some .local) (h2 : env.scope.names.lookup m = some .local) (hl : (q.line == p.line) = true) (hne : n ≠ m)
    (hf : [a, b].all (foldedForSure 8) = false) (hc : [a, b].all (constantsAlone 8) = false) : swappedStores [.Tuple [.Name n p, .Name m q] k pt] (.Tuple [a, b] k2 pt2) env = pure (some [n, m]) := by
  have hb : env.blockKind = .function := by unfold Env.blockKind; rw [hk]; rfl
  have k1 : env.kindOf n = some .local := h1
  have k2' : env.kindOf m = some .local := h2
  have hs := nostar hp
  have hl' : q.line = p.line := by simpa using hl
  unfold swappedStores
  simp only [hb, hs, hf, hc, k1, k2', List.filterMap_cons, List.filterMap_nil, Expr.pos, List.head?_cons, Option.map_some, Option.getD_some, hl', List.length_cons, List.length_nil]
  simp [List.eraseDups_cons, hne, Ne.symm hne]
  intro h
  exfalso
  simp only [List.all_cons, Bool.and_eq_true] at hp
  rcases h with h | h
  · cases a <;> first | (cases h; done) | (cases hp.1; done)
  · cases b <;> first | (cases h; done) | (cases hp.2.1; done)
theorem sw_par3 {env : Env} {n m l : Str} {p q r pt pt2 : Pos} {k k2 : Nat} {a b c : Expr} (hk : env.scope.kind = .function) (hp : [a, b, c].all plainB = true) (h1 : env.scope.names.lookup n = some .local) (h2 : env.scope.names.lookup m = some .local) (h3 : env.scope.names.lookup l = some .local)
    (hl : (q.line == p.line) = true) (hl2 : (r.line == p.line) = true) (hne : n ≠ m) (hne2 : n ≠ l) (hne3 : m ≠ l)
    (hf : [a, b, c].all (foldedForSure 8) = false) (hc : [a, b, c].all (constantsAlone 8) = false) : swappedStores [.Tuple [.Name n p, .Name m q, .Name l r] k pt] (.Tuple [a, b, c] k2 pt2) env = pure (some [n, m, l]) := by
  have hb : env.blockKind = .function := by unfold Env.blockKind; rw [hk]; rfl
  have k1 : env.kindOf n = some .local := h1
  have k2' : env.kindOf m = some .local := h2
  have k3' : env.kindOf l = some .local := h3
  have hs := nostar hp
  have hl' : q.line = p.line := by simpa using hl
  have hl2' : r.line = p.line := by simpa using hl2
  unfold swappedStores
  simp only [hb, hs, hf, hc, k1, k2', k3', List.filterMap_cons, List.filterMap_nil, Expr.pos, List.head?_cons, Option.map_some, Option.getD_some, hl', hl2', List.length_cons, List.length_nil]
  simp [List.eraseDups_cons, hne, Ne.symm hne, hne2, Ne.symm hne2, hne3, Ne.symm hne3]
  intro h
  exfalso
  simp only [List.all_cons, Bool.and_eq_true] at hp
  rcases h with h | h | h
  · cases a <;> first | (cases h; done) | (cases hp.1; done)
  · cases b <;> first | (cases h; done) | (cases hp.2.1; done)
  · cases c <;> first | (cases h; done) | (cases hp.2.2.1; done)
theorem ev_tup {es : Ex} {F : Fr} {A : AH} : ev cl (.tup es) F A = bnd (evs cl es F A) fun ds A' => if ds.length ≤ sizeLine then .ok (.tup ds) A' else .no := rfl
/-- the values first, then the stores -/
theorem par_go {t : Tg} {es : Ex} {D : Ends} {σ : L2.St} {H : Hp} {K : List V → Hp → Prop} (h : tS (Gd X) cl N W (.asg t (.tup es)) D σ H)
    (k : ∀ φ H1 F ds F' vs, FR (Gd X) φ H1 F σ → Reps (Gd X) φ H1 ds vs → asgT t (.tup ds) F = some F' → (∀ σ', FR (Gd X) φ H1 F' σ' → D.nx σ' H1) → K vs H1) : tA (Gd X) cl W es σ H K := by
  obtain ⟨φ, F, A, hr, fr, q⟩ := h
  refine ⟨φ, F, A, hr, fr, (okG.bnd (r := evs cl es F A) (okSP.bns (r := ev cl (.tup es) F A) q hr fr)).imp fun ds A1 φ1 H1 e1 hr1 q1 vs rv => ?_⟩
  split at q1
  · have q2 : okSP (Gd X) φ1 H1 (pEnds (Gd X) W D) (match asgT t (.tup ds) F with
      | some F' => .nx F' A1
      | none => .no) := q1 φ1 H1 .refl hr1
    cases ha : asgT t (.tup ds) F with
    | none => rw [ha] at q2; exact q2.elim
    | some F' =>
      rw [ha] at q2
      exact k φ1 H1 F ds F' vs (fr.ext hr e1) rv ha fun σ' frσ => q2 φ1 H1 .refl hr1 σ' frσ
  · exact q1.elim
theorem slot_ne {c : SC} {i j : Nat} {n m : Str} (hi : c.N[i]? = some n) (hj : c.N[j]? = some m) (hne : n ≠ m) : i ≠ j := fun e => by
  subst e
  rw [hi] at hj
  cases hj
  exact hne rfl
theorem st_par {c : SC} {t : Tg} {e : Ex} {tg x : Expr} {pos : Pos} (ok : CtxOk X c cl W) (ht : mtt t c tg = true) (he : mt e c x = true) (h : parB c.sc tg x = true) : PS X (.Assign [tg] x pos) (tS (Gd X) cl N W (.asg t e)) := by
  have nm : ∀ {a : Tg} {n : Str} {p : Pos}, mtt a c (.Name n p) = true → ∃ i, a = .nm i ∧ c.N[i]? = some n := fun {a n p} h => by
    cases a with
    | nm i =>
      have h : (decide (c.N[i]? = some n) && c.sto.contains n) = true := h
      simp only [Bool.and_eq_true, decide_eq_true_eq] at h
      exact ⟨i, rfl, h.1⟩
    | _ => simp [mtt] at h
  have tup : ∀ {e : Ex} {vs : List Expr} {k : Nat} {p : Pos}, mt e c (.Tuple vs k p) = true → ∃ es, e = .tup es ∧ mts es c vs = true := fun {e vs k p} h => by
    cases e with
    | tup es => exact ⟨es, rfl, h⟩
    | _ => simp [mt] at h
  unfold parB at h
  split at h
  · rename_i n p m q k pt vs k2 pt2
    simp only [Bool.and_eq_true, decide_eq_true_eq, Bool.not_eq_true'] at h
    obtain ⟨⟨⟨⟨⟨⟨hl, h1⟩, h2⟩, h3⟩, hne⟩, hf⟩, hc⟩ := h
    obtain ⟨es, rfl, hes⟩ := tup he
    have hp := mts_plain hes
    rcases vs with _ | ⟨a, _ | ⟨b, _ | _⟩⟩ <;> first | (simp at hl; done) | skip
    cases t <;> first | (simp [mtt] at ht; done) | skip
    rename_i ts
    rcases ts with _ | _ | _ | ⟨t1, t2⟩ <;> first | (simp [mtt, mtts] at ht; done) | skip
    rcases t2 with _ | _ | _ | ⟨t2, t3⟩ <;> first | (simp [mtt, mtts] at ht; done) | skip
    rcases t3 with _ | _ | _ | ⟨t3, t4⟩ <;> first | (simp [mtt, mtts] at ht; done) | skip
    have ht : (mtt t1 c (.Name n p) && (mtt t2 c (.Name m q) && true)) = true := ht
    simp only [Bool.and_eq_true] at ht
    obtain ⟨i, rfl, hi⟩ := nm ht.1
    obtain ⟨j, rfl, hj⟩ := nm ht.2.1
    have hij := slot_ne hi hj hne
    refine ps_imp (ps_par (i := i) (j := j) ok.calm (by rw [ok.N]; exact ok.nd) (by rw [ok.N]; exact hi) (by rw [ok.N]; exact hj) hij (by rw [ok.sc]; exact h1) (by rw [ok.sc]; exact h2) ((se_all es).pa ok hes)
      (sw_par2 ok.kd hp (by rw [ok.sc]; exact h1) (by rw [ok.sc]; exact h2) h3 hne hf hc)) fun D σ H q => ?_
    refine par_go q fun φ H1 F ds F' vs fr rv ha k => ?_
    rcases ds with _ | ⟨d, _ | ⟨d2, _ | _⟩⟩ <;> first | (simp [asgT, asgTs] at ha; done) | skip
    obtain ⟨v, w, rfl, r1, r2⟩ := rv.two
    simp [asgT, asgTs] at ha
    subst ha
    exact ⟨v, w, rfl, k _ ((fr.set i r1).set j r2)⟩
  · rename_i n p m q l r k pt vs k2 pt2
    simp only [Bool.and_eq_true, decide_eq_true_eq, Bool.not_eq_true'] at h
    obtain ⟨⟨⟨⟨⟨⟨⟨⟨⟨⟨hl, h1⟩, h2⟩, h2'⟩, h3⟩, h3'⟩, hne⟩, hne2⟩, hne3⟩, hf⟩, hc⟩ := h
    obtain ⟨es, rfl, hes⟩ := tup he
    have hp := mts_plain hes
    rcases vs with _ | ⟨a, _ | ⟨b, _ | ⟨b2, _ | _⟩⟩⟩ <;> first | (simp at hl; done) | skip
    cases t <;> first | (simp [mtt] at ht; done) | skip
    rename_i ts
    rcases ts with _ | _ | _ | ⟨t1, t2⟩ <;> first | (simp [mtt, mtts] at ht; done) | skip
    rcases t2 with _ | _ | _ | ⟨t2, t3⟩ <;> first | (simp [mtt, mtts] at ht; done) | skip
    rcases t3 with _ | _ | _ | ⟨t3, t4⟩ <;> first | (simp [mtt, mtts] at ht; done) | skip
    rcases t4 with _ | _ | _ | ⟨t4, t5⟩ <;> first | (simp [mtt, mtts] at ht; done) | skip
    have ht : (mtt t1 c (.Name n p) && (mtt t2 c (.Name m q) && (mtt t3 c (.Name l r) && true))) = true := ht
    simp only [Bool.and_eq_true] at ht
    obtain ⟨i, rfl, hi⟩ := nm ht.1
    obtain ⟨j, rfl, hj⟩ := nm ht.2.1
    obtain ⟨u, rfl, hu⟩ := nm ht.2.2.1
    refine ps_imp (ps_par3 (i := i) (j := j) (l := u) ok.calm (by rw [ok.N]; exact ok.nd) (by rw [ok.N]; exact hi) (by rw [ok.N]; exact hj) (by rw [ok.N]; exact hu) (slot_ne hi hj hne) (slot_ne hi hu hne2) (slot_ne hj hu hne3) (by rw [ok.sc]; exact h1) (by rw [ok.sc]; exact h2) (by rw [ok.sc]; exact h2') ((se_all es).pa ok hes)
      (sw_par3 ok.kd hp (by rw [ok.sc]; exact h1) (by rw [ok.sc]; exact h2) (by rw [ok.sc]; exact h2') h3 h3' hne hne2 hne3 hf hc)) fun D σ H q => ?_
    refine par_go q fun φ H1 F ds F' vs fr rv ha k => ?_
    rcases ds with _ | ⟨d, _ | ⟨d2, _ | ⟨d3, _ | _⟩⟩⟩ <;> first | (simp [asgT, asgTs] at ha; done) | skip
    obtain ⟨v, vs, rfl, r1, rv⟩ := rv
    obtain ⟨w, z, rfl, r2, r3⟩ := rv.two
    simp [asgT, asgTs] at ha
    subst ha
    exact ⟨v, w, z, rfl, k _ (((fr.set i r1).set j r2).set u r3)⟩
  · cases h
theorem st_asg {c : SC} {t : Tg} {e : Ex} {st : Stmt} (ok : CtxOk X c cl W) (h : mst (.asg t e) c st = true) : PS X st (tS (Gd X) cl N W (.asg t e)) := by
  cases st <;> first | (simp [mst] at h; done) | skip
  rename_i tgs x pos
  rcases tgs with _ | ⟨tg, _ | _⟩ <;> first | (simp [mst] at h; done) | skip
  have h : (isTupSm t && mtt t c tg && mt e c x && (!isTup x || parB c.sc tg x)) = true := h
  simp only [Bool.and_eq_true] at h
  obtain ⟨⟨⟨h0, h1⟩, h2⟩, h3⟩ := h
  cases hb : parB c.sc tg x with
  | true => exact st_par ok h1 h2 hb
  | false =>
    rw [hb, Bool.or_false] at h3
    cases t <;> first | (cases h0; done) | skip
    rename_i ts
    cases tg <;> first | (simp [mtt] at h1; done) | skip
    refine ps_imp (ps_asg ((se_all e).pe ok h2) (pg_of ok h1) (by cases x <;> rfl) (by cases x <;> first | rfl | (cases h3; done))) fun D σ H ⟨φ, F, A, hr, fr, q⟩ => ?_
    refine ⟨φ, F, A, hr, fr, (okSP.bns (r := ev cl e F A) q hr fr).imp fun d A1 φ1 H1 e1 hr1 q1 v rv => ?_⟩
    cases ha : asgT (.tu ts) d F with
    | none => rw [ha] at q1; exact q1.elim
    | some F' =>
      rw [ha] at q1
      exact ⟨φ1, F, A1, d, F', hr1, fr.ext hr e1, rv, ha, fun σ' frσ _ => q1 φ1 H1 .refl hr1 σ' frσ⟩

/-! ### all -/
theorem st_ite {c : SC} {k : Ex} {a b : Sm} {st : Stmt} (ok : CtxOk X c cl W) (ha : ∀ {sts : List Stmt}, mss a c sts = true → PSs X sts (tS (Gd X) cl N W a)) (hb : ∀ {sts : List Stmt}, mss b c sts = true → PSs X sts (tS (Gd X) cl N W b))
    (h : mst (.ite k a b) c st = true) : PS X st (tS (Gd X) cl N W (.ite k a b)) := by
  cases st <;> first | (simp [mst] at h; done) | skip
  rename_i t xs ys pos
  have h : (mt k c t && mss a c xs && mss b c ys) = true := h
  simp only [Bool.and_eq_true] at h
  refine ps_imp (ps_if ((se_all k).pt ok h.1.1) (ha h.1.2) (hb h.2)) fun D σ H ⟨φ, F, A, hr, fr, q⟩ => ?_
  refine ⟨φ, F, A, hr, fr, (okSP.bns (r := tru (ev cl k F A)) q hr fr).imp fun r A1 φ1 H1 e1 hr1 q1 => ?_⟩
  cases r with
  | true => exact ⟨φ1, F, A1, hr1, fr.ext hr e1, q1⟩
  | false => exact ⟨φ1, F, A1, hr1, fr.ext hr e1, q1⟩
theorem st_for {c : SC} {t : Tg} {it : Ex} {b : Sm} {st : Stmt} (ok : CtxOk X c cl W) (hb : ∀ {sts : List Stmt}, mss b c sts = true → PSs X sts (tS (Gd X) cl N W b)) (h : mst (.for t it b) c st = true) : PS X st (tS (Gd X) cl N W (.for t it b)) := by
  cases st <;> first | (simp [mst] at h; done) | skip
  rename_i tg iter body orelse pos
  cases orelse <;> first | (simp [mst] at h; done) | skip
  have h : (mtw it c iter tg && mtt t c tg && mss b c body) = true := h
  simp only [Bool.and_eq_true] at h
  exact ps_imp (ps_unl (ps_for ok.ps ok.calm ((se_all it).pi ok h.1.1) (pg_of ok h.1.2) (hb h.2) (fun x => folded_plain (mtw_plain h.1.1)))) fun D σ H q => for_read q
theorem st_whl {c : SC} {k : Ex} {b : Sm} {st : Stmt} (ok : CtxOk X c cl W) (hb : ∀ {sts : List Stmt}, mss b c sts = true → PSs X sts (tS (Gd X) cl N W b)) (h : mst (.whl k b) c st = true) : PS X st (tS (Gd X) cl N W (.whl k b)) := by
  cases st <;> first | (simp [mst] at h; done) | skip
  rename_i t body orelse pos
  cases orelse <;> first | (simp [mst] at h; done) | skip
  have h : (mt k c t && mss b c body) = true := h
  simp only [Bool.and_eq_true] at h
  exact ps_imp (ps_while ok.ps ((se_all k).pt ok h.1) (hb h.2)) fun D σ H q => while_read q
theorem ss_seq {c : SC} {a b : Sm} {sts : List Stmt} (ha : ∀ {st : Stmt}, mst a c st = true → PS X st (tS (Gd X) cl N W a)) (hb : ∀ {sts : List Stmt}, mss b c sts = true → PSs X sts (tS (Gd X) cl N W b)) (h : mss (.seq a b) c sts = true) : PSs X sts (tS (Gd X) cl N W (.seq a b)) := by
  cases sts with
  | nil => simp [mss] at h
  | cons x xs =>
    have h : (mst a c x && mss b c xs) = true := by simpa [mss] using h
    simp only [Bool.and_eq_true] at h
    refine pss_imp (pss_cons (ha h.1) (hb h.2)) fun D σ H ⟨φ, F, A, hr, fr, q⟩ => ⟨φ, F, A, hr, fr, ?_⟩
    have q : okSP (Gd X) φ H (pEnds (Gd X) W D) (match sx cl N a F A with
      | .nx F' A' => sx cl N b F' A'
      | x => x) := q
    cases e : sx cl N a F A with
    | nx F' A' => rw [e] at q; exact fun φ' H' e' hr' σ' fr' => ⟨φ', F', A', hr', fr', okSP.ext (r := sx cl N b F' A') q e'⟩
    | bk F' A' => rw [e] at q; exact q
    | ct F' A' => rw [e] at q; exact q
    | rt d A' => rw [e] at q; exact q
    | exc y F' A' => rw [e] at q; exact q
    | no => rw [e] at q; exact q.elim
theorem ss_skip {c : SC} {sts : List Stmt} (h : mss .skip c sts = true) : PSs X sts (tS (Gd X) cl N W .skip) := by
  cases sts with
  | cons => simp [mss] at h
  | nil => exact pss_imp pss_nil fun D σ H ⟨φ, F, A, hr, fr, q⟩ => q φ H .refl hr σ fr
theorem st_skip {c : SC} {st : Stmt} (h : mst .skip c st = true) : PS X st (tS (Gd X) cl N W .skip) := by
  cases st <;> first | (simp [mst] at h; done) | skip
  exact ps_imp ps_pass fun D σ H ⟨φ, F, A, hr, fr, q⟩ => q φ H .refl hr σ fr
theorem st_brk {c : SC} {st : Stmt} (h : mst .brk c st = true) : PS X st (tS (Gd X) cl N W .brk) := by
  cases st <;> first | (simp [mst] at h; done) | skip
  exact ps_imp ps_break fun D σ H ⟨φ, F, A, hr, fr, q⟩ => q φ H .refl hr σ fr
theorem st_cont {c : SC} {st : Stmt} (h : mst .cont c st = true) : PS X st (tS (Gd X) cl N W .cont) := by
  cases st <;> first | (simp [mst] at h; done) | skip
  exact ps_imp ps_continue fun D σ H ⟨φ, F, A, hr, fr, q⟩ => q φ H .refl hr σ fr
theorem ss_all {cl : Cl} {N : Nat} {c : SC} : ∀ {X : Cx} {W : WX} (ok : CtxOk X c cl W) (so : StOk X) (b : Sm), (∀ {st : Stmt}, mst b c st = true → PS X st (tS (Gd X) cl N W b)) ∧ ∀ {sts : List Stmt}, mss b c sts = true → PSs X sts (tS (Gd X) cl N W b)
  | X, W, ok, so, .skip => ⟨st_skip, ss_skip⟩
  | X, W, ok, so, .seq a b => ⟨fun h => by simp [mst] at h, ss_seq (ss_all ok so a).1 (ss_all ok so b).2⟩
  | X, W, ok, so, .ex e => ⟨st_ex ok, fun h => by simp [mss] at h⟩
  | X, W, ok, so, .set i e => ⟨st_set ok, fun h => by simp [mss] at h⟩
  | X, W, ok, so, .asg t e => ⟨st_asg ok, fun h => by simp [mss] at h⟩
  | X, W, ok, so, .sub o i e => ⟨st_sub ok, fun h => by simp [mss] at h⟩
  | X, W, ok, so, .ret e => ⟨st_ret ok, fun h => by simp [mss] at h⟩
  | X, W, ok, so, .ite k a b => ⟨st_ite ok (ss_all ok so a).2 (ss_all ok so b).2, fun h => by simp [mss] at h⟩
  | X, W, ok, so, .for t it b => ⟨st_for ok (ss_all ok so b).2, fun h => by simp [mss] at h⟩
  | X, W, ok, so, .whl k b => ⟨st_whl ok (ss_all ok so b).2, fun h => by simp [mss] at h⟩
  | X, W, ok, so, .brk => ⟨st_brk, fun h => by simp [mss] at h⟩
  | X, W, ok, so, .cont => ⟨st_cont, fun h => by simp [mss] at h⟩
  | X, W, ok, so, .fst o k f e => ⟨st_fst ok, fun h => by simp [mss] at h⟩
  | X, W, ok, so, .fau o k f op e => ⟨st_fau ok, fun h => by simp [mss] at h⟩
  | X, W, ok, so, .rs0 k => ⟨st_rs0 ok, fun h => by simp [mss] at h⟩
  | X, W, ok, so, .rs2 k es => ⟨st_rs2 ok, fun h => by simp [mss] at h⟩
  | X, W, ok, so, .tr b k cs i h => ⟨st_tr ok so (fun {_} {_} ok' so' {_} h' => (ss_all ok' so' b).2 h'), fun h => by simp [mss] at h⟩
end
end Ev

/-! ## EvFn -/
/-! EvFn: defs, calls, the law. -/
namespace Ev
open PySem PySem.Spec PyProof.Rows L2
/-- a def of the text: its name, its slots, how many of them are parameters -/
structure FT where
  f : String
  np : Nat
  N : List Str
  d : He.DefD
  at_ : Option (String × String) := none
/-- the tables of a text: its defs, constants, fields, classes that are made, methods, own exceptions -/
structure Tb where
  fns : List String := []
  csts : List (String × D) := []
  flds : List (String × String) := []
  mks : List (String × String) := []
  meths : List (String × String × String) := []
  xos : List String := []
  xcs : List String := []
  xpb : Bool := false
def FT.ps (t : FT) : List Str := t.N.take t.np
def FT.sc (t : FT) (tb : Tb) : SC := ⟨t.N, t.d.scope, stoOf t.d.scope, tb.fns, tb.csts, tb.flds, tb.mks, tb.meths, tb.xos, tb.xcs, tb.xpb⟩
/-- the def's text is the evaluator's -/
def Tb.leaf (tb : Tb) : Tb := { tb with fns := [], mks := [], meths := [] }
def isInit (t : FT) : Bool := match t.at_ with
  | some (_, m) => decide (m = "__init__")
  | none => false
def rowB (pg : Pg) (tb : Tb) (t : FT) : Bool := match pg t.f with
  | some fd => (fd.np == t.np) && (fd.ns == t.N.length) && decide (t.np ≤ t.N.length) && mss fd.body (t.sc tb) t.d.body && (t.d.scope.names.all fun y => decide (t.d.scope.names.lookup y.1 = some y.2))
  | none => false
/-- where a def's address stands: a name of the module, a method -/
def AtOk (K : PySem.W.Frag) (mg : Str → Option Value) (f : String) (fa : Addr) : Option (String × String) → Prop
  | none => mg (Str.ofString f) = some (.ref fa)
  | some (c, m) => ∃ C, mg (Str.ofString c) = some (.ref C) ∧ Cls K C ∧ Meth K C (Str.ofString m) fa ∧ (m = "__init__" → Mk K C fa)
structure RowOk (K : PySem.W.Frag) (mg : Str → Option Value) (pg : Pg) (tb : Tb) (t : FT) : Prop where
  ex : ∃ (fa : Addr) (fd : FuncData) (x qual : Str), AtOk K mg t.f fa t.at_ ∧ FunD K x qual t.d.params t.d.body t.d.scope [] [] fa fd ∧ Binds K fd t.ps []
  S : FnScope t.N t.ps t.d.scope
  b : rowB pg (if isInit t then tb.leaf else tb) t = true
section
variable {P : Program} {w : World} {K : PySem.W.Frag} {mg : Str → Option Value} {base : Heap} {pg : Pg} {NN : Nat} {tb : Tb}
theorem fr_start {G : Md} {φ : Ph} {H : Hp} {fd : Fd} {N : List Str} {ds : List D} {vs : List V} (r : Reps G φ H ds vs) (h1 : fd.ns = N.length) (h2 : ds.length = fd.np) : FR G φ H (startF fd ds) (L2.start N vs) := by
  have hl := r.length
  unfold startF L2.start
  refine ⟨by simp; omega, fun i d e => ?_⟩
  by_cases hi : i < ds.length
  · rw [List.getElem?_append_left (by simpa using hi), List.getElem?_map] at e
    obtain ⟨d', e1, e2⟩ := Option.map_eq_some_iff.mp e
    cases e2
    obtain ⟨v, e3, rv⟩ := r.get e1
    refine ⟨v, ?_, rv⟩
    rw [List.getElem?_append_left (by simp; omega), List.getElem?_map, e3]
    rfl
  · rw [List.getElem?_append_right (by simp; omega), List.getElem?_replicate] at e
    split at e <;> cases e
/-- the text's own defs, as calls -/
structure Alls (P : Program) (w : World) (K : PySem.W.Frag) (mg : Str → Option Value) (base : Heap) (A : Around) (cl : Cl) (tb : Tb) : Prop where
  calls : ∀ f ∈ tb.fns, FnIs P w K mg base A cl f
  mks : ∀ p ∈ tb.mks, MkIs P w K mg base A cl p.1 p.2
  meths : ∀ p ∈ tb.meths, MeIs P w K mg base A cl p.1 p.2.1 p.2.2
theorem fn_law {t : FT} {n k : Nat} {fa : Addr} {fd : FuncData} {x qual : Str} (fb : FreeB mg) (bn : ∀ x ∈ biNames ++ tyBi ++ ["enumerate", "zip", "range"], mg (Str.ofString x) = none)
    (hc : ∀ p ∈ tb.csts, ∃ v u, mg (Str.ofString p.1) = some u ∧ RelV v u ∧ ∀ φ H, Rep ⟨K, mg⟩ φ H p.2 v) (ht : TabOk P K mg tb.flds tb.xos tb.xcs tb.xpb)
    (ih : ∀ A, Room k A → Alls P w K mg base A (callF pg NN n) tb) (F : FunD K x qual t.d.params t.d.body t.d.scope [] [] fa fd) (S : FnScope t.N t.ps t.d.scope) (hB : rowB pg tb t = true) : FnOk P w K mg base (CX P w) (k + 1) fa fd t.ps (spEv ⟨K, mg⟩ (callF pg NN (n + 1)) t.f) := by
  unfold rowB at hB
  cases hp : pg t.f with
  | none => rw [hp] at hB; cases hB
  | some fd' =>
    rw [hp] at hB
    simp only [Bool.and_eq_true, beq_iff_eq, decide_eq_true_eq] at hB
    obtain ⟨⟨⟨⟨b1, b2⟩, b2'⟩, b3⟩, b4⟩ := hB
    have hcall : ∀ ds A, callF pg NN (n + 1) t.f ds A = if ds.length = fd'.np then (match sx (callF pg NN n) NN fd'.body (startF fd' ds) A with
      | .nx _ A' => .ok D.non A'
      | .rt d A' => .ok d A'
      | .exc x _ A' => .exc x A'
      | _ => .no) else .no := fun ds A => by
      show (match pg t.f with
        | none => Res.no
        | some fd => if ds.length = fd.np then (match sx (callF pg NN n) NN fd.body (startF fd ds) A with
          | .nx _ A' => .ok D.non A'
          | .rt d A' => .ok d A'
          | .exc x _ A' => .exc x A'
          | _ => .no) else .no) = _
      rw [hp]
    have hps : t.ps.length = t.np := by
      unfold FT.ps
      rw [List.length_take]
      omega
    refine F.ok S (fun vs H Q E h => ?_) (fun cdv A outer s H vs Q E hr h => ⟨tS ⟨K, mg⟩ (callF pg NN n) NN (fun cls d _ H => E cls d H) fd'.body, ?_, ?_⟩)
    · obtain ⟨φ, A, ds, hr, rs, o⟩ := h
      rw [hcall] at o
      split at o
      · rename_i hl
        rw [rs.length, hl, hps, b1]
      · exact o.elim
    · let X := cxOf (CX P w) P w K mg base t.N qual t.d.scope fa cdv A outer s H E
      have ok : CtxOk X (t.sc tb) (callF pg NN n) (fun cls d _ H => E cls d H) := {
        N := rfl
        nd := S.nd
        sc := rfl
        calm := rfl
        kd := S.kind
        hu := Nat.lt_of_le_of_lt (Nat.add_le_add_left (by decide : 65 ≤ 200) _) (Nat.lt_of_le_of_lt (Nat.add_le_add_right (Nat.le_add_right _ _) _) hr.un)
        tk := takes_of (X := X) (E₁ := fun e' s'' => CX P w outer H s E e' s'') rfl rfl rfl rfl
        ps := passes_of (X := X) (E₁ := fun e' s'' => CX P w outer H s E e' s'') (K := fun e s'' => CX P w outer H s E e s'') rfl
        fb := fb
        bn := bn
        sto := fun x hx => by
          obtain ⟨y, hy, rfl⟩ := List.mem_map.mp (show x ∈ (t.d.scope.names.filter fun y => y.2 == .local || y.2 == .cell).map (·.1) from hx)
          obtain ⟨h1, h2⟩ := List.mem_filter.mp hy
          have h3 : t.d.scope.names.lookup y.1 = some y.2 := by simpa using List.all_eq_true.mp b4 y h1
          simp only [Bool.or_eq_true, beq_iff_eq] at h2
          refine ⟨?_, .inl rfl⟩
          rcases h2 with h2 | h2
          · rw [h2] at h3; exact .inl h3
          · rw [h2] at h3; exact .inr h3
        calls := (ih _ hr).calls
        csts := hc
        mks := (ih _ hr).mks
        meths := (ih _ hr).meths
        tab := ht
        rm := ⟨_, hr⟩ }
      exact (ss_all ok ⟨rfl, rfl⟩ fd'.body).2 b3
    · obtain ⟨φ, A, ds, hr, rs, o⟩ := h
      rw [hcall] at o
      split at o
      · rename_i hl
        refine ⟨φ, startF fd' ds, A, hr, fr_start rs b2 hl, ?_⟩
        cases e : sx (callF pg NN n) NN fd'.body (startF fd' ds) A with
        | nx F' A' => rw [e] at o; exact fun φ' H' e' hr' σ' fr' => o φ' H' e' hr' .non rfl
        | bk F' A' => rw [e] at o; exact o.elim
        | ct F' A' => rw [e] at o; exact o.elim
        | rt d A' => rw [e] at o; exact fun φ' H' e' hr' v rv => o φ' H' e' hr' v rv
        | exc y F' A' => rw [e] at o; exact fun φ' H' e' hr' σ' cls dd fr' xr => o φ' H' cls dd e' hr' xr
        | no => rw [e] at o; exact o.elim
      · exact o.elim
/-- every def of the tables has its row -/
structure TbOk (rows : List FT) (tb : Tb) : Prop where
  fns : ∀ f ∈ tb.fns, ∃ t ∈ rows, t.f = f ∧ t.at_ = none
  mks : ∀ p ∈ tb.mks, ∃ t ∈ rows, t.f = p.2 ∧ t.at_ = some (p.1, "__init__")
  meths : ∀ p ∈ tb.meths, ∃ t ∈ rows, t.f = p.2.2 ∧ t.at_ = some (p.1, p.2.1) ∧ p.2.1 ≠ "__init__"
def tbB (rows : List FT) (tb : Tb) : Bool := (tb.fns.all fun f => rows.any fun t => decide (t.f = f) && decide (t.at_ = none)) && (tb.mks.all fun p => rows.any fun t => decide (t.f = p.2) && decide (t.at_ = some (p.1, "__init__"))) &&
  tb.meths.all fun p => rows.any fun t => decide (t.f = p.2.2) && (decide (t.at_ = some (p.1, p.2.1)) && decide (p.2.1 ≠ "__init__"))
theorem tbOk_by {rows : List FT} {tb : Tb} (h : tbB rows tb = true) : TbOk rows tb := by
  unfold tbB at h
  simp only [Bool.and_eq_true] at h
  obtain ⟨⟨h1, h2⟩, h3⟩ := h
  refine ⟨fun f hf => ?_, fun p hp => ?_, fun p hp => ?_⟩
  · obtain ⟨t, ht, e⟩ := List.any_eq_true.mp (List.all_eq_true.mp h1 f hf)
    simp only [Bool.and_eq_true, decide_eq_true_eq] at e
    exact ⟨t, ht, e⟩
  · obtain ⟨t, ht, e⟩ := List.any_eq_true.mp (List.all_eq_true.mp h2 p hp)
    simp only [Bool.and_eq_true, decide_eq_true_eq] at e
    exact ⟨t, ht, e⟩
  · obtain ⟨t, ht, e⟩ := List.any_eq_true.mp (List.all_eq_true.mp h3 p hp)
    simp only [Bool.and_eq_true, decide_eq_true_eq] at e
    exact ⟨t, ht, e⟩
theorem fns_ok {rows : List FT} (fb : FreeB mg) (bn : ∀ x ∈ biNames ++ tyBi ++ ["enumerate", "zip", "range"], mg (Str.ofString x) = none)
    (hc : ∀ p ∈ tb.csts, ∃ v u, mg (Str.ofString p.1) = some u ∧ RelV v u ∧ ∀ φ H, Rep ⟨K, mg⟩ φ H p.2 v) (ht : TabOk P K mg tb.flds tb.xos tb.xcs tb.xpb) (ho : TbOk rows tb) (ro : ∀ t ∈ rows, RowOk K mg pg tb t) :
    ∀ (n : Nat) (A : Around), Room (n + 2) A → Alls P w K mg base A (callF pg NN n) tb := by
  have zero : ∀ {k : Nat} {fa : Addr} {fd : FuncData} {ps : List Str} {f : String}, FnOk P w K mg base (CX P w) k fa fd ps (spEv ⟨K, mg⟩ (callF pg NN 0) f) := fun {k fa fd ps f} => ⟨fun vs H Q E ⟨_, _, _, _, _, o⟩ => o.elim, fun _ _ _ _ _ _ _ _ _ _ _ _ _ ⟨_, _, _, _, _, o⟩ => o.elim⟩
  have step : ∀ n, (∀ A, Room (n + 2) A → ∀ m, n = m + 1 → ∀ A, Room (m + 2) A → Alls P w K mg base A (callF pg NN m) tb) → ∀ A, Room (n + 2) A → Alls P w K mg base A (callF pg NN n) tb := fun n ih A hr => by
    have plain : ∀ t ∈ rows, isInit t = false → ∃ (fa : Addr) (fd : FuncData), AtOk K mg t.f fa t.at_ ∧ PySem.W.keepIn K (.ref fa) = true ∧ Binds K fd t.ps [] ∧ FnOk P w K mg base (CX P w) (n + 2) fa fd t.ps (spEv ⟨K, mg⟩ (callF pg NN n) t.f) := fun t htt hi => by
      obtain ⟨fa, fd, x, qual, hm, F, hb⟩ := (ro t htt).ex
      refine ⟨fa, fd, hm, F.kp, hb, ?_⟩
      have hbb := (ro t htt).b
      rw [hi] at hbb
      cases n with
      | zero => exact zero
      | succ m => exact fn_law (k := m + 2) fb bn hc ht (ih A hr m rfl) F (ro t htt).S hbb
    have init : ∀ t ∈ rows, isInit t = true → ∃ (fa : Addr) (fd : FuncData), AtOk K mg t.f fa t.at_ ∧ PySem.W.keepIn K (.ref fa) = true ∧ Binds K fd t.ps [] ∧ FnOk P w K mg base (CX P w) 1 fa fd t.ps (spEv ⟨K, mg⟩ (callF pg NN n) t.f) := fun t htt hi => by
      obtain ⟨fa, fd, x, qual, hm, F, hb⟩ := (ro t htt).ex
      refine ⟨fa, fd, hm, F.kp, hb, ?_⟩
      have hbb := (ro t htt).b
      rw [hi] at hbb
      cases n with
      | zero => exact zero
      | succ m => exact fn_law (k := 0) (tb := tb.leaf) fb bn hc ht (fun A _ => ⟨fun f hf => (by cases hf), fun f hf => (by cases hf), fun f hf => (by cases hf)⟩) F (ro t htt).S hbb
    refine ⟨fun f hf => ?_, fun p hp => ?_, fun p hp => ?_⟩
    · obtain ⟨t, htt, rfl, ha⟩ := ho.fns f hf
      obtain ⟨fa, fd, hm, kp, hb, F⟩ := plain t htt (by unfold isInit; rw [ha])
      rw [ha] at hm
      exact ⟨fa, fd, t.ps, n + 2, hm, kp, hb, F, hr⟩
    · obtain ⟨t, htt, h2, ha⟩ := ho.mks p hp
      obtain ⟨fa, fd, hm, kp, hb, F⟩ := init t htt (by unfold isInit; rw [ha]; rfl)
      rw [ha] at hm
      rw [h2] at F
      obtain ⟨C, g, _, _, M⟩ := hm
      exact ⟨C, fa, fd, t.ps, 1, g, M rfl, hb, F, hr.mono (by omega)⟩
    · obtain ⟨t, htt, h2, ha, hne⟩ := ho.meths p hp
      obtain ⟨fa, fd, hm, kp, hb, F⟩ := plain t htt (by unfold isInit; rw [ha]; exact decide_eq_false hne)
      rw [ha] at hm
      rw [h2] at F
      obtain ⟨C, g, hC, hM, _⟩ := hm
      exact ⟨C, fa, fd, t.ps, n + 2, g, hC, hM, hb, F, hr⟩
  intro n
  induction n with
  | zero => exact step 0 fun A hr m hm => by omega
  | succ n ih =>
    refine step (n + 1) fun A hr m hm => ?_
    have : m = n := by omega
    subst this
    exact ih
/-- THE LAW: what the evaluator says of the script is kept -/
theorem law_of {t : FT} {n : Nat} {a : Addr} {H : Hp} {ns : List Int} (hO : Only H) (hS : SqL K H a (ns.map V.int)) (h : ∃ A', callF pg NN n t.f [.frl (ns.map .int)] [] = .ok (.bl true) A') :
    spEv ⟨K, mg⟩ (callF pg NN n) t.f [.ref a] H (fun v _ => v = .bl true) fun _ _ _ => False := by
  obtain ⟨A', h⟩ := h
  have fz : FzL K H a (ns.map V.int) := by
    rcases hS with (e | e) | e
    · rcases hO a with z | ⟨o, xs, z⟩
      · rw [z] at e; cases e
      · rw [z] at e; cases e
    · exact .inl e
    · exact .inr e
  have hr : HR ⟨K, mg⟩ [] H [] := ⟨rfl, fun i j a e => by simp at e, fun i a o e => by simp at e⟩
  have rints : ∀ ns : List Int, Reps ⟨K, mg⟩ [] H (ns.map D.int) (ns.map V.int) := fun ns => by
    induction ns with
    | nil => exact rfl
    | cons i r ih => exact ⟨_, _, rfl, rfl, ih⟩
  have r0 : Rep ⟨K, mg⟩ [] H (.frl (ns.map .int)) (.ref a) := ⟨a, _, rfl, fz, rints ns⟩
  refine ⟨[], [], _, hr, Reps.cons r0 Reps.nil, ?_⟩
  rw [h]
  exact fun φ' H' e hr' v rv => rv
end
/-- an exception that leaves a call, in any world -/
def CXw (P : Program) : CXT := fun o H s E u s' => ∃ w, CX P w o H s E u s'
theorem cxw_of {P : Program} {w : World} {K : PySem.W.Frag} {mg : Str → Option Value} {base : Heap} {k : Nat} {f : Addr} {fd : FuncData} {ps : List Str} {sp : Sp} (F : FnOk P w K mg base (CX P w) k f fd ps sp) : FnOk P w K mg base (CXw P) k f fd ps sp :=
  ⟨F.len, fun A outer s H args us vs Q E hr he hb hv hs => codeAny_mono (F.run A outer s H args us vs Q E hr he hb hv hs) fun r s' q => by
    cases r with
    | error e => exact ⟨w, q⟩
    | ok fl => cases fl <;> exact q⟩
theorem noex {P : Program} {H : Hp} {s : Shared} {e : Value} {s' : Shared} (h : CXw P [] H s (fun _ _ _ => False) e s') : False := by
  obtain ⟨_, _, _, _, _, _, _, _, _, _, _, _, _, h⟩ := h
  exact h
end Ev

/-! ## EvHead -/
/-! EvHead: the head's facts with an own exception class. -/
namespace Ev
open PySem PySem.Spec PyProof.Rows L2
abbrev PrV : Type := Option (Str × Str × Arguments × FuncBody × Scope × Value × Value × Addr × Addr)
abbrev prC (K : PySem.W.Frag) : Addr := He.ga K "TypeProblem"
abbrev prI (K : PySem.W.Frag) : Addr := He.ma K (prC K) "__init__"
def prObs (K : PySem.W.Frag) : PrV := match K.lookup (prI K) with
  | some ⟨_, _, .func fd, _⟩ => some (fd.name, fd.qualname, fd.params, fd.body, fd.scope, fd.defaults, fd.kwdefaults, fd.globals, fd.builtins)
  | _ => none
def prCls (K : PySem.W.Frag) (C : Addr) : Bool := match K.lookup C with
  | some ⟨.type "type", _, .cls cd, sl⟩ => (match cd.mro, sl.toList with
    | .ref C' :: bm, [_, _, _, _, some (.builtin n), _] => C' == C && n == "ValueError.__new__" && !cd.hasDel && cd.hasDict && PySem.HandSPX.refsVE bm
    | _, _ => false)
  | _ => false
theorem prCls_of {K : PySem.W.Frag} {C : Addr} (q : prCls K C = true) : ∃ nm q N bs bm sn sub ab col dd k0 k1 k2 k3 k5, K.lookup C = some (excClassObj nm q C N bs bm true sn sub ab col dd k0 k1 k2 k3 k5 "ValueError.__new__") ∧ PySem.HandSPX.refsVE bm = true := by
  unfold prCls at q
  split at q
  · rename_i dd cd sl ho
    split at q
    · rename_i C' bm k0 k1 k2 k3 n k5 hm hs
      simp only [Bool.and_eq_true, beq_iff_eq, Bool.not_eq_true'] at q
      obtain ⟨⟨⟨⟨rfl, rfl⟩, hdel⟩, hdi⟩, ht⟩ := q
      obtain ⟨nm, bs, mro, ns, qn, hd, sn, sub, ab, col, del⟩ := cd
      dsimp only at hm hdel hdi
      subst hm hdel hdi
      have hsl : sl = #[k0, k1, k2, k3, some (.builtin "ValueError.__new__"), k5] := by
        obtain ⟨l⟩ := sl
        simp only at hs
        rw [hs]
      subst hsl
      exact ⟨nm, qn, ns, bs, bm, sn, sub, ab, col, dd, k0, k1, k2, k3, k5, ho, ht⟩
    · cases q
  · cases q
def prFn (file : Str) (K : PySem.W.Frag) (C fI : Addr) : Bool := match K.lookup fI with
  | some ⟨_, _, .func fd, _⟩ => (match fd.closure, fd.code with
    | [(x, cc)], .ref cda => decide (x = ("__class__" : Str)) && (PySem.W.codeIn K (.ref cda) "TypeProblem.__init__" && ((match K.lookup cda with
        | some ⟨_, _, .fields vs, _⟩ => (match (vs[2]? : Option Value) with
          | some (Value.str f _) => decide (f = file)
          | _ => false)
        | _ => false) && (match K.lookup cc with
        | some ⟨_, _, .cell (some (.ref C')), _⟩ => decide (C' = C)
        | _ => false)))
    | _, _ => false)
  | _ => false
def prB (file : Str) (K : PySem.W.Frag) : Bool :=
  prCls K (prC K) && (PySem.W.excInitIn K (prC K) PySem.ProbX.veTail "ValueError.__new__" && (He.eqO (PySem.W.ks_superIn K (prC K) (prC K) "__init__") (some (some (.builtin "ValueError.__init__"))) && (He.eqO (PySem.W.nsIn K cStatics "thirdparty.any") (some none) &&
  (decide (PySem.W.mroIn K (prC K) (.ref (prC K)) = some true) && (decide (PySem.W.subIn K (.ref (prC K)) (.type "ValueError") = some true) && (He.eqO (PySem.W.findIn K (.ref (prC K)) "__setattr__") (some (some (.builtin "object.__setattr__"))) &&
  (He.eqO (PySem.W.findIn K (.ref (prC K)) "__getattribute__") (some (some (.builtin "BaseException.__getattribute__"))) && (He.eqO (PySem.W.findIn K (.ref (prC K)) "__getattr__") (some none) && (He.eqO (PySem.W.findIn K (.ref (prC K)) "code") (some none) &&
  (He.eqO (PySem.W.findIn K (.ref (prC K)) "path") (some none) && (He.eqO (PySem.W.findIn K (.ref (prC K)) "__init__") (some (some (.ref (prI K)))) && (decide (PySem.W.typeIn K (.ref (prI K)) = some (.type "function")) && (PySem.W.keepIn K (.ref (prC K)) &&
  (decide (PySem.W.subIn K (.ref (prC K)) (.type "BaseException") = some true) && (decide (PySem.W.typeIn K (.ref (prC K)) = some (.type "type")) && (PySem.W.hasDictIn K (prC K) && (decide (PySem.W.exmOne K (.ref (prC K)) (.ref (prC K)) = some true) && prFn file K (prC K) (prI K))))))))))))))))))
def prVal (q : Nat → Pos) (msg : Str) : PrV := some (("__init__" : Str), ("TypeProblem.__init__" : Str), PySem.ProbX.pA q, FuncBody.stmts (PySem.ProbX.pB q msg), PySem.ProbX.pS, Value.none, Value.none, mainGlobals, builtinsNs)
theorem prob_of {P : Program} {K : PySem.W.Frag} {h : Heap} {mg : Str → Option Value} {q : Nat → Pos} {msg : Str} (X : K.In h) (G : h.Ns mainGlobals mg) (c1 : (He.Fa.glo "TypeProblem").ok K = true) (c2 : (He.Fa.free "super").ok K = true) (hb : prB P.main.file K = true)
    (hv : prObs K = prVal q msg) (hq : ((q 5).endLine == (q 7).line) = true) (top : (P.main.scope.names.lookup ("super" : Str)).isSome = false) :
    PySem.ProbX.ProbTxt P K mg (prC K) (prI K) := by
  obtain ⟨b1, hb⟩ := He.ba hb
  obtain ⟨b2, hb⟩ := He.ba hb
  obtain ⟨b3, hb⟩ := He.ba hb
  obtain ⟨b4, hb⟩ := He.ba hb
  obtain ⟨b5, hb⟩ := He.ba hb
  obtain ⟨b6, hb⟩ := He.ba hb
  obtain ⟨b7, hb⟩ := He.ba hb
  obtain ⟨b8, hb⟩ := He.ba hb
  obtain ⟨b9, hb⟩ := He.ba hb
  obtain ⟨b10, hb⟩ := He.ba hb
  obtain ⟨b11, hb⟩ := He.ba hb
  obtain ⟨b12, hb⟩ := He.ba hb
  obtain ⟨b13, hb⟩ := He.ba hb
  obtain ⟨b14, hb⟩ := He.ba hb
  obtain ⟨b15, hb⟩ := He.ba hb
  obtain ⟨b16, hb⟩ := He.ba hb
  obtain ⟨b17, hb⟩ := He.ba hb
  obtain ⟨b18, b19⟩ := He.ba hb
  refine ⟨He.glo_ok X G c1, He.free_ok X G c2, prCls_of b1, b2, He.eqO_ok b3, He.eqO_ok b4, of_decide_eq_true b5, of_decide_eq_true b6, He.eqO_ok b7, He.eqO_ok b8, He.eqO_ok b9,
    He.eqO_ok b10, He.eqO_ok b11, He.eqO_ok b12, of_decide_eq_true b13, b14, of_decide_eq_true b15, of_decide_eq_true b16, b17, of_decide_eq_true b18, top, ?_⟩
  unfold prFn at b19
  unfold prObs at hv
  split at b19
  · rename_i oc od fd osl ho
    rw [ho] at hv
    obtain ⟨n1, n2, n3, n4, n5, n6, n7, n8, n9, n10, n11, n12, n13, n14, n15⟩ := fd
    simp only [prVal, Option.some.injEq, Prod.mk.injEq] at hv
    obtain ⟨rfl, rfl, rfl, rfl, rfl, rfl, rfl, rfl, rfl⟩ := hv
    dsimp only at b19
    split at b19
    · rename_i x cc cda
      obtain ⟨k1, b19⟩ := He.ba b19
      obtain ⟨k2, b19⟩ := He.ba b19
      obtain ⟨k3, k4⟩ := He.ba b19
      have k1 := of_decide_eq_true k1
      subst k1
      split at k3
      · rename_i ccl cdd vs ccs hcd
        split at k3
        · rename_i f tf hvs
          have k3 := of_decide_eq_true k3
          split at k4
          · rename_i cl cld C' csl hcell
            have k4 := of_decide_eq_true k4
            subst k4
            exact ⟨oc, od, _, _, _, cda, cc, _, osl, q, msg, ccl, cl, cdd, cld, ccs, csl, vs, f, tf, ho, k2, hcd, hvs, by rw [k3]; exact beq_self_eq_true _, hcell, hq⟩
          · cases k4
        · cases k3
      · cases k3
    · cases b19
  · cases b19
abbrev AlE : Type := He.AlD × Bool × PrV
def frE (n : Nat) (g : Addr → Option Obj) : PySem.W.Frag := He.frG g (cStatics :: He.asD g n)
def obsE (n : Nat) (fa : List He.Fa) (fn : List He.DefD) (file : Str) (g : Addr → Option Obj) : AlE := (He.obsD fa fn (frE n g), prB file (frE n g), prObs (frE n g))
def hookE (n : Nat) (fa : List He.Fa) (fn : List He.DefD) (file : Str) (pv : PrV) : PySem.W.Hook where
  α := AlE
  obs := fun s => obsE n fa fn file s.heap.get?
  val := fun _ => (He.valD fn, true, pv)
  says := fun _ h => ∃ K : PySem.W.Frag, K.In h ∧ He.SaysD fa fn K ∧ prB file K = true ∧ prObs K = pv
  of := fun _ s e => ⟨frE n s.heap.get?, He.frG_in, congrArg (fun z : AlE => z.1) e, congrArg (fun z : AlE => z.2.1) e, congrArg (fun z : AlE => z.2.2) e⟩
  keeps := fun _ _ _ ⟨K, hK, c⟩ k => ⟨K, PySem.W.Frag.In.keeps hK k, c⟩
theorem obsE_eq {n : Nat} {fa : List He.Fa} {fn : List He.DefD} {file : Str} {pv : PrV} {g : Addr → Option Obj} {s : Shared} (h : ∀ a, g a = s.heap.get? a) : obsE n fa fn file g = (hookE n fa fn file pv).obs s := by
  have e : g = s.heap.get? := funext h
  rw [e] <;> rfl
end Ev

/-! ## EvWp -/
/-! EvWp: what the evaluator reaches. -/
namespace Ev
open PySem
def uR {α : Type} (r : Res α) (P : α → AH → Prop) : Prop := match r with
  | .ok a A => P a A
  | _ => False
def uS (r : SR) (Pn : Fr → AH → Prop) (Pb Pc : Fr → AH → Prop) (Pr : D → AH → Prop) : Prop := match r with
  | .nx F A => Pn F A
  | .bk F A => Pb F A
  | .ct F A => Pc F A
  | .rt d A => Pr d A
  | _ => False
theorem uR.mono {α : Type} {r : Res α} {P Q : α → AH → Prop} (h : uR r P) (k : ∀ a A, P a A → Q a A) : uR r Q := by
  cases r with
  | ok a A => exact k a A h
  | exc => exact h
  | no => exact h
theorem uR_bnd {α β : Type} {r : Res α} {f : α → AH → Res β} {P : β → AH → Prop} : uR (bnd r f) P ↔ uR r (fun a A => uR (f a A) P) := by
  cases r <;> rfl
theorem uR_ok {α : Type} {a : α} {A : AH} {P : α → AH → Prop} : uR (.ok a A) P ↔ P a A := Iff.rfl
theorem uR_some {α : Type} {a : α} {A : AH} {P : α → AH → Prop} : uR (ofO (some a) A) P ↔ P a A := Iff.rfl
theorem uS_bns {α : Type} {r : Res α} {F : Fr} {f : α → AH → SR} {Pn Pb Pc : Fr → AH → Prop} {Pr : D → AH → Prop} : uS (bns F r f) Pn Pb Pc Pr ↔ uR r (fun a A => uS (f a A) Pn Pb Pc Pr) := by
  cases r <;> rfl
theorem uS_nx {F A Pn Pb Pc Pr} : uS (.nx F A) Pn Pb Pc Pr ↔ Pn F A := Iff.rfl
theorem uS_bk {F A Pn Pb Pc Pr} : uS (.bk F A) Pn Pb Pc Pr ↔ Pb F A := Iff.rfl
theorem uS_ct {F A Pn Pb Pc Pr} : uS (.ct F A) Pn Pb Pc Pr ↔ Pc F A := Iff.rfl
theorem uS_rt {d A Pn Pb Pc Pr} : uS (.rt d A) Pn Pb Pc Pr ↔ Pr d A := Iff.rfl
section
variable {cl : String → List D → AH → Res D} {N : Nat} {F : Fr} {A : AH} {Pn Pb Pc : Fr → AH → Prop} {Pr : D → AH → Prop}
theorem uS_seq {a b : Sm} : uS (sx cl N (.seq a b) F A) Pn Pb Pc Pr ↔ uS (sx cl N a F A) (fun F A => uS (sx cl N b F A) Pn Pb Pc Pr) Pb Pc Pr := by
  show uS (match sx cl N a F A with | .nx F' A' => sx cl N b F' A' | x => x) Pn Pb Pc Pr ↔ _
  cases sx cl N a F A <;> rfl
theorem uS_skip : uS (sx cl N .skip F A) Pn Pb Pc Pr ↔ Pn F A := Iff.rfl
theorem uS_ex {e : Ex} : uS (sx cl N (.ex e) F A) Pn Pb Pc Pr ↔ uR (ev cl e F A) (fun _ A => Pn F A) := uS_bns
theorem uS_set {i : Nat} {e : Ex} : uS (sx cl N (.set i e) F A) Pn Pb Pc Pr ↔ uR (ev cl e F A) (fun d A => Pn (fset F i d) A) := uS_bns
theorem uS_ret {e : Ex} : uS (sx cl N (.ret e) F A) Pn Pb Pc Pr ↔ uR (ev cl e F A) (fun d A => Pr d A) := uS_bns
theorem uS_ite {c : Ex} {a b : Sm} : uS (sx cl N (.ite c a b) F A) Pn Pb Pc Pr ↔ uR (tru (ev cl c F A)) (fun r A => if r = true then uS (sx cl N a F A) Pn Pb Pc Pr else uS (sx cl N b F A) Pn Pb Pc Pr) := by
  refine uS_bns.trans ?_
  cases tru (ev cl c F A) with
  | ok r A => cases r <;> rfl
  | exc => rfl
  | no => rfl
theorem uS_brk : uS (sx cl N .brk F A) Pn Pb Pc Pr ↔ Pb F A := Iff.rfl
theorem uS_cont : uS (sx cl N .cont F A) Pn Pb Pc Pr ↔ Pc F A := Iff.rfl
end
/-- a call -/
theorem uR_call {P : Pg} {N n : Nat} {f : String} {fd : Fd} {ds : List D} {A : AH} {Q : D → AH → Prop} (h : P f = some fd) (hl : ds.length = fd.np) :
    uR (callF P N (n + 1) f ds A) Q ↔ uS (sx (callF P N n) N fd.body (startF fd ds) A) (fun _ A => Q .non A) (fun _ _ => False) (fun _ _ => False) Q := by
  show uR (match P f with
    | none => Res.no
    | some fd => if ds.length = fd.np then (match sx (callF P N n) N fd.body (startF fd ds) A with
      | .nx _ A' => .ok D.non A'
      | .rt d A' => .ok d A'
      | .exc x _ A' => .exc x A'
      | _ => .no) else .no) Q ↔ _
  rw [h]
  simp only [hl, if_true]
  cases sx (callF P N n) N fd.body (startF fd ds) A <;> rfl
/-- what stood still stands -/
def Kp (A B : AH) : Prop := ∀ (i : Nat) (o : AO), A[i]? = some o → B[i]? = some o
theorem Kp.refl {A : AH} : Kp A A := fun _ _ h => h
theorem Kp.trans {A B C : AH} (a : Kp A B) (b : Kp B C) : Kp A C := fun i o h => b i o (a i o h)
theorem Kp.app {A B J : AH} (a : Kp A B) : Kp A (B ++ J) := fun i o h => by
  have := a i o h
  rw [List.getElem?_append_left (List.getElem?_eq_some_iff.mp this).1]; exact this
theorem Kp.set {A B : AH} {n : Nat} {o : AO} (a : Kp A B) (h : A[n]? = none) : Kp A (B.set n o) := fun i o' h' => by
  rw [List.getElem?_set_ne (fun e => by rw [← e, h] at h'; cases h')]; exact a i o' h'
theorem Kp.len {A B : AH} (a : Kp A B) : A.length ≤ B.length := by
  by_cases h : A.length = 0
  · omega
  · have h1 : A[A.length - 1]? = some A[A.length - 1] := List.getElem?_eq_getElem (by omega)
    have := (List.getElem?_eq_some_iff.mp (a _ _ h1)).1
    omega
theorem Kp.fresh {A B : AH} (a : Kp A B) {n : Nat} (h : B[n]? = none) : A[n]? = none := by
  have := a.len
  rw [List.getElem?_eq_none_iff] at h ⊢
  omega
end Ev
namespace Ev
/-! ### loops -/
theorem u_lcL_ind {asg : D → Fr → Option Fr} {g : Guard} {body : Fr → AH → Res (Option D)} {F : Fr} {P : List D → AH → Prop} (I : Nat → List D → AH → Prop) :
    ∀ (items : List D) (i : Nat) (acc : List D) (A : AH), I i acc A →
      (∀ j d acc A, items[j]? = some d → I (i + j) acc A → gOk A g = true ∧ ∃ F', asg d F = some F' ∧ uR (body F' A) (fun o A' => match o with
        | some y => acc.length < PySem.sizeLine ∧ I (i + j + 1) (acc ++ [y]) A'
        | none => I (i + j + 1) acc A')) →
      (∀ acc A, I (i + items.length) acc A → gOk A g = true ∧ P acc A) → uR (lcL asg g body F items acc A) P
  | [], i, acc, A, h0, hs, hd => by
    obtain ⟨h1, h2⟩ := hd acc A h0
    unfold lcL
    rw [if_pos h1]
    exact h2
  | d :: r, i, acc, A, h0, hs, hd => by
    obtain ⟨h1, F', h2, h3⟩ := hs 0 d acc A rfl h0
    unfold lcL
    rw [if_pos h1]
    simp only [h2]
    rw [uR_bnd]
    refine h3.mono fun o A' h4 => ?_
    have go : ∀ acc A, I (i + 1) acc A → uR (lcL asg g body F r acc A) P := fun acc A h => by
      refine u_lcL_ind I r (i + 1) acc A h (fun j d acc A e h => ?_) (fun acc A h => hd acc A (by rw [List.length_cons]; rw [show i + (r.length + 1) = i + 1 + r.length by omega]; exact h))
      have := hs (j + 1) d acc A (by simpa using e) (by rw [show i + (j + 1) = i + 1 + j by omega]; exact h)
      rw [show i + (j + 1) + 1 = i + 1 + j + 1 by omega] at this
      exact this
    cases o with
    | some y =>
      simp only [if_pos h4.1]
      exact go _ _ h4.2
    | none => exact go _ _ h4
/-- nothing of the heap changes: a map -/
theorem lcL_map {asg : D → Fr → Option Fr} {body : Fr → AH → Res (Option D)} {F : Fr} {A : AH} (f : D → D) : ∀ (items acc : List D), (∀ d ∈ items, ∃ F', asg d F = some F' ∧ body F' A = .ok (some (f d)) A) → acc.length + items.length ≤ PySem.sizeLine →
    lcL asg [] body F items acc A = .ok (acc ++ items.map f) A
  | [], acc, _, _ => by unfold lcL; simp [gOk]
  | d :: r, acc, h, hl => by
    obtain ⟨F', h1, h2⟩ := h d List.mem_cons_self
    rw [List.length_cons] at hl
    unfold lcL
    simp only [h1, h2, bnd, gOk, List.all_nil, if_true, if_pos (show acc.length < PySem.sizeLine by omega)]
    rw [lcL_map f r (acc ++ [f d]) (fun d' hd => h d' (List.mem_cons_of_mem _ hd)) (by rw [List.length_append]; simp; omega)]
    simp
theorem u_dcL_ind {asg : D → Fr → Option Fr} {g : Guard} {body : Fr → AH → Res (Option (D × D))} {F : Fr} {P : List (D × D) → AH → Prop} (I : Nat → List (D × D) → AH → Prop) :
    ∀ (items : List D) (i : Nat) (acc : List (D × D)) (A : AH), I i acc A →
      (∀ j d acc A, items[j]? = some d → I (i + j) acc A → gOk A g = true ∧ ∃ F', asg d F = some F' ∧ uR (body F' A) (fun o A' => match o with
        | some (k, v) => acc.length < PySem.sizeLine ∧ keyOk k = true ∧ I (i + j + 1) (dput acc k v) A'
        | none => I (i + j + 1) acc A')) →
      (∀ acc A, I (i + items.length) acc A → gOk A g = true ∧ P acc A) → uR (dcL asg g body F items acc A) P
  | [], i, acc, A, h0, hs, hd => by
    obtain ⟨h1, h2⟩ := hd acc A h0
    unfold dcL
    rw [if_pos h1]
    exact h2
  | d :: r, i, acc, A, h0, hs, hd => by
    obtain ⟨h1, F', h2, h3⟩ := hs 0 d acc A rfl h0
    unfold dcL
    rw [if_pos h1]
    simp only [h2]
    rw [uR_bnd]
    refine h3.mono fun o A' h4 => ?_
    have go : ∀ acc A, I (i + 1) acc A → uR (dcL asg g body F r acc A) P := fun acc A h => by
      refine u_dcL_ind I r (i + 1) acc A h (fun j d acc A e h => ?_) (fun acc A h => hd acc A (by rw [List.length_cons]; rw [show i + (r.length + 1) = i + 1 + r.length by omega]; exact h))
      have := hs (j + 1) d acc A (by simpa using e) (by rw [show i + (j + 1) = i + 1 + j by omega]; exact h)
      rw [show i + (j + 1) + 1 = i + 1 + j + 1 by omega] at this
      exact this
    cases o with
    | some y =>
      obtain ⟨k, v⟩ := y
      obtain ⟨h5, h6, h7⟩ := h4
      simp only [h5, h6, decide_true, Bool.and_self, if_true]
      exact go _ _ h7
    | none => exact go _ _ h4
theorem u_forL_ind {asg : D → Fr → Option Fr} {g : Guard} {body : Fr → AH → SR} {Pn Pb Pc : Fr → AH → Prop} {Pr : D → AH → Prop} (I : Nat → Fr → AH → Prop) :
    ∀ (items : List D) (i : Nat) (F : Fr) (A : AH), I i F A →
      (∀ j d F A, items[j]? = some d → I (i + j) F A → gOk A g = true ∧ ∃ F', asg d F = some F' ∧ uS (body F' A) (I (i + j + 1)) Pn (I (i + j + 1)) Pr) →
      (∀ F A, I (i + items.length) F A → gOk A g = true ∧ Pn F A) → uS (forL asg g body items F A) Pn Pb Pc Pr
  | [], i, F, A, h0, hs, hd => by
    obtain ⟨h1, h2⟩ := hd F A h0
    unfold forL
    rw [if_pos h1]
    exact h2
  | d :: r, i, F, A, h0, hs, hd => by
    obtain ⟨h1, F', h2, h3⟩ := hs 0 d F A rfl h0
    unfold forL
    rw [if_pos h1]
    simp only [h2]
    have go : ∀ F A, I (i + 1) F A → uS (forL asg g body r F A) Pn Pb Pc Pr := fun F A h => by
      refine u_forL_ind I r (i + 1) F A h (fun j d F A e h => ?_) (fun F A h => hd F A (by rw [List.length_cons]; rw [show i + (r.length + 1) = i + 1 + r.length by omega]; exact h))
      have := hs (j + 1) d F A (by simpa using e) (by rw [show i + (j + 1) = i + 1 + j by omega]; exact h)
      rw [show i + (j + 1) + 1 = i + 1 + j + 1 by omega] at this
      exact this
    cases e : body F' A with
    | nx F2 A2 => rw [e] at h3; exact go _ _ h3
    | ct F2 A2 => rw [e] at h3; exact go _ _ h3
    | bk F2 A2 => rw [e] at h3; exact h3
    | rt d A2 => rw [e] at h3; exact h3
    | exc y F2 A2 => rw [e] at h3; exact h3
    | no => rw [e] at h3; exact h3
end Ev
namespace Ev
/-- a block behind its first k statements -/
def drp : Nat → Sm → Sm
  | 0, s => s
  | k + 1, .seq _ b => drp k b
  | _ + 1, s => s
def iteC : Sm → Ex
  | .seq (.ite c _ _) _ => c
  | _ => .non
/-- what is returned where the test at the block's head holds -/
def iteR : Sm → Ex
  | .seq (.ite _ (.seq (.ret e) .skip) .skip) _ => e
  | .seq (.ret e) .skip => e
  | _ => .non
def isIteR : Sm → Bool
  | .seq (.ite _ (.seq (.ret _) .skip) .skip) _ => true
  | _ => false
section
variable {cl : String → List D → AH → Res D} {N : Nat} {F F' : Fr} {A : AH} {Pn Pb Pc : Fr → AH → Prop} {Pr : D → AH → Prop}
theorem u_ret_at (k : Nat) {b : Sm} (h1 : sx cl N b F A = sx cl N (drp k b) F' A) (h2 : isIteR (drp k b) = true) (h3 : tru (ev cl (iteC (drp k b)) F' A) = .ok true A) (h : uR (ev cl (iteR (drp k b)) F' A) Pr) : uS (sx cl N b F A) Pn Pb Pc Pr := by
  rw [h1]
  generalize drp k b = s at h2 h3 h
  unfold isIteR at h2
  split at h2
  · rename_i c e rest
    rw [uS_seq, uS_ite]
    have h3 : tru (ev cl c F' A) = .ok true A := h3
    rw [h3]
    show uS (sx cl N (.seq (.ret e) .skip) F' A) _ _ _ _
    rw [uS_seq, uS_ret]
    exact h
  · cases h2
theorem u_ret_end (k : Nat) {b : Sm} {e : Ex} (h1 : sx cl N b F A = sx cl N (drp k b) F' A) (h2 : drp k b = .seq (.ret e) .skip) (h : uR (ev cl e F' A) Pr) : uS (sx cl N b F A) Pn Pb Pc Pr := by
  rw [h1, h2, uS_seq, uS_ret]
  exact h
end
theorem opB_cat {A : AH} {xs ys : List D} (h : xs.length + ys.length ≤ PySem.sizeLine) : opB ((A ++ [AO.lst xs]) ++ [AO.lst ys]) .add (.ref A.length) (.ref (A ++ [AO.lst xs]).length) = .ok (.ref ((A ++ [AO.lst xs]) ++ [AO.lst ys]).length) (((A ++ [AO.lst xs]) ++ [AO.lst ys]) ++ [AO.lst (xs ++ ys)]) := by
  have h1 : ((A ++ [AO.lst xs]) ++ [.lst ys])[A.length]? = some (.lst xs) := by simp
  have h2 : ((A ++ [AO.lst xs]) ++ [.lst ys])[(A ++ [AO.lst xs]).length]? = some (.lst ys) := by simp
  simp only [opB, h1, h2, if_pos h]
theorem uR_eq {α : Type} {r : Res α} {P : α → AH → Prop} {a : α} {A : AH} (h : r = .ok a A) (p : P a A) : uR r P := by rw [h]; exact p
theorem u_eq_of_wR {α : Type} {r : Res α} {P : α → AH → Prop} (h : uR r P) : ∃ a A, r = .ok a A ∧ P a A := by
  cases r with
  | ok a A => exact ⟨a, A, rfl, h⟩
  | exc => exact h.elim
  | no => exact h.elim
end Ev
namespace Ev
def iteA : Sm → Sm
  | .seq (.ite _ a _) _ => a
  | _ => .skip
def isIte : Sm → Bool
  | .seq (.ite _ _ _) _ => true
  | _ => false
section
variable {cl : String → List D → AH → Res D} {N : Nat} {F F' : Fr} {A : AH} {Pn Pb Pc : Fr → AH → Prop} {Pr : D → AH → Prop}
/-- behind k statements a test holds, and its block does not fall through -/
theorem u_ite_at (k : Nat) {b : Sm} (h1 : sx cl N b F A = sx cl N (drp k b) F' A) (h2 : isIte (drp k b) = true) (h3 : tru (ev cl (iteC (drp k b)) F' A) = .ok true A) (h : uS (sx cl N (iteA (drp k b)) F' A) (fun _ _ => False) Pb Pc Pr) : uS (sx cl N b F A) Pn Pb Pc Pr := by
  rw [h1]
  generalize drp k b = s at h2 h3 h
  unfold isIte at h2
  split at h2
  · rename_i c a b' rest
    rw [uS_seq, uS_ite]
    have h3 : tru (ev cl c F' A) = .ok true A := h3
    rw [h3]
    have h : uS (sx cl N a F' A) (fun _ _ => False) Pb Pc Pr := h
    show uS (sx cl N a F' A) _ Pb Pc Pr
    cases e : sx cl N a F' A with
    | nx F2 A2 => rw [e] at h; exact h.elim
    | bk F2 A2 => rw [e] at h; exact h
    | ct F2 A2 => rw [e] at h; exact h
    | rt d A2 => rw [e] at h; exact h
    | exc y F2 A2 => rw [e] at h; exact h
    | no => rw [e] at h; exact h
  · cases h2
end
end Ev
namespace Ev
def lcB (cl : String → List D → AH → Res D) (c e : Ex) : Fr → AH → Res (Option D) := fun F' A' => nox (bnd (evc cl c F' A') fun b A2 => if b then bnd (ev cl e F' A2) fun y A3 => .ok (some y) A3 else .ok none A2)
def dcB (cl : String → List D → AH → Res D) (c k v : Ex) : Fr → AH → Res (Option (D × D)) := fun F' A' => nox (bnd (evc cl c F' A') fun b A2 => if b then bnd (ev cl k F' A2) fun x A3 => bnd (ev cl v F' A3) fun y A4 => .ok (some (x, y)) A4 else .ok none A2)
theorem uR_nox {α : Type} {r : Res α} {P : α → AH → Prop} : uR (nox r) P ↔ uR r P := by cases r <;> rfl
section
variable {cl : String → List D → AH → Res D} {F : Fr} {A : AH}
theorem uR_lc {t : Tg} {it c e : Ex} {own : List Nat} {P : D → AH → Prop} : uR (ev cl (.lc t it c e own) F A) P ↔ uR (evw cl it F A) (fun w A1 => uR (unlR w.lock (bnd (lcL (asgT t) w.g (lcB cl c e) (wipeF F own) w.items [] (lockA A1 w.lock)) fun ds A2 => .ok (.ref A2.length) (A2 ++ [.lst ds]))) P) := uR_bnd
theorem uR_dc {t : Tg} {it c k v : Ex} {own : List Nat} {P : D → AH → Prop} : uR (ev cl (.dc t it c k v own) F A) P ↔ uR (evw cl it F A) (fun w A1 => uR (unlR w.lock (bnd (dcL (asgT t) w.g (dcB cl c k v) (wipeF F own) w.items [] (lockA A1 w.lock)) fun ds A2 => .ok (.ref A2.length) (A2 ++ [.dct ds]))) P) := uR_bnd
theorem uR_lcB {c e : Ex} {P : Option D → AH → Prop} : uR (lcB cl c e F A) P ↔ uR (evc cl c F A) (fun b A2 => if b = true then uR (ev cl e F A2) (fun y A3 => P (some y) A3) else P none A2) := by
  refine uR_nox.trans (uR_bnd.trans ?_)
  cases evc cl c F A with
  | ok b A2 =>
    cases b with
    | true => exact uR_bnd
    | false => rfl
  | exc => rfl
  | no => rfl
theorem uR_dcB {c k v : Ex} {P : Option (D × D) → AH → Prop} : uR (dcB cl c k v F A) P ↔ uR (evc cl c F A) (fun b A2 => if b = true then uR (ev cl k F A2) (fun x A3 => uR (ev cl v F A3) fun y A4 => P (some (x, y)) A4) else P none A2) := by
  refine uR_nox.trans (uR_bnd.trans ?_)
  cases evc cl c F A with
  | ok b A2 =>
    cases b with
    | true =>
      refine uR_bnd.trans ?_
      show _ ↔ uR (ev cl k F A2) fun x A3 => uR (ev cl v F A3) fun y A4 => P (some (x, y)) A4
      cases ev cl k F A2 with
      | ok x A3 => exact uR_bnd
      | exc => rfl
      | no => rfl
    | false => rfl
  | exc => rfl
  | no => rfl
theorem uR_evc0 {P : Bool → AH → Prop} : uR (evc cl .nil F A) P ↔ P true A := Iff.rfl
theorem uR_wk {e : Ex} {P : Wk → AH → Prop} : uR (evw cl (.wk e) F A) P ↔ uR (ev cl e F A) (fun x A1 => uR (ofO (wkOf A1 x) A1) P) := uR_bnd
theorem uR_enm {e : Ex} {P : Wk → AH → Prop} : uR (evw cl (.enm e) F A) P ↔ uR (ev cl e F A) (fun x A1 => uR (ofO (wkEnum A1 x) A1) P) := uR_bnd
theorem uR_rng {e : Ex} {P : Wk → AH → Prop} : uR (evw cl (.rng e) F A) P ↔ uR (evs cl e F A) (fun x A1 => uR (ofO (wkRng x) A1) P) := uR_bnd
theorem uR_var {i : Nat} {d : D} {P : D → AH → Prop} (h : F[i]? = some (some d)) : uR (ev cl (.var i) F A) P ↔ P d A := by
  show uR (match F[i]? with | some (some d) => Res.ok d A | _ => .no) P ↔ _
  rw [h]
  exact Iff.rfl
theorem uR_cl {f : String} {es : Ex} {P : D → AH → Prop} : uR (ev cl (.call f es) F A) P ↔ uR (evs cl es F A) (fun ds A1 => uR (cl f ds A1) P) := uR_bnd
theorem uR_bi {f : String} {es : Ex} {P : D → AH → Prop} : uR (ev cl (.bi f es) F A) P ↔ uR (evs cl es F A) (fun ds A1 => uR (biF A1 f ds) P) := uR_bnd
theorem uR_op {o : BOp} {a b : Ex} {P : D → AH → Prop} : uR (ev cl (.op o a b) F A) P ↔ uR (ev cl a F A) (fun x A1 => uR (ev cl b F A1) fun y A2 => uR (opB A2 o x y) P) := by
  refine uR_bnd.trans ?_
  cases ev cl a F A with
  | ok x A1 => exact uR_bnd
  | exc => rfl
  | no => rfl
theorem uR_nil {P : List D → AH → Prop} : uR (evs cl .nil F A) P ↔ P [] A := Iff.rfl
theorem uR_cons {a r : Ex} {P : List D → AH → Prop} : uR (evs cl (.cons a r) F A) P ↔ uR (ev cl a F A) (fun x A1 => uR (evs cl r F A1) fun xs A2 => P (x :: xs) A2) := by
  refine uR_bnd.trans ?_
  cases ev cl a F A with
  | ok x A1 => exact uR_bnd
  | exc => rfl
  | no => rfl
theorem uR_cmp {o : COp} {a b : Ex} {P : D → AH → Prop} : uR (ev cl (.cmp o a b) F A) P ↔ uR (ev cl a F A) (fun x A1 => uR (ev cl b F A1) fun y A2 => uR (ofO ((opC A2 o x y).map .bl) A2) P) := by
  refine uR_bnd.trans ?_
  cases ev cl a F A with
  | ok x A1 => exact uR_bnd
  | exc => rfl
  | no => rfl
theorem uR_ix {a b : Ex} {P : D → AH → Prop} : uR (ev cl (.ix a b) F A) P ↔ uR (ev cl a F A) (fun x A1 => uR (ev cl b F A1) fun y A2 => uR (ofO (opI A2 x y) A2) P) := by
  refine uR_bnd.trans ?_
  cases ev cl a F A with
  | ok x A1 => exact uR_bnd
  | exc => rfl
  | no => rfl
theorem uR_mth {m : String} {o es : Ex} {P : D → AH → Prop} : uR (ev cl (.mth m o es) F A) P ↔ uR (ev cl o F A) (fun x A1 => uR (ofO (mkM A1 m x) A1) fun k A2 => uR (evs cl es F A2) fun ds A3 => uR (mtF A3 k m x ds) P) := by
  refine uR_bnd.trans ?_
  cases ev cl o F A with
  | ok x A1 =>
    refine uR_bnd.trans ?_
    show uR (ofO (mkM A1 m x) A1) _ ↔ uR (ofO (mkM A1 m x) A1) _
    cases ofO (mkM A1 m x) A1 with
    | ok k A2 => exact uR_bnd
    | exc => rfl
    | no => rfl
  | exc => rfl
  | no => rfl
end
theorem gOk_kp {A B : AH} {g : Guard} (k : Kp A B) (h : gOk A g = true) : gOk B g = true := by
  unfold gOk at h ⊢
  rw [List.all_eq_true] at h ⊢
  intro p hp
  have := h p hp
  simp only [decide_eq_true_eq] at this ⊢
  exact k _ _ this
/-- a row whose elements only add to the heap -/
theorem u_lcL_kp {asg : D → Fr → Option Fr} {g : Guard} {body : Fr → AH → Res (Option D)} {F : Fr} {P : List D → AH → Prop} {items : List D} {A0 : AH} (ys : List (Option D)) (hl : ys.length = items.length) (hz : items.length ≤ PySem.sizeLine) (hg : gOk A0 g = true)
    (hs : ∀ (j : Nat) (d : D) (o : Option D) (A : AH), items[j]? = some d → ys[j]? = some o → Kp A0 A → ∃ F', asg d F = some F' ∧ uR (body F' A) (fun o' A' => o' = o ∧ Kp A A')) (hd : ∀ A, Kp A0 A → P (ys.filterMap id) A) : uR (lcL asg g body F items [] A0) P := by
  refine u_lcL_ind (fun i acc A => Kp A0 A ∧ acc = (ys.take i).filterMap id ∧ acc.length ≤ i) items 0 [] A0 ⟨.refl, rfl, Nat.le_refl _⟩ (fun j d acc A e ⟨k, ea, el⟩ => ?_) fun acc A ⟨k, ea, el⟩ => ?_
  · have hj : j < items.length := (List.getElem?_eq_some_iff.mp e).1
    have hy : ys[j]? = some ys[j] := List.getElem?_eq_getElem (by omega)
    obtain ⟨F', h1, h2⟩ := hs j d _ A e hy k
    refine ⟨gOk_kp k hg, F', h1, h2.mono fun o A' ⟨ho, k'⟩ => ?_⟩
    subst ho
    have ht : ys.take (0 + j + 1) = ys.take (0 + j) ++ [ys[j]] := by rw [Nat.zero_add, List.take_succ, hy]; rfl
    cases h : ys[j] with
    | some y =>
      simp only
      refine ⟨by omega, k.trans k', ?_, by simp; omega⟩
      rw [ht, List.filterMap_append, ← ea, h]
      rfl
    | none =>
      simp only
      refine ⟨k.trans k', ?_, by omega⟩
      rw [ht, List.filterMap_append, ← ea, h]
      simp
  · refine ⟨gOk_kp k hg, ?_⟩
    rw [Nat.zero_add, List.take_of_length_le (by omega)] at ea
    rw [ea]
    exact hd A k
end Ev
namespace Ev
section
variable {cl : String → List D → AH → Res D} {N : Nat} {F : Fr} {A : AH} {Pn Pb Pc : Fr → AH → Prop} {Pr : D → AH → Prop}
theorem uS_for {t : Tg} {it : Ex} {b : Sm} : uS (sx cl N (.for t it b) F A) Pn Pb Pc Pr ↔ uR (evw cl it F A) (fun w A1 => uS (unlS w.lock (forL (asgT t) w.g (fun F' A' => sx cl N b F' A') w.items F (lockA A1 w.lock))) Pn Pb Pc Pr) := uS_bns
theorem uS_sub {o i e : Ex} : uS (sx cl N (.sub o i e) F A) Pn Pb Pc Pr ↔ uR (ev cl e F A) (fun v A1 => uR (ev cl o F A1) fun x A2 => uR (ev cl i F A2) fun y A3 => ∃ A4, opSet A3 x y v = some A4 ∧ Pn F A4) := by
  refine uS_bns.trans ?_
  cases ev cl e F A with
  | ok v A1 =>
    refine uS_bns.trans ?_
    show uR (ev cl o F A1) _ ↔ uR (ev cl o F A1) _
    cases ev cl o F A1 with
    | ok x A2 =>
      refine uS_bns.trans ?_
      show uR (ev cl i F A2) _ ↔ uR (ev cl i F A2) _
      cases ev cl i F A2 with
      | ok y A3 =>
        show uS (match opSet A3 x y v with | some A4 => SR.nx F A4 | none => .no) Pn Pb Pc Pr ↔ ∃ A4, opSet A3 x y v = some A4 ∧ Pn F A4
        cases opSet A3 x y v with
        | some A4 => exact ⟨fun h => ⟨A4, rfl, h⟩, fun ⟨_, e, h⟩ => by cases e; exact h⟩
        | none => exact ⟨fun h => h.elim, fun ⟨_, e, _⟩ => by cases e⟩
      | exc => rfl
      | no => rfl
    | exc => rfl
    | no => rfl
  | exc => rfl
  | no => rfl
theorem uS_asg {t : Tg} {e : Ex} : uS (sx cl N (.asg t e) F A) Pn Pb Pc Pr ↔ uR (ev cl e F A) (fun d A1 => ∃ F', asgT t d F = some F' ∧ Pn F' A1) := by
  refine uS_bns.trans ?_
  cases ev cl e F A with
  | ok d A1 =>
    show uS (match asgT t d F with | some F' => SR.nx F' A1 | none => .no) Pn Pb Pc Pr ↔ ∃ F', asgT t d F = some F' ∧ Pn F' A1
    cases asgT t d F with
    | some F' => exact ⟨fun h => ⟨F', rfl, h⟩, fun ⟨_, e, h⟩ => by cases e; exact h⟩
    | none => exact ⟨fun h => h.elim, fun ⟨_, e, _⟩ => by cases e⟩
  | exc => rfl
  | no => rfl
end
theorem uS.mono {r : SR} {Pn Pb Pc Pn' Pb' Pc' : Fr → AH → Prop} {Pr Pr' : D → AH → Prop} (h : uS r Pn Pb Pc Pr) (k1 : ∀ F A, Pn F A → Pn' F A) (k2 : ∀ F A, Pb F A → Pb' F A) (k3 : ∀ F A, Pc F A → Pc' F A) (k4 : ∀ d A, Pr d A → Pr' d A) : uS r Pn' Pb' Pc' Pr' := by
  cases r with
  | nx F A => exact k1 _ _ h
  | bk F A => exact k2 _ _ h
  | ct F A => exact k3 _ _ h
  | rt d A => exact k4 _ _ h
  | exc => exact h
  | no => exact h
/-- a list that was not there -/
def u_FL (A : AH) (r : Res D) (xs : List D) : Prop := uR r fun d A' => ∃ a, d = .ref a ∧ Kp A A' ∧ A[a]? = none ∧ A'[a]? = some (.lst xs)
theorem u_FL.walk {A : AH} {r : Res D} {xs : List D} {P : Wk → AH → Prop} (h : u_FL A r xs) (k : ∀ a A', Kp A A' → A[a]? = none → A'[a]? = some (.lst xs) → P ⟨xs, [(a, .lst xs)], none⟩ A') : uR r (fun x A1 => uR (ofO (wkOf A1 x) A1) P) := by
  refine h.mono fun d A' ⟨a, e, k1, k2, k3⟩ => ?_
  subst e
  have : wkOf A' (.ref a) = some ⟨xs, [(a, .lst xs)], none⟩ := by simp [wkOf, k3]
  rw [this]
  exact k a A' k1 k2 k3
theorem u_FL.enum {A : AH} {r : Res D} {xs : List D} {P : Wk → AH → Prop} (h : u_FL A r xs) (k : ∀ a A', Kp A A' → A[a]? = none → A'[a]? = some (.lst xs) → P ⟨enumD 0 xs, [(a, .lst xs)], none⟩ A') : uR r (fun x A1 => uR (ofO (wkEnum A1 x) A1) P) := by
  refine h.mono fun d A' ⟨a, e, k1, k2, k3⟩ => ?_
  subst e
  have : wkEnum A' (.ref a) = some ⟨enumD 0 xs, [(a, .lst xs)], none⟩ := by simp [wkEnum, wkOf, k3]
  rw [this]
  exact k a A' k1 k2 k3
theorem gOk_one {A : AH} {a : Nat} {o : AO} (h : A[a]? = some o) : gOk A [(a, o)] = true := by simp [gOk, h]
theorem seqL_of {A : AH} {a : Nat} {xs : List D} (h : A[a]? = some (.lst xs)) : seqL A a = some xs := by simp [seqL, h]
theorem new_none {A : AH} : A[A.length]? = none := by simp
theorem new_at {A : AH} {o : AO} : (A ++ [o])[A.length]? = some o := by simp
theorem app_at {A J : AH} {a : Nat} {o : AO} (h : A[a]? = some o) : (A ++ J)[a]? = some o := by
  rw [List.getElem?_append_left (List.getElem?_eq_some_iff.mp h).1]; exact h
theorem set_at {A : AH} {a : Nat} {o p : AO} (h : A[a]? = some o) : (A.set a p)[a]? = some p := by
  rw [List.getElem?_set_self (List.getElem?_eq_some_iff.mp h).1]
theorem set_ne {A : AH} {a b : Nat} {o p : AO} (h : A[b]? = some o) (n : a ≠ b) : (A.set a p)[b]? = some o := by
  rw [List.getElem?_set_ne n]; exact h
theorem extend_eq {A : AH} {a b : Nat} {xs ys : List D} (h1 : A[a]? = some (.lst xs)) (h2 : A[b]? = some (.lst ys)) (hz : xs.length + ys.length ≤ PySem.sizeLine) : mtF A false "extend" (.ref a) [.ref b] = .ok .non (A.set a (.lst (xs ++ ys))) := by
  show mtExtend A a [.ref b] = _
  simp only [mtExtend, h1, h2, if_pos hz]
theorem append_eq {A : AH} {a : Nat} {xs : List D} {y : D} (h1 : A[a]? = some (.lst xs)) (hz : xs.length < PySem.sizeLine) : mtF A false "append" (.ref a) [y] = .ok .non (A.set a (.lst (xs ++ [y]))) := by
  show mtAppend A a [y] = _
  simp only [mtAppend, h1, if_pos hz]
theorem mkM_lst {A : AH} {a : Nat} {xs : List D} {m : String} (h : A[a]? = some (.lst xs)) (hm : (mtG false m).isSome = true) : mkM A m (.ref a) = some false := by
  have : mkD A (.ref a) = some false := by simp [mkD, h]
  simp only [mkM, this, if_pos hm]
theorem opI_lst {A : AH} {a : Nat} {xs : List D} {k : Int} (h : A[a]? = some (.lst xs)) : opI A (.ref a) (.int k) = L2.atI xs k := by
  simp [opI, dctL, seqL, h]
theorem atI_nat {xs : List D} {i : Nat} : L2.atI xs (i : Int) = xs[i]? := by
  unfold L2.atI L2.ixN
  by_cases h : i < xs.length
  · simp [h]
  · simp [h]
end Ev
namespace Ev
section
variable {cl : String → List D → AH → Res D} {F : Fr} {A : AH}
theorem uR_int {i : Int} {P : D → AH → Prop} : uR (ev cl (.int i) F A) P ↔ P (.int i) A := Iff.rfl
theorem uR_str {i : String} {P : D → AH → Prop} : uR (ev cl (.str i) F A) P ↔ P (.str i) A := Iff.rfl
theorem uR_lst {es : Ex} {P : D → AH → Prop} : uR (ev cl (.lst es) F A) P ↔ uR (evs cl es F A) (fun ds A1 => uR (if ds.length ≤ PySem.sizeLine then Res.ok (.ref A1.length) (A1 ++ [.lst ds]) else .no) P) := uR_bnd
theorem uR_tup {es : Ex} {P : D → AH → Prop} : uR (ev cl (.tup es) F A) P ↔ uR (evs cl es F A) (fun ds A1 => uR (if ds.length ≤ PySem.sizeLine then Res.ok (.tup ds) A1 else .no) P) := uR_bnd
end
theorem len_lst {A : AH} {a : Nat} {xs : List D} (h : A[a]? = some (.lst xs)) : biF A "len" [.ref a] = .ok (.int xs.length) A := by
  show biLen A [.ref a] = _
  simp [biLen, dctL, seqL, h]
theorem len_tup {A : AH} {xs : List D} : biF A "len" [.tup xs] = .ok (.int xs.length) A := rfl
theorem add_lst {A : AH} {a b : Nat} {xs ys : List D} (h1 : A[a]? = some (.lst xs)) (h2 : A[b]? = some (.lst ys)) (hz : xs.length + ys.length ≤ PySem.sizeLine) : opB A .add (.ref a) (.ref b) = .ok (.ref A.length) (A ++ [.lst (xs ++ ys)]) := by
  simp only [opB, h1, h2, if_pos hz]
theorem wkRng_nat {n : Nat} (h : n < 1000000000) : wkRng [.int (n : Int)] = some ⟨(List.range n).map fun (i : Nat) => D.int (i : Int), [], none⟩ := by
  have hs : small (n : Int) = true := by
    have h1 : (-4611686018427387904 : Int) ≤ (n : Int) := by omega
    have h2 : (n : Int) < 4611686018427387904 := by omega
    unfold small
    rw [decide_eq_true h1, decide_eq_true h2]
    rfl
  have hr : rngD 0 (n : Int) = (List.range n).map fun (i : Nat) => D.int (i : Int) := by
    unfold rngD
    simp
  unfold wkRng
  simp only [hs, if_true, hr]
end Ev
namespace Ev
section
variable {cl : String → List D → AH → Res D} {F : Fr} {A : AH}
theorem uR_tru {r : Res D} {P : Bool → AH → Prop} : uR (tru r) P ↔ uR r (fun d A => uR (ofO (truth A d) A) P) := uR_bnd
theorem uR_not {a : Ex} {P : D → AH → Prop} : uR (ev cl (.not a) F A) P ↔ uR (ev cl a F A) (fun x A1 => uR (ofO ((truth A1 x).map fun b => .bl (!b)) A1) P) := uR_bnd
theorem uR_chn {o p : COp} {a b c : Ex} {P : D → AH → Prop} : uR (ev cl (.chn o p a b c) F A) P ↔ uR (ev cl a F A) (fun x A1 => uR (ev cl b F A1) fun y A2 => uR (ofO (opC A2 o x y) A2) fun r A3 => if r = true then uR (ev cl c F A3) (fun z A4 => uR (ofO ((opC A4 p y z).map .bl) A4) P) else P (.bl false) A3) := by
  refine uR_bnd.trans ?_
  cases ev cl a F A with
  | ok x A1 =>
    refine uR_bnd.trans ?_
    show uR (ev cl b F A1) _ ↔ uR (ev cl b F A1) _
    cases ev cl b F A1 with
    | ok y A2 =>
      refine uR_bnd.trans ?_
      show uR (ofO (opC A2 o x y) A2) _ ↔ uR (ofO (opC A2 o x y) A2) _
      cases opC A2 o x y with
      | some r =>
        cases r with
        | true => exact uR_bnd
        | false => exact Iff.rfl
      | none => exact Iff.rfl
    | exc => rfl
    | no => rfl
  | exc => rfl
  | no => rfl
theorem uR_and {a b : Ex} {P : D → AH → Prop} : uR (ev cl (.and a b) F A) P ↔ uR (ev cl a F A) (fun x A1 => uR (ofO (truth A1 x) A1) fun r A2 => if r = true then uR (ev cl b F A2) P else P x A2) := by
  refine uR_bnd.trans ?_
  cases ev cl a F A with
  | ok x A1 =>
    refine uR_bnd.trans ?_
    show uR (ofO (truth A1 x) A1) _ ↔ uR (ofO (truth A1 x) A1) _
    cases truth A1 x with
    | some r => cases r <;> exact Iff.rfl
    | none => exact Iff.rfl
  | exc => rfl
  | no => rfl
theorem uR_or {a b : Ex} {P : D → AH → Prop} : uR (ev cl (.or a b) F A) P ↔ uR (ev cl a F A) (fun x A1 => uR (ofO (truth A1 x) A1) fun r A2 => if r = true then P x A2 else uR (ev cl b F A2) P) := by
  refine uR_bnd.trans ?_
  cases ev cl a F A with
  | ok x A1 =>
    refine uR_bnd.trans ?_
    show uR (ofO (truth A1 x) A1) _ ↔ uR (ofO (truth A1 x) A1) _
    cases truth A1 x with
    | some r => cases r <;> exact Iff.rfl
    | none => exact Iff.rfl
  | exc => rfl
  | no => rfl
theorem uR_ite {c a b : Ex} {P : D → AH → Prop} : uR (ev cl (.ite c a b) F A) P ↔ uR (ev cl c F A) (fun x A1 => uR (ofO (truth A1 x) A1) fun r A2 => if r = true then uR (ev cl a F A2) P else uR (ev cl b F A2) P) := by
  refine uR_bnd.trans ?_
  cases ev cl c F A with
  | ok x A1 =>
    refine uR_bnd.trans ?_
    show uR (ofO (truth A1 x) A1) _ ↔ uR (ofO (truth A1 x) A1) _
    cases truth A1 x with
    | some r => cases r <;> exact Iff.rfl
    | none => exact Iff.rfl
  | exc => rfl
  | no => rfl
theorem uR_sl {a lo hi : Ex} {P : D → AH → Prop} : uR (ev cl (.sl a lo hi) F A) P ↔ uR (ev cl a F A) (fun x A1 => uR (evo cl lo F A1) fun l A2 => uR (evo cl hi F A2) fun h A3 => uR (opS A3 x l h) P) := by
  refine uR_bnd.trans ?_
  cases ev cl a F A with
  | ok x A1 =>
    refine uR_bnd.trans ?_
    show uR (evo cl lo F A1) _ ↔ uR (evo cl lo F A1) _
    cases evo cl lo F A1 with
    | ok l A2 => exact uR_bnd
    | exc => rfl
    | no => rfl
  | exc => rfl
  | no => rfl
end
open PySem
theorem cut_1 {x : D} {xs : List D} : cutD (x :: xs) (some 1) none = xs := by
  simp [cutD, HT.sIx]
theorem toPds_ints (p : List Nat) : toPds (p.map fun (i : Nat) => D.int i) = some (p.map fun (i : Nat) => PyData.int i) := by
  induction p with
  | nil => rfl
  | cons i r ih => simp [toPds, toPd, ih]
theorem shaped_ints (p : List Nat) : SeqAt.shaped (.tuple (p.map fun (i : Nat) => PyData.int i)) = true := by
  have h1 : PyData.canLayAll0 (p.map fun (i : Nat) => PyData.int i) = true := by
    induction p with
    | nil => rfl
    | cons i r ih => simp [PyData.canLayAll0, PyData.canLay0, ih]
  have h2 : PyData.depthAll (p.map fun (i : Nat) => PyData.int i) = 0 := by
    induction p with
    | nil => rfl
    | cons i r ih => simp only [List.map_cons, PyData.canLayAll0, Bool.and_eq_true] at h1; simp [PyData.depthAll, PyData.depth, ih h1.2]
  simp [SeqAt.shaped, PyData.canLay0, PyData.depth, h1, h2]
theorem eq_nil_ints {A : AH} {p : List Nat} : opC A .eq (.tup (p.map fun (i : Nat) => D.int i)) (.tup []) = some p.isEmpty := by
  show eqD A _ _ = _
  have h1 : toP A (.tup (p.map fun (i : Nat) => D.int i)) = some (.tuple (p.map fun (i : Nat) => PyData.int i)) := by
    show (toPds _).map PyData.tuple = _
    rw [toPds_ints]; rfl
  have h2 : toP A (.tup []) = some (.tuple []) := rfl
  have h3 : SeqAt.shaped (.tuple []) = true := shaped_ints []
  simp only [eqD, h1, h2, shaped_ints, h3]
  cases p <;> rfl
theorem set_lst {A : AH} {a i : Nat} {xs : List D} {v : D} (h : A[a]? = some (.lst xs)) (hi : i < xs.length) : opSet A (.ref a) (.int (i : Nat)) v = some (A.set a (.lst (xs.set i v))) := by
  have : L2.ixN xs.length (i : Int) = some i := by
    unfold L2.ixN
    simp [hi]
  simp only [opSet, h, this, Option.map_some]
end Ev

/-! ## EvTape -/
/-! EvTape: what all laws share: the tape, comparing. -/
namespace Ev
open PySem
def fdTape : Fd := ⟨1, 4,
 (.seq (.set 1 (.lc (.nm 3) (.wk (.var 0)) .nil (.bi "abs" (.cons (.bi "int" (.cons (.var 3) .nil)) .nil)) [3]))
 (.seq (.set 2 (.int 7))
 (.seq (.for (.nm 3) (.wk (.var 1)) (.seq (.set 2 (.op .mod (.bi "int" (.cons (.op .add (.op .mul (.var 2) (.int 31)) (.var 3)) .nil)) (.int 2147483647)))
 .skip))
 (.seq (.ret (.dct (.cons (.str "cells") (.cons (.var 1) (.cons (.str "at") (.cons (.int 0) (.cons (.str "left") (.cons (.int 0) (.cons (.str "seed") (.cons (.var 2) (.cons (.str "salt") (.cons (.int 0) .nil))))))))))))
 .skip))))⟩
def fdTake : Fd := ⟨2, 4,
 (.seq (.ite (.and (.cmp .eq (.ix (.var 0) (.str "left")) (.int 0)) (.cmp .lt (.ix (.var 0) (.str "at")) (.bi "len" (.cons (.ix (.var 0) (.str "cells")) .nil)))) (.seq (.sub (.var 0) (.str "left") (.ix (.ix (.var 0) (.str "cells")) (.ix (.var 0) (.str "at"))))
 (.seq (.sub (.var 0) (.str "at") (.op .add (.ix (.var 0) (.str "at")) (.int 1)))
 .skip)) .skip)
 (.seq (.ite (.cmp .gt (.ix (.var 0) (.str "left")) (.int 0)) (.seq (.set 2 (.op .mod (.bi "int" (.cons (.ix (.var 0) (.str "left")) .nil)) (.var 1)))
 (.seq (.sub (.var 0) (.str "left") (.op .fdiv (.ix (.var 0) (.str "left")) (.var 1)))
 (.seq (.ret (.var 2))
 .skip))) .skip)
 (.seq (.sub (.var 0) (.str "salt") (.op .add (.ix (.var 0) (.str "salt")) (.int 1)))
 (.seq (.set 3 (.op .mod (.bi "int" (.cons (.op .add (.op .mul (.ix (.var 0) (.str "seed")) (.int 48271)) (.op .mul (.ix (.var 0) (.str "salt")) (.int 69621))) .nil)) (.int 2147483647)))
 (.seq (.set 3 (.op .mod (.bi "int" (.cons (.op .add (.op .add (.op .mul (.var 3) (.var 3)) (.op .mul (.ix (.var 0) (.str "salt")) (.int 40692))) (.int 12345)) .nil)) (.int 2147483399)))
 (.seq (.ret (.op .mod (.bi "int" (.cons (.var 3) .nil)) (.var 1)))
 .skip))))))⟩
def fdIsInt : Fd := ⟨1, 1,
 (.seq (.ret (.and (.bi "isinstance" (.cons (.var 0) (.cons (.gl "int") .nil))) (.not (.bi "isinstance" (.cons (.var 0) (.cons (.gl "bool") .nil))))))
 .skip)⟩
def fdItems : Fd := ⟨2, 3,
 (.seq (.ite (.cmp .ne (.bi "len" (.cons (.var 0) .nil)) (.bi "len" (.cons (.var 1) .nil))) (.seq (.ret (.bl false))
 .skip) .skip)
 (.seq (.for (.nm 2) (.rng (.cons (.bi "len" (.cons (.var 1) .nil)) .nil)) (.seq (.ite (.not (.call "_law_same" (.cons (.ix (.var 0) (.var 2)) (.cons (.ix (.var 1) (.var 2)) .nil)))) (.seq (.ret (.bl false))
 .skip) .skip)
 .skip))
 (.seq (.ret (.bl true))
 .skip)))⟩
def fdSame : Fd := ⟨2, 3,
 (.seq (.ite (.cmp .is (.var 1) .non) (.seq (.ret (.cmp .is (.var 0) .non))
 .skip) .skip)
 (.seq (.ite (.bi "isinstance" (.cons (.var 1) (.cons (.gl "bool") .nil))) (.seq (.ret (.and (.bi "isinstance" (.cons (.var 0) (.cons (.gl "bool") .nil))) (.cmp .eq (.var 0) (.var 1))))
 .skip) .skip)
 (.seq (.ite (.bi "isinstance" (.cons (.var 1) (.cons (.gl "int") .nil))) (.seq (.ret (.and (.call "_law_is_integer" (.cons (.var 0) .nil)) (.cmp .eq (.var 0) (.var 1))))
 .skip) .skip)
 (.seq (.ite (.bi "isinstance" (.cons (.var 1) (.cons (.gl "str") .nil))) (.seq (.ret (.and (.bi "isinstance" (.cons (.var 0) (.cons (.gl "str") .nil))) (.cmp .eq (.var 0) (.var 1))))
 .skip) .skip)
 (.seq (.ite (.bi "isinstance" (.cons (.var 1) (.cons (.gl "tuple") .nil))) (.seq (.ret (.and (.bi "isinstance" (.cons (.var 0) (.cons (.gl "tuple") .nil))) (.call "_law_same_items" (.cons (.var 0) (.cons (.var 1) .nil)))))
 .skip) .skip)
 (.seq (.ite (.bi "isinstance" (.cons (.var 1) (.cons (.gl "list") .nil))) (.seq (.ret (.and (.bi "isinstance" (.cons (.var 0) (.cons (.gl "list") .nil))) (.call "_law_same_items" (.cons (.var 0) (.cons (.var 1) .nil)))))
 .skip) .skip)
 (.seq (.ite (.or (.not (.bi "isinstance" (.cons (.var 0) (.cons (.gl "dict") .nil)))) (.cmp .ne (.bi "len" (.cons (.var 0) .nil)) (.bi "len" (.cons (.var 1) .nil)))) (.seq (.ret (.bl false))
 .skip) .skip)
 (.seq (.for (.nm 2) (.wk (.var 1)) (.seq (.ite (.or (.cmp .nmem (.var 2) (.var 0)) (.not (.call "_law_same" (.cons (.ix (.var 0) (.var 2)) (.cons (.ix (.var 1) (.var 2)) .nil))))) (.seq (.ret (.bl false))
 .skip) .skip)
 .skip))
 (.seq (.for (.nm 2) (.wk (.var 0)) (.seq (.ite (.bi "isinstance" (.cons (.var 2) (.cons (.gl "bool") .nil))) (.seq (.ret (.bl false))
 .skip) .skip)
 .skip))
 (.seq (.ret (.bl true))
 .skip))))))))))⟩
theorem ev_sz : PySem.sizeLine = 16777216 := PySem.sizeLine_eq
/-! ### == of simple things -/
theorem strOk_of (s : String) : PyData.strOk (Str.ofString s) = true := by
  unfold PyData.strOk
  have : ∀ x ∈ (Str.ofString s).cps.toList, x < 0x110000 := fun x hx => by
    rw [ofString_cps] at hx
    obtain ⟨c, _, rfl⟩ := List.mem_map.mp hx
    have := c.valid
    rcases this with h | ⟨_, h⟩
    · exact Nat.lt_trans h (by decide)
    · exact h
  rw [Array.all_eq_true]
  intro i hi
  exact decide_eq_true (this _ (by simp))
theorem eq_str {A : AH} {x y : String} : opC A .eq (.str x) (.str y) = some (decide (x = y)) := by
  rw [show opC A .eq (.str x) (.str y) = Ev.eqD A (.str x) (.str y) from rfl]
  have h : ∀ z : String, SeqAt.shaped (.str (Str.ofString z)) = true := fun z => by
    simp [SeqAt.shaped, PyData.canLay0, PyData.depth, strOk_of]
  have h1 : ∀ z : String, toP A (.str z) = some (.str (Str.ofString z)) := fun z => rfl
  simp only [Ev.eqD, h1, h, Bool.and_self, if_true]
  congr 1
  show (Str.ofString x == Str.ofString y) = _
  by_cases e : x = y
  · subst e; simp
  · have : Str.ofString x ≠ Str.ofString y := fun z => e (ofString_inj z)
    simp [e, this]
theorem eq_int {A : AH} {i j : Int} : opC A .eq (.int i) (.int j) = some (decide (i = j)) := by
  rw [show opC A .eq (.int i) (.int j) = Ev.eqD A (.int i) (.int j) from rfl]
  have h : ∀ z : Int, SeqAt.shaped (.int z) = true := fun z => by simp [SeqAt.shaped, PyData.canLay0, PyData.depth]
  have h1 : ∀ z : Int, toP A (.int z) = some (.int z) := fun z => rfl
  simp only [Ev.eqD, h1, h, Bool.and_self, if_true]
  congr 1
theorem eq_bl {A : AH} {i j : Bool} : opC A .eq (.bl i) (.bl j) = some (i == j) := by
  rw [show opC A .eq (.bl i) (.bl j) = Ev.eqD A (.bl i) (.bl j) from rfl]
  have h : ∀ z : Bool, SeqAt.shaped (.bool z) = true := fun z => by simp [SeqAt.shaped, PyData.canLay0, PyData.depth]
  have h1 : ∀ z : Bool, toP A (.bl z) = some (.bool z) := fun z => rfl
  simp only [Ev.eqD, h1, h, Bool.and_self, if_true]
  rfl

/-! ### plain data -/
mutual
def pl : D → Bool
  | .non | .bl _ | .int _ | .str _ => true
  | .tup xs => pls xs && decide (xs.length ≤ 1000)
  | _ => false
def pls : List D → Bool
  | [] => true
  | d :: r => pl d && pls r
end
mutual
/-- how deep the tuples lie -/
def dp : D → Nat
  | .tup xs => dps xs + 1
  | _ => 0
def dps : List D → Nat
  | [] => 0
  | d :: r => max (dp d) (dps r)
end
theorem pls_mem : ∀ {xs : List D}, pls xs = true → ∀ d ∈ xs, pl d = true
  | [], _, d, h => by cases h
  | x :: r, h, d, hd => by
    rw [pls, Bool.and_eq_true] at h
    rcases List.mem_cons.mp hd with rfl | hd
    · exact h.1
    · exact pls_mem h.2 d hd
theorem dps_mem : ∀ {xs : List D} {d : D}, d ∈ xs → dp d ≤ dps xs
  | x :: r, d, hd => by
    rw [dps]
    rcases List.mem_cons.mp hd with rfl | hd
    · omega
    · have := dps_mem hd; omega
theorem pls_app {xs ys : List D} : pls (xs ++ ys) = (pls xs && pls ys) := by
  induction xs with
  | nil => simp [pls]
  | cons x r ih => simp [pls, ih, Bool.and_assoc]
section
variable {P : Pg} {N n : Nat} {A : AH}
theorem isint_int (hI : P "_law_is_integer" = some fdIsInt) {i : Int} : callF P N (n + 1) "_law_is_integer" [.int i] A = .ok (.bl true) A := by
  obtain ⟨a, A', e, h⟩ := u_eq_of_wR (P := fun r A' => r = .bl true ∧ A' = A) ((uR_call (n := n) (N := N) (A := A) (ds := [.int i]) hI rfl).mpr (show uS (sx (callF P N n) N fdIsInt.body [some (.int i)] A) _ _ _ _ from by
    refine u_ret_end 0 (F' := [some (.int i)]) rfl rfl ?_
    exact uR_eq (a := .bl true) (A := A) (by kernel_rfl) ⟨rfl, rfl⟩))
  rw [e, h.1, h.2]
theorem u_same_items_of (hS : P "_law_same_items" = some fdItems) {x y : D} {xs : List D} (h1 : (∃ a, x = .ref a ∧ A[a]? = some (.lst xs)) ∨ x = .tup xs) (h2 : (∃ a, y = .ref a ∧ A[a]? = some (.lst xs)) ∨ y = .tup xs) (hz : xs.length ≤ PySem.sizeLine)
    (h : ∀ d ∈ xs, ∀ A', Kp A A' → uR (callF P N n "_law_same" [d, d] A') (fun r A2 => r = .bl true ∧ Kp A' A2)) : uR (callF P N (n + 1) "_law_same_items" [x, y] A) (fun r A' => r = .bl true ∧ Kp A A') := by
  have ln : ∀ {z : D}, ((∃ a, z = .ref a ∧ A[a]? = some (.lst xs)) ∨ z = .tup xs) → ∀ A', Kp A A' → biF A' "len" [z] = .ok (.int xs.length) A' := fun hz A' k => by
    rcases hz with ⟨a, rfl, ha⟩ | rfl
    · exact len_lst (k _ _ ha)
    · exact len_tup
  have ix : ∀ {z : D}, ((∃ a, z = .ref a ∧ A[a]? = some (.lst xs)) ∨ z = .tup xs) → ∀ A' (i : Nat), Kp A A' → opI A' z (.int i) = xs[i]? := fun hz A' i k => by
    rcases hz with ⟨a, rfl, ha⟩ | rfl
    · rw [opI_lst (k _ _ ha), atI_nat]
    · exact atI_nat
  rw [uR_call hS rfl]
  show uS (sx _ N fdItems.body [some x, some y, none] A) _ _ _ _
  have hne : ∀ i : Int, opC A .ne (.int i) (.int i) = some false := fun i => by
    show (Ev.eqD A (.int i) (.int i)).map (!·) = _
    have : Ev.eqD A (.int i) (.int i) = some (decide (i = i)) := eq_int (A := A)
    rw [this]; simp
  rw [fdItems, uS_seq, uS_ite, uR_tru, uR_cmp, uR_bi, uR_cons, uR_var (d := x) rfl, uR_nil, ln h1 A .refl, uR_ok, uR_bi, uR_cons, uR_var (d := y) rfl, uR_nil, ln h2 A .refl, uR_ok, hne]
  show uR (ofO (some (D.bl false)) A) _
  rw [uR_some]
  show uR (ofO (some false) A) _
  rw [uR_some, if_neg (by decide), uS_skip, uS_seq, uS_for, uR_rng, uR_cons, uR_bi, uR_cons, uR_var (d := y) rfl, uR_nil, ln h2 A .refl, uR_ok, uR_nil, wkRng_nat (by rw [ev_sz] at hz; omega), uR_some]
  refine u_forL_ind (fun i F A' => ∃ z, F = [some x, some y, z] ∧ Kp A A') _ 0 _ A ⟨none, rfl, .refl⟩ (fun j d F A' e ⟨z, eF, k⟩ => ?_) fun F A' ⟨z, eF, k⟩ => ?_
  · subst eF
    refine ⟨rfl, ?_⟩
    have e : ((List.range xs.length).map fun (i : Nat) => D.int (i : Int))[j]? = some d := e
    rw [List.getElem?_map] at e
    obtain ⟨j', e1, rfl⟩ := Option.map_eq_some_iff.mp e
    obtain ⟨hj, e2⟩ := List.getElem?_eq_some_iff.mp e1
    have hj' : j < xs.length := by simpa using hj
    have : j' = j := by rw [← e2]; simp
    subst this
    have hp : xs[j']? = some xs[j'] := List.getElem?_eq_getElem hj'
    generalize xs[j'] = d at hp
    refine ⟨[some x, some y, some (.int (j' : Nat))], rfl, ?_⟩
    rw [uS_seq, uS_ite, uR_tru, uR_not, uR_cl, uR_cons, uR_ix, uR_var (d := x) rfl, uR_var (d := .int (j' : Nat)) rfl, ix h1 A' j' k, hp, uR_some, uR_cons, uR_ix, uR_var (d := y) rfl, uR_var (d := .int (j' : Nat)) rfl, ix h2 A' j' k, hp, uR_some, uR_nil]
    refine (h d (List.mem_of_getElem? hp) A' k).mono fun r A2 ⟨er, k2⟩ => ?_
    subst er
    show uR (ofO (some (D.bl false)) A2) _
    rw [uR_some]
    show uR (ofO (some false) A2) _
    rw [uR_some, if_neg (by decide), uS_skip, uS_skip]
    exact ⟨_, rfl, k.trans k2⟩
  · subst eF
    refine ⟨rfl, ?_⟩
    rw [uS_seq, uS_ret]
    exact ⟨rfl, k⟩
/-- plain data is the same as itself -/
theorem u_same_pl (hI : P "_law_is_integer" = some fdIsInt) (hS : P "_law_same_items" = some fdItems) (hL : P "_law_same" = some fdSame) : ∀ (n : Nat) (d : D) (A : AH), pl d = true → 2 * dp d + 1 < n → uR (callF P N n "_law_same" [d, d] A) (fun r A' => r = .bl true ∧ Kp A A')
  | 0, d, A, hp, hn => by omega
  | 1, d, A, hp, hn => by omega
  | n + 2, .non, A, hp, hn => by
    rw [uR_call hL rfl]
    exact u_ret_at 0 (F' := [some .non, some .non, none]) (by kernel_rfl) (by kernel_rfl) (by kernel_rfl) (uR_eq (a := .bl true) (A := A) (by kernel_rfl) ⟨rfl, .refl⟩)
  | n + 2, .bl b, A, hp, hn => by
    rw [uR_call hL rfl]
    refine u_ret_at 1 (F' := [some (.bl b), some (.bl b), none]) (by kernel_rfl) (by kernel_rfl) (by kernel_rfl) ?_
    show uR (ev _ (.and (.bi "isinstance" (.cons (.var 0) (.cons (.gl "bool") .nil))) (.cmp .eq (.var 0) (.var 1))) [some (.bl b), some (.bl b), none] A) _
    rw [uR_and]
    refine uR_eq (a := .bl true) (A := A) (by kernel_rfl) ?_
    show uR (ofO (some true) A) _
    rw [uR_some, if_pos rfl, uR_cmp, uR_var (d := .bl b) rfl, uR_var (d := .bl b) rfl, eq_bl]
    simp [uR_some]
    exact Kp.refl
  | n + 2, .int i, A, hp, hn => by
    rw [uR_call hL rfl]
    refine u_ret_at 2 (F' := [some (.int i), some (.int i), none]) (by kernel_rfl) (by kernel_rfl) (by kernel_rfl) ?_
    show uR (ev _ (.and (.call "_law_is_integer" (.cons (.var 0) .nil)) (.cmp .eq (.var 0) (.var 1))) [some (.int i), some (.int i), none] A) _
    rw [uR_and, uR_cl, uR_cons, uR_var (d := .int i) rfl, uR_nil, isint_int hI, uR_ok]
    show uR (ofO (some true) A) _
    rw [uR_some, if_pos rfl, uR_cmp, uR_var (d := .int i) rfl, uR_var (d := .int i) rfl, eq_int]
    simp [uR_some]
    exact Kp.refl
  | n + 2, .str s, A, hp, hn => by
    rw [uR_call hL rfl]
    refine u_ret_at 3 (F' := [some (.str s), some (.str s), none]) (by kernel_rfl) (by kernel_rfl) (by kernel_rfl) ?_
    show uR (ev _ (.and (.bi "isinstance" (.cons (.var 0) (.cons (.gl "str") .nil))) (.cmp .eq (.var 0) (.var 1))) [some (.str s), some (.str s), none] A) _
    rw [uR_and]
    refine uR_eq (a := .bl true) (A := A) (by kernel_rfl) ?_
    show uR (ofO (some true) A) _
    rw [uR_some, if_pos rfl, uR_cmp, uR_var (d := .str s) rfl, uR_var (d := .str s) rfl, eq_str]
    simp [uR_some]
    exact Kp.refl
  | n + 2, .tup xs, A, hp, hn => by
    rw [dp] at hn
    rw [uR_call hL rfl]
    refine u_ret_at 4 (F' := [some (.tup xs), some (.tup xs), none]) (by kernel_rfl) (by kernel_rfl) (by kernel_rfl) ?_
    show uR (ev _ (.and (.bi "isinstance" (.cons (.var 0) (.cons (.gl "tuple") .nil))) (.call "_law_same_items" (.cons (.var 0) (.cons (.var 1) .nil)))) [some (.tup xs), some (.tup xs), none] A) _
    rw [uR_and]
    refine uR_eq (a := .bl true) (A := A) (by kernel_rfl) ?_
    show uR (ofO (some true) A) _
    rw [uR_some, if_pos rfl, uR_cl, uR_cons, uR_var (d := .tup xs) rfl, uR_cons, uR_var (d := .tup xs) rfl, uR_nil]
    rw [pl, Bool.and_eq_true, decide_eq_true_eq] at hp
    exact u_same_items_of hS (.inr rfl) (.inr rfl) (by rw [ev_sz]; omega) fun d hd A' k => u_same_pl hI hS hL n d A' (pls_mem hp.1 d hd) (by have := dps_mem hd; omega)
  | n + 2, .frl _, A, hp, hn => by cases hp
  | n + 2, .ref _, A, hp, hn => by cases hp
  | n + 2, .gl _, A, hp, hn => by cases hp
/-- two lists of the same plain data -/
theorem u_same_lst (hI : P "_law_is_integer" = some fdIsInt) (hS : P "_law_same_items" = some fdItems) (hL : P "_law_same" = some fdSame) {a b : Nat} {xs : List D} (ha : A[a]? = some (.lst xs)) (hb : A[b]? = some (.lst xs)) (hz : xs.length ≤ PySem.sizeLine) (hp : pls xs = true) (hn : 2 * dps xs + 1 < n) :
    uR (callF P N (n + 2) "_law_same" [.ref a, .ref b] A) (fun r A' => r = .bl true ∧ Kp A A') := by
  have isa : ∀ {c : Nat} (t : String) (r : Bool), A[c]? = some (.lst xs) → tyNames.contains t = true → ("list" == t) = r → biF A "isinstance" [.ref c, .gl t] = .ok (.bl (r || ("list" == "bool" && t == "int"))) A := fun {c} t r h h1 h2 => by
    show biIsi A [.ref c, .gl t] = _
    have : tyName A (.ref c) = some "list" := by simp [tyName, h]
    simp only [biIsi, isA, this, h1, if_true, h2, Option.map_some]
    rfl
  rw [uR_call hL rfl]
  have tst : ∀ {Q : Bool → AH → Prop} (t : String) (F : Fr), F[1]? = some (some (.ref b)) → tyNames.contains t = true → ("list" == t) = false → Q false A → uR (tru (ev (callF P N (n + 1)) (.bi "isinstance" (.cons (.var 1) (.cons (.gl t) .nil))) F A)) Q := fun {Q} t F hF h1 h2 h3 => by
    rw [uR_tru, uR_bi, uR_cons, uR_var hF, uR_cons]
    show uR (biF A "isinstance" [.ref b, .gl t]) _
    rw [isa t false hb h1 h2, uR_ok]
    have : (false || ("list" == "bool" && t == "int")) = false := rfl
    rw [this]
    exact h3
  show uS (sx _ N fdSame.body [some (.ref a), some (.ref b), none] A) _ _ _ _
  rw [fdSame, uS_seq, uS_ite, uR_tru]
  refine uR_eq (a := .bl false) (A := A) (by kernel_rfl) ?_
  show uR (ofO (some false) A) _
  rw [uR_some, if_neg (by decide), uS_skip, uS_seq, uS_ite]
  refine tst "bool" _ rfl (by decide) (by decide) ?_
  rw [if_neg (by decide), uS_skip, uS_seq, uS_ite]
  refine tst "int" _ rfl (by decide) (by decide) ?_
  rw [if_neg (by decide), uS_skip, uS_seq, uS_ite]
  refine tst "str" _ rfl (by decide) (by decide) ?_
  rw [if_neg (by decide), uS_skip, uS_seq, uS_ite]
  refine tst "tuple" _ rfl (by decide) (by decide) ?_
  rw [if_neg (by decide), uS_skip, uS_seq, uS_ite, uR_tru, uR_bi, uR_cons, uR_var (d := .ref b) rfl, uR_cons]
  show uR (biF A "isinstance" [.ref b, .gl "list"]) _
  rw [isa "list" true hb (by decide) (by decide), uR_ok]
  show uR (ofO (some true) A) _
  rw [uR_some, if_pos rfl, uS_seq, uS_ret, uR_and, uR_bi, uR_cons, uR_var (d := .ref a) rfl, uR_cons]
  show uR (biF A "isinstance" [.ref a, .gl "list"]) _
  rw [isa "list" true ha (by decide) (by decide), uR_ok]
  show uR (ofO (some true) A) _
  rw [uR_some, if_pos rfl, uR_cl, uR_cons, uR_var (d := .ref a) rfl, uR_cons, uR_var (d := .ref b) rfl, uR_nil]
  exact u_same_items_of hS (.inl ⟨a, rfl, ha⟩) (.inl ⟨b, rfl, hb⟩) hz fun d hd A' k => u_same_pl hI hS hL n d A' (pls_mem hp d hd) (by have := dps_mem hd; omega)
end
end Ev

/-! ## EvTape2 -/
/-! EvTape2: the tape. -/
namespace Ev
open PySem
def tpD (c : Nat) (i l s z : Int) : List (D × D) := [(.str "cells", .ref c), (.str "at", .int i), (.str "left", .int l), (.str "seed", .int s), (.str "salt", .int z)]
theorem tpD_len {c : Nat} {i l s z : Int} : (tpD c i l s z).length < PySem.sizeLine := by
  rw [ev_sz]
  show 5 < 16777216
  omega
/-- the tape stands -/
def TapeOk (A : AH) (tp : Nat) : Prop := ∃ (c : Nat) (i l s z : Int) (cells : List Int), A[tp]? = some (.dct (tpD c i l s z)) ∧ A[c]? = some (.lst (cells.map .int)) ∧ 0 ≤ i ∧ 0 ≤ l ∧ (∀ x ∈ cells, 0 ≤ x) ∧ c = tp - 1
/-- all but the tape stands -/
structure Dr (tp : Nat) (A B : AH) : Prop where
  kp : ∀ (i : Nat) (o : AO), i ≠ tp → A[i]? = some o → B[i]? = some o
  tape : TapeOk B tp
theorem Dr.trans {tp : Nat} {A B C : AH} (a : Dr tp A B) (b : Dr tp B C) : Dr tp A C := ⟨fun i o n h => b.kp i o n (a.kp i o n h), b.tape⟩
theorem TapeOk.kp {tp : Nat} {A B : AH} (t : TapeOk A tp) (k : Kp A B) : TapeOk B tp := by
  obtain ⟨c, i, l, s, z, cells, h1, h2, h3⟩ := t
  exact ⟨c, i, l, s, z, cells, k _ _ h1, k _ _ h2, h3⟩
theorem Dr.of {tp : Nat} {A B : AH} (t : TapeOk A tp) (k : Kp A B) : Dr tp A B := ⟨fun i o _ h => k i o h, t.kp k⟩
theorem Dr.refl {tp : Nat} {A : AH} (t : TapeOk A tp) : Dr tp A A := .of t .refl
theorem Dr.app {tp : Nat} {A B J : AH} (d : Dr tp A B) : Dr tp A (B ++ J) := d.trans (.of d.tape Kp.refl.app)
theorem dct_get {A : AH} {a : Nat} {kvs : List (D × D)} {k : D} (h : A[a]? = some (.dct kvs)) (hk : keyOk k = true) : opI A (.ref a) k = dget kvs k := by
  have : dctL A a = some kvs := by simp [dctL, h]
  simp [opI, this, hk]
theorem dct_set {A : AH} {a : Nat} {kvs : List (D × D)} {k v : D} (h : A[a]? = some (.dct kvs)) (hk : keyOk k = true) (hz : kvs.length < PySem.sizeLine) : opSet A (.ref a) k v = some (A.set a (.dct (dput kvs k v))) := by
  simp [opSet, h, hk, hz]
theorem tape_set {A : AH} {tp c : Nat} {i l s z i' l' s' z' : Int} {cells : List Int} (h1 : A[tp]? = some (.dct (tpD c i l s z))) (h2 : A[c]? = some (.lst (cells.map .int))) (hi : 0 ≤ i') (hl : 0 ≤ l') (hc : ∀ x ∈ cells, 0 ≤ x) (hce : c = tp - 1) : Dr tp A (A.set tp (.dct (tpD c i' l' s' z'))) ∧ (A.set tp (.dct (tpD c i' l' s' z')))[c]? = some (.lst (cells.map .int)) := by
  have hne : tp ≠ c := fun e => by rw [e, h2] at h1; cases h1
  have h3 := set_ne (p := .dct (tpD c i' l' s' z')) h2 hne
  exact ⟨⟨fun j o n h => set_ne h (Ne.symm n), c, i', l', s', z', cells, set_at h1, h3, hi, hl, hc, hce⟩, h3⟩
section
variable {cl : String → List D → AH → Res D} {F : Fr} {A : AH} {tp c : Nat} {i l s z : Int}
theorem u_rd_key {key : String} {v : D} {P : D → AH → Prop} (hF : F[0]? = some (some (.ref tp))) (h : A[tp]? = some (.dct (tpD c i l s z))) (hk : dget (tpD c i l s z) (.str key) = some v) (p : P v A) : uR (ev cl (.ix (.var 0) (.str key)) F A) P := by
  rw [uR_ix, uR_var hF, uR_str, dct_get h rfl, hk]
  exact p
end
theorem int_id {A : AH} {i : Int} : biF A "int" [.int i] = .ok (.int i) A := rfl
theorem opB_mul {A : AH} {i j : Int} (h : j.natAbs < 18446744073709551616) : opB A .mul (.int i) (.int j) = .ok (.int (i * j)) A := by
  have : (decide (i.natAbs < 18446744073709551616) || decide (j.natAbs < 18446744073709551616)) = true := by rw [decide_eq_true h, Bool.or_true]
  show (if (decide (i.natAbs < 18446744073709551616) || decide (j.natAbs < 18446744073709551616)) = true then Res.ok (D.int (i * j)) A else .no) = _
  rw [if_pos this]
theorem opB_mod {A : AH} {i j : Int} (h : 0 < j) : opB A .mod (.int i) (.int j) = .ok (.int (i % j)) A := by
  show (if 0 < j then Res.ok (D.int (i % j)) A else .no) = _
  rw [if_pos h]
theorem opB_fdiv {A : AH} {i j : Int} (h : 0 < j) (h2 : j < 1073741824) : opB A .fdiv (.int i) (.int j) = .ok (.int (i / j)) A := by
  have : (decide (0 < j) && decide (j < 1073741824)) = true := by rw [decide_eq_true h, decide_eq_true h2]; rfl
  show (if (decide (0 < j) && decide (j < 1073741824)) = true then Res.ok (D.int (i / j)) A else .no) = _
  rw [if_pos this]
theorem opB_add {A : AH} {i j : Int} : opB A .add (.int i) (.int j) = .ok (.int (i + j)) A := rfl
theorem lt_int {A : AH} {i j : Int} : opC A .lt (.int i) (.int j) = some (decide (i < j)) := rfl
theorem gt_int {A : AH} {i j : Int} : opC A .gt (.int i) (.int j) = some (decide (j < i)) := rfl
theorem truth_bl {A : AH} {b : Bool} : truth A (.bl b) = some b := rfl
section
variable {P : Pg} {N n : Nat} {A : AH}
theorem u_take_spec (hT : P "_law_take" = some fdTake) {tp : Nat} {many : Int} (t : TapeOk A tp) (h0 : 0 < many) (h1 : many < 1073741824) :
    uR (callF P N (n + 1) "_law_take" [.ref tp, .int many] A) (fun r A' => ∃ m : Int, r = .int m ∧ 0 ≤ m ∧ m < many ∧ Dr tp A A') := by
  obtain ⟨c, i, l, s, z, cells, ht, hc, hi, hl, hcs, hce⟩ := t
  rw [uR_call hT rfl]
  show uS (sx _ N fdTake.body [some (.ref tp), some (.int many), none, none] A) _ _ _ _
  -- the second part, from a tape
  have part2 : ∀ (A2 : AH) (i l : Int), Dr tp A A2 → A2[tp]? = some (.dct (tpD c i l s z)) → A2[c]? = some (.lst (cells.map .int)) → 0 ≤ i → 0 ≤ l →
      uS (sx (callF P N n) N (drp 1 fdTake.body) [some (.ref tp), some (.int many), none, none] A2) (fun _ A' => ∃ m : Int, D.non = .int m ∧ 0 ≤ m ∧ m < many ∧ Dr tp A A') (fun _ _ => False) (fun _ _ => False) (fun r A' => ∃ m : Int, r = .int m ∧ 0 ≤ m ∧ m < many ∧ Dr tp A A') := by
    intro A2 i l d2 ht hc hi hl
    show uS (sx (callF P N n) N (.seq (.ite (.cmp .gt (.ix (.var 0) (.str "left")) (.int 0)) _ .skip) _) _ A2) _ _ _ _
    rw [uS_seq, uS_ite, uR_tru, uR_cmp]
    refine u_rd_key rfl ht rfl ?_
    rw [uR_int, gt_int]
    show uR (ofO (some (D.bl (decide (0 < l)))) A2) _
    rw [uR_some, truth_bl, uR_some]
    by_cases hl0 : 0 < l
    · rw [if_pos (decide_eq_true hl0), uS_seq, uS_set, uR_op, uR_bi, uR_cons]
      refine u_rd_key rfl ht rfl ?_
      rw [uR_nil, int_id, uR_ok, uR_var (d := .int many) rfl, opB_mod h0, uR_ok]
      show uS (sx _ N _ [some (.ref tp), some (.int many), some (.int (l % many)), none] A2) _ _ _ _
      rw [uS_seq, uS_sub, uR_op]
      refine u_rd_key rfl ht rfl ?_
      rw [uR_var (d := .int many) rfl, opB_fdiv h0 h1, uR_ok, uR_var (d := .ref tp) rfl, uR_str]
      refine ⟨_, dct_set ht rfl tpD_len, ?_⟩
      rw [uS_seq, uS_ret, uR_var (d := .int (l % many)) rfl]
      exact ⟨l % many, rfl, Int.emod_nonneg _ (by omega), Int.emod_lt_of_pos _ h0, d2.trans (tape_set (l' := l / many) ht hc hi (Int.ediv_nonneg hl (by omega)) hcs hce).1⟩
    · rw [if_neg (by simp [hl0]), uS_skip]
      rw [uS_seq, uS_sub, uR_op]
      refine u_rd_key rfl ht rfl ?_
      rw [uR_int, opB_add, uR_ok, uR_var (d := .ref tp) rfl, uR_str]
      refine ⟨_, dct_set ht rfl tpD_len, ?_⟩
      obtain ⟨d3, hc3⟩ := tape_set (z' := z + 1) (s' := s) (l' := l) (i' := i) ht hc hi hl hcs hce
      have ht3 : (A2.set tp (.dct (dput (tpD c i l s z) (.str "salt") (.int (z + 1)))))[tp]? = some (.dct (tpD c i l s (z + 1))) := set_at ht
      have d3 : Dr tp A2 (A2.set tp (.dct (dput (tpD c i l s z) (.str "salt") (.int (z + 1))))) := d3
      generalize A2.set tp (.dct (dput (tpD c i l s z) (.str "salt") (.int (z + 1)))) = A3 at ht3 d3
      rw [uS_seq, uS_set, uR_op, uR_bi, uR_cons, uR_op, uR_op]
      refine u_rd_key rfl ht3 rfl ?_
      rw [uR_int, opB_mul (by decide), uR_ok, uR_op]
      refine u_rd_key rfl ht3 rfl ?_
      rw [uR_int, opB_mul (by decide), uR_ok, opB_add, uR_ok, uR_nil, int_id, uR_ok, uR_int, opB_mod (by decide), uR_ok]
      generalize hm : (s * 48271 + (z + 1) * 69621) % 2147483647 = m1
      have hm1 : 0 ≤ m1 := by rw [← hm]; exact Int.emod_nonneg _ (by decide)
      have hm2 : m1 < 2147483647 := by rw [← hm]; exact Int.emod_lt_of_pos _ (by decide)
      show uS (sx _ N _ [some (.ref tp), some (.int many), none, some (.int m1)] A3) _ _ _ _
      rw [uS_seq, uS_set, uR_op, uR_bi, uR_cons, uR_op, uR_op, uR_op, uR_var (d := .int m1) rfl, uR_var (d := .int m1) rfl, opB_mul (by omega), uR_ok, uR_op]
      refine u_rd_key rfl ht3 rfl ?_
      rw [uR_int, opB_mul (by decide), uR_ok, opB_add, uR_ok, uR_int, opB_add, uR_ok, uR_nil, int_id, uR_ok, uR_int, opB_mod (by decide), uR_ok]
      generalize (m1 * m1 + (z + 1) * 40692 + 12345) % 2147483399 = m2
      show uS (sx _ N _ [some (.ref tp), some (.int many), none, some (.int m2)] A3) _ _ _ _
      rw [uS_seq, uS_ret, uR_op, uR_bi, uR_cons, uR_var (d := .int m2) rfl, uR_nil, int_id, uR_ok, uR_var (d := .int many) rfl, opB_mod h0]
      exact ⟨m2 % many, rfl, Int.emod_nonneg _ (by omega), Int.emod_lt_of_pos _ h0, d2.trans d3⟩
  show uS (sx (callF P N n) N (.seq (.ite (.and (.cmp .eq (.ix (.var 0) (.str "left")) (.int 0)) (.cmp .lt (.ix (.var 0) (.str "at")) (.bi "len" (.cons (.ix (.var 0) (.str "cells")) .nil)))) _ .skip) (drp 1 fdTake.body)) _ A) _ _ _ _
  rw [uS_seq, uS_ite, uR_tru, uR_and, uR_cmp]
  refine u_rd_key rfl ht rfl ?_
  rw [uR_int, eq_int]
  show uR (ofO (some (D.bl (decide (l = 0)))) A) _
  rw [uR_some, truth_bl, uR_some]
  by_cases hl0 : l = 0
  · rw [if_pos (decide_eq_true hl0), uR_cmp]
    refine u_rd_key rfl ht rfl ?_
    rw [uR_bi, uR_cons]
    refine u_rd_key rfl ht rfl ?_
    rw [uR_nil, len_lst hc, uR_ok, lt_int]
    show uR (ofO (some (D.bl (decide (i < ((cells.map D.int).length : Int))))) A) _
    rw [uR_some, truth_bl, uR_some]
    by_cases hlt : i < ((cells.map D.int).length : Int)
    · rw [if_pos (decide_eq_true hlt), uS_seq, uS_sub, uR_ix]
      refine u_rd_key rfl ht rfl ?_
      refine u_rd_key rfl ht rfl ?_
      have hx : ∃ x, cells[i.toNat]? = some x := ⟨_, List.getElem?_eq_getElem (by rw [List.length_map] at hlt; omega)⟩
      obtain ⟨x, hx⟩ := hx
      have hgx : opI A (.ref c) (.int i) = some (.int x) := by
        rw [opI_lst hc, show i = ((i.toNat : Nat) : Int) by omega, atI_nat, List.getElem?_map, hx]; rfl
      rw [hgx, uR_some, uR_var (d := .ref tp) rfl, uR_str]
      refine ⟨_, dct_set ht rfl tpD_len, ?_⟩
      have hx0 := hcs x (List.mem_of_getElem? hx)
      obtain ⟨d3, hc3⟩ := tape_set (z' := z) (s' := s) (l' := x) (i' := i) ht hc hi hx0 hcs hce
      have ht3 : (A.set tp (.dct (dput (tpD c i l s z) (.str "left") (.int x))))[tp]? = some (.dct (tpD c i x s z)) := set_at ht
      have d3 : Dr tp A (A.set tp (.dct (dput (tpD c i l s z) (.str "left") (.int x)))) := d3
      have hc3 : (A.set tp (.dct (dput (tpD c i l s z) (.str "left") (.int x))))[c]? = some (.lst (cells.map .int)) := hc3
      generalize A.set tp (.dct (dput (tpD c i l s z) (.str "left") (.int x))) = A3 at ht3 d3 hc3
      rw [uS_seq, uS_sub, uR_op]
      refine u_rd_key rfl ht3 rfl ?_
      rw [uR_int, opB_add, uR_ok, uR_var (d := .ref tp) rfl, uR_str]
      refine ⟨_, dct_set ht3 rfl tpD_len, ?_⟩
      rw [uS_skip]
      obtain ⟨d4, hc4⟩ := tape_set (z' := z) (s' := s) (l' := x) (i' := i + 1) ht3 hc3 (by omega) hx0 hcs hce
      exact part2 _ (i + 1) x (d3.trans d4) (set_at ht3) hc4 (by omega) hx0
    · rw [if_neg (by rw [decide_eq_false hlt]; exact Bool.false_ne_true), uS_skip]
      exact part2 A i l (.refl ⟨c, i, l, s, z, cells, ht, hc, hi, hl, hcs, hce⟩) ht hc hi hl
  · rw [if_neg (by simp [hl0])]
    show uR (ofO (some (decide (l = 0))) A) _
    rw [uR_some, if_neg (by simp [hl0]), uS_skip]
    exact part2 A i l (.refl ⟨c, i, l, s, z, cells, ht, hc, hi, hl, hcs, hce⟩) ht hc hi hl
theorem u_tape_spec (hT : P "_law_tape" = some fdTape) {ns : List Int} (hn : ns.length ≤ 63) : uR (callF P N (n + 1) "_law_tape" [.frl (ns.map .int)] []) (fun r A' => ∃ tp, r = .ref tp ∧ TapeOk A' tp) := by
  rw [uR_call hT rfl]
  show uS (sx _ N fdTape.body [some (.frl (ns.map .int)), none, none, none] []) _ _ _ _
  rw [fdTape, uS_seq, uS_set, uR_lc, uR_wk, uR_var (d := .frl (ns.map .int)) rfl]
  show uR (unlR none (bnd (lcL _ [] _ _ (ns.map .int) [] []) _)) _
  show uR (bnd _ _) _
  rw [uR_bnd]
  refine u_lcL_kp (ns.map fun i => some (D.int (if i < 0 then -i else i))) (by simp) (by rw [List.length_map, ev_sz]; omega) rfl (fun j d o A e1 e2 k => ?_) fun A k => ?_
  · rw [List.getElem?_map] at e1 e2
    obtain ⟨i, hi, rfl⟩ := Option.map_eq_some_iff.mp e1
    rw [hi] at e2
    cases e2
    refine ⟨_, rfl, ?_⟩
    rw [uR_lcB, uR_evc0, if_pos rfl, uR_bi, uR_cons, uR_bi, uR_cons, uR_var (d := .int i) rfl, uR_nil, int_id, uR_ok, uR_nil]
    exact ⟨rfl, .refl⟩
  · have fm : (ns.map fun i => some (D.int (if i < 0 then -i else i))).filterMap id = (ns.map fun i => if i < 0 then -i else i).map D.int := by
      induction ns with
      | nil => rfl
      | cons i r ih => simp
    rw [fm, uR_ok]
    generalize hcs : (ns.map fun i => if i < 0 then -i else i) = cells
    have hpos : ∀ x ∈ cells, 0 ≤ x := fun x hx => by
      rw [← hcs] at hx
      obtain ⟨i, _, rfl⟩ := List.mem_map.mp hx
      split <;> omega
    show uS (sx _ N _ [some (.frl (ns.map .int)), some (.ref A.length), none, none] (A ++ [.lst (cells.map .int)])) _ _ _ _
    rw [uS_seq, uS_set, uR_int]
    show uS (sx _ N _ [some (.frl (ns.map .int)), some (.ref A.length), some (.int 7), none] (A ++ [.lst (cells.map .int)])) _ _ _ _
    rw [uS_seq, uS_for, uR_wk, uR_var (d := .ref A.length) rfl]
    have hw : wkOf (A ++ [.lst (cells.map .int)]) (.ref A.length) = some ⟨cells.map .int, [(A.length, .lst (cells.map .int))], none⟩ := by simp [wkOf]
    rw [hw, uR_some]
    refine u_forL_ind (fun i F A' => A' = A ++ [.lst (cells.map .int)] ∧ ∃ s y, F = [some (.frl (ns.map .int)), some (.ref A.length), some (.int s), y]) _ 0 _ _ ⟨rfl, 7, none, rfl⟩ (fun j d F A' e ⟨eA, s, y, eF⟩ => ?_) fun F A' ⟨eA, s, y, eF⟩ => ?_
    · subst eA eF
      refine ⟨gOk_one new_at, ?_⟩
      rw [List.getElem?_map] at e
      obtain ⟨x, hx, rfl⟩ := Option.map_eq_some_iff.mp e
      refine ⟨[some (.frl (ns.map .int)), some (.ref A.length), some (.int s), some (.int x)], rfl, ?_⟩
      rw [uS_seq, uS_set, uR_op, uR_bi, uR_cons, uR_op, uR_op, uR_var (d := .int s) rfl, uR_int, opB_mul (by decide), uR_ok, uR_var (d := .int x) rfl, opB_add, uR_ok, uR_nil, int_id, uR_ok, uR_int, opB_mod (by decide), uR_ok, uS_skip]
      exact ⟨rfl, _, _, rfl⟩
    · subst eA eF
      refine ⟨gOk_one new_at, ?_⟩
      rw [uS_seq, uS_ret]
      refine uR_eq (a := .ref (A ++ [AO.lst (cells.map D.int)]).length) (A := (A ++ [AO.lst (cells.map D.int)]) ++ [.dct (tpD A.length 0 0 s 0)]) (by kernel_rfl) ?_
      exact ⟨_, rfl, A.length, 0, 0, s, 0, cells, new_at, app_at new_at, Int.le_refl 0, Int.le_refl 0, hpos, by simp⟩
end
end Ev

/-! ## EvWpX -/
/-! EvWpX: what the evaluator reaches, exceptions too; fields, makes, methods. -/
namespace Ev
open PySem
def uE {α : Type} (r : Res α) (P : α → AH → Prop) (X : Xc → AH → Prop) : Prop := match r with
  | .ok a A => P a A
  | .exc x A => X x A
  | .no => False
/-- statements: next, break, continue, return, exception -/
structure PX where
  nx : Fr → AH → Prop
  bk : Fr → AH → Prop := fun _ _ => False
  ct : Fr → AH → Prop := fun _ _ => False
  rt : D → AH → Prop := fun _ _ => False
  ex : Xc → Fr → AH → Prop := fun _ _ _ => False
def uT (r : SR) (P : PX) : Prop := match r with
  | .nx F A => P.nx F A
  | .bk F A => P.bk F A
  | .ct F A => P.ct F A
  | .rt d A => P.rt d A
  | .exc x F A => P.ex x F A
  | .no => False
theorem uE.mono {α : Type} {r : Res α} {P Q : α → AH → Prop} {X Y : Xc → AH → Prop} (h : uE r P X) (k : ∀ a A, P a A → Q a A) (k2 : ∀ x A, X x A → Y x A) : uE r Q Y := by
  cases r with
  | ok a A => exact k a A h
  | exc x A => exact k2 x A h
  | no => exact h
theorem uE_of {α : Type} {r : Res α} {P : α → AH → Prop} {X : Xc → AH → Prop} (h : uR r P) : uE r P X := by
  cases r with
  | ok a A => exact h
  | exc => exact h.elim
  | no => exact h
theorem uR_of {α : Type} {r : Res α} {P : α → AH → Prop} (h : uE r P fun _ _ => False) : uR r P := by
  cases r with
  | ok a A => exact h
  | exc => exact h
  | no => exact h
theorem uE_bnd {α β : Type} {r : Res α} {f : α → AH → Res β} {P : β → AH → Prop} {X : Xc → AH → Prop} : uE (bnd r f) P X ↔ uE r (fun a A => uE (f a A) P X) X := by cases r <;> rfl
theorem uE_bndR {α β : Type} {r : Res α} {f : α → AH → Res β} {P : β → AH → Prop} {X : Xc → AH → Prop} (h : uR r (fun a A => uE (f a A) P X)) : uE (bnd r f) P X := uE_bnd.mpr (uE_of h)
theorem uT.mono {r : SR} {P Q : PX} (h : uT r P) (k1 : ∀ F A, P.nx F A → Q.nx F A) (k2 : ∀ F A, P.bk F A → Q.bk F A) (k3 : ∀ F A, P.ct F A → Q.ct F A) (k4 : ∀ d A, P.rt d A → Q.rt d A) (k5 : ∀ x F A, P.ex x F A → Q.ex x F A) : uT r Q := by
  cases r with
  | nx F A => exact k1 _ _ h
  | bk F A => exact k2 _ _ h
  | ct F A => exact k3 _ _ h
  | rt d A => exact k4 _ _ h
  | exc x F A => exact k5 _ _ _ h
  | no => exact h
theorem uT_of {r : SR} {P : PX} (h : uS r P.nx P.bk P.ct P.rt) : uT r P := by
  cases r with
  | nx F A => exact h
  | bk F A => exact h
  | ct F A => exact h
  | rt d A => exact h
  | exc => exact h.elim
  | no => exact h
theorem uS_ofT {r : SR} {Pn Pb Pc : Fr → AH → Prop} {Pr : D → AH → Prop} (h : uT r { nx := Pn, bk := Pb, ct := Pc, rt := Pr }) : uS r Pn Pb Pc Pr := by
  cases r with
  | nx F A => exact h
  | bk F A => exact h
  | ct F A => exact h
  | rt d A => exact h
  | exc => exact h.elim
  | no => exact h
section
variable {cl : String → List D → AH → Res D} {N : Nat} {F : Fr} {A : AH} {P : PX}
theorem uT_bns {α : Type} {r : Res α} {f : α → AH → SR} : uT (bns F r f) P ↔ uE r (fun a A => uT (f a A) P) (fun x A => P.ex x F A) := by cases r <;> rfl
theorem uT_seq {a b : Sm} : uT (sx cl N (.seq a b) F A) P ↔ uT (sx cl N a F A) { P with nx := fun F A => uT (sx cl N b F A) P } := by
  show uT (match sx cl N a F A with | .nx F' A' => sx cl N b F' A' | x => x) P ↔ _
  cases sx cl N a F A <;> rfl
theorem uT_skip : uT (sx cl N .skip F A) P ↔ P.nx F A := Iff.rfl
theorem uT_ex {e : Ex} : uT (sx cl N (.ex e) F A) P ↔ uE (ev cl e F A) (fun _ A => P.nx F A) (fun x A => P.ex x F A) := uT_bns
theorem uT_set {i : Nat} {e : Ex} : uT (sx cl N (.set i e) F A) P ↔ uE (ev cl e F A) (fun d A => P.nx (fset F i d) A) (fun x A => P.ex x F A) := uT_bns
theorem uT_ret {e : Ex} : uT (sx cl N (.ret e) F A) P ↔ uE (ev cl e F A) (fun d A => P.rt d A) (fun x A => P.ex x F A) := uT_bns
theorem uT_ite {c : Ex} {a b : Sm} : uT (sx cl N (.ite c a b) F A) P ↔ uE (tru (ev cl c F A)) (fun r A => if r = true then uT (sx cl N a F A) P else uT (sx cl N b F A) P) (fun x A => P.ex x F A) := by
  refine uT_bns.trans ?_
  cases tru (ev cl c F A) with
  | ok r A => cases r <;> rfl
  | exc => rfl
  | no => rfl
/-- a test that raises nothing -/
theorem uT_if {c : Ex} {a b : Sm} (h : uR (ev cl c F A) (fun d A => uR (ofO (truth A d) A) fun r A => if r = true then uT (sx cl N a F A) P else uT (sx cl N b F A) P)) : uT (sx cl N (.ite c a b) F A) P :=
  uT_ite.mpr (uE_of (uR_tru.mpr h))
theorem uT_rs0 {c : String} : uT (sx cl N (.rs0 c) F A) P ↔ P.ex ⟨c, []⟩ F A := Iff.rfl
theorem uT_rs2 {c : String} {es : Ex} (h : uR (evs cl es F A) fun ds A => ∃ a b, ds = [a, b] ∧ P.ex ⟨c, [("code", a), ("path", b)]⟩ F A) : uT (sx cl N (.rs2 c es) F A) P := by
  refine uT_bns.mpr (uE_of (h.mono fun ds A ⟨a, b, e, p⟩ => ?_))
  subst e
  exact p
theorem uT_tr {b : Sm} {c : String} {cs : List String} {i : Option Nat} {h : Hd} : uT (sx cl N (.tr b c cs i h) F A) P ↔ uT (sx cl N b F A) { P with ex := fun x F A => uT (trR c cs i h (.exc x F A)) P } := by
  show uT (trR c cs i h (sx cl N b F A)) P ↔ _
  cases sx cl N b F A <;> rfl
theorem uT_fst {o e : Ex} {c f : String} (h : uR (ev cl e F A) fun v A1 => uR (ev cl o F A1) fun x A2 => ∃ A3, fstD A2 c f x v = some A3 ∧ P.nx F A3) : uT (sx cl N (.fst o c f e) F A) P := by
  refine uT_bns.mpr (uE_of (h.mono fun v A1 h => uT_bns.mpr (uE_of (h.mono fun x A2 ⟨A3, e, p⟩ => ?_))))
  rw [e]
  exact p
theorem uT_fau {o e : Ex} {c f : String} {op : BOp} (h : uR (ev cl o F A) fun x A1 => ∃ u, fldD A1 c f x = some u ∧ uR (ev cl e F A1) fun v A2 => ∃ w, augI op u v = some w ∧ ∃ A3, fstD A2 c f x w = some A3 ∧ P.nx F A3) : uT (sx cl N (.fau o c f op e) F A) P := by
  refine uT_bns.mpr (uE_of (h.mono fun x A1 ⟨u, e1, h⟩ => ?_))
  rw [e1]
  refine uT_bns.mpr (uE_of (h.mono fun v A2 ⟨w, e2, A3, e3, p⟩ => ?_))
  rw [e2]
  simp only [e3]
  exact p
theorem uT_sub {o i e : Ex} (h : uR (ev cl e F A) fun v A1 => uR (ev cl o F A1) fun x A2 => uR (ev cl i F A2) fun y A3 => ∃ A4, opSet A3 x y v = some A4 ∧ P.nx F A4) : uT (sx cl N (.sub o i e) F A) P := by
  refine uT_bns.mpr (uE_of (h.mono fun v A1 h => uT_bns.mpr (uE_of (h.mono fun x A2 h => uT_bns.mpr (uE_of (h.mono fun y A3 ⟨A4, e, p⟩ => ?_))))))
  rw [e]
  exact p
theorem u_forT_ind {asg : D → Fr → Option Fr} {g : Guard} {body : Fr → AH → SR} (I : Nat → Fr → AH → Prop) :
    ∀ (items : List D) (i : Nat) (F : Fr) (A : AH), I i F A →
      (∀ j d F A, items[j]? = some d → I (i + j) F A → gOk A g = true ∧ ∃ F', asg d F = some F' ∧ uT (body F' A) { P with nx := I (i + j + 1), bk := P.nx, ct := I (i + j + 1) }) →
      (∀ F A, I (i + items.length) F A → gOk A g = true ∧ P.nx F A) → uT (forL asg g body items F A) P
  | [], i, F, A, h0, hs, hd => by
    obtain ⟨h1, h2⟩ := hd F A h0
    unfold forL
    rw [if_pos h1]
    exact h2
  | d :: r, i, F, A, h0, hs, hd => by
    obtain ⟨h1, F', h2, h3⟩ := hs 0 d F A rfl h0
    unfold forL
    rw [if_pos h1]
    simp only [h2]
    have go : ∀ F A, I (i + 1) F A → uT (forL asg g body r F A) P := fun F A h => by
      refine u_forT_ind I r (i + 1) F A h (fun j d F A e h => ?_) (fun F A h => hd F A (by rw [List.length_cons]; rw [show i + (r.length + 1) = i + 1 + r.length by omega]; exact h))
      have := hs (j + 1) d F A (by simpa using e) (by rw [show i + (j + 1) = i + 1 + j by omega]; exact h)
      rw [show i + (j + 1) + 1 = i + 1 + j + 1 by omega] at this
      exact this
    cases e : body F' A with
    | nx F2 A2 => rw [e] at h3; exact go _ _ h3
    | ct F2 A2 => rw [e] at h3; exact go _ _ h3
    | bk F2 A2 => rw [e] at h3; exact h3
    | rt d A2 => rw [e] at h3; exact h3
    | exc y F2 A2 => rw [e] at h3; exact h3
    | no => rw [e] at h3; exact h3
theorem uT_for {t : Tg} {it : Ex} {b : Sm} (h : uR (evw cl it F A) fun w A1 => w.lock = none ∧ uT (forL (asgT t) w.g (fun F' A' => sx cl N b F' A') w.items F A1) P) : uT (sx cl N (.for t it b) F A) P := by
  refine uT_bns.mpr (uE_of (h.mono fun w A1 ⟨e, h⟩ => ?_))
  rw [e]
  exact h
variable {Q : D → AH → Prop} {X : Xc → AH → Prop}
theorem uE_cl {f : String} {es : Ex} (h : uR (evs cl es F A) fun ds A1 => uE (cl f ds A1) Q X) : uE (ev cl (.call f es) F A) Q X := uE_bndR h
theorem uE_mc {c m f : String} {o es : Ex} (h : uR (ev cl o F A) fun x A1 => isMe A1 c m x = true ∧ uR (evs cl es F A1) fun ds A2 => uE (cl f (x :: ds) A2) Q X) : uE (ev cl (.mc c m f o es) F A) Q X := by
  refine uE_bndR (h.mono fun x A1 ⟨e, h⟩ => ?_)
  rw [if_pos e]
  exact uE_bndR h
theorem uR_fld {a : Ex} {c f : String} {Q : D → AH → Prop} : uR (ev cl (.fld a c f) F A) Q ↔ uR (ev cl a F A) (fun x A1 => uR (ofO (fldD A1 c f x) A1) Q) := uR_bnd
theorem uR_mk {c f : String} {es : Ex} {Q : D → AH → Prop} (h : uR (evs cl es F A) fun ds A1 => uR (cl f (.ref A1.length :: ds) (A1 ++ [.ins c []])) fun r A2 => r = .non ∧ Q (.ref A1.length) A2) : uR (ev cl (.mk c f es) F A) Q := by
  refine uR_bnd.mpr (h.mono fun ds A1 h => uR_bnd.mpr (h.mono fun r A2 ⟨e, q⟩ => ?_))
  subst e
  exact q
theorem uR_cst {x : String} {d : D} {Q : D → AH → Prop} : uR (ev cl (.cst x d) F A) Q ↔ Q d A := Iff.rfl
end
theorem uE_call {P : Pg} {N n : Nat} {f : String} {fd : Fd} {ds : List D} {A : AH} {Q : D → AH → Prop} {X : Xc → AH → Prop} (h : P f = some fd) (hl : ds.length = fd.np) :
    uE (callF P N (n + 1) f ds A) Q X ↔ uT (sx (callF P N n) N fd.body (startF fd ds) A) { nx := fun _ A => Q .non A, rt := Q, ex := fun x _ A => X x A } := by
  show uE (match P f with
    | none => Res.no
    | some fd => if ds.length = fd.np then (match sx (callF P N n) N fd.body (startF fd ds) A with
      | .nx _ A' => .ok D.non A'
      | .rt d A' => .ok d A'
      | .exc x _ A' => .exc x A'
      | _ => .no) else .no) Q X ↔ _
  rw [h]
  simp only [hl, if_true]
  cases sx (callF P N n) N fd.body (startF fd ds) A <;> rfl
end Ev
namespace Ev
theorem uS_of_eq {r : SR} {Pn Pb Pc : Fr → AH → Prop} {Pr : D → AH → Prop} {d : D} {A : AH} (h : r = .rt d A) (p : Pr d A) : uS r Pn Pb Pc Pr := by rw [h]; exact p
theorem uT_of_eq {r : SR} {P : PX} {d : D} {A : AH} (h : r = .rt d A) (p : P.rt d A) : uT r P := by rw [h]; exact p
end Ev

/-! ## EvWpY -/
/-! EvWpY: more rules. -/
namespace Ev
open PySem
abbrev Cl0 := String → List D → AH → Res D
section
variable {cl : Cl0} {A : AH} {P : D → AH → Prop} {a b c d e f g h i j : Option D} {z : D} {F : Fr}
theorem uR_v0 : uR (ev cl (.var 0) (some z :: F) A) P ↔ P z A := Iff.rfl
theorem uR_v1 : uR (ev cl (.var 1) (a :: some z :: F) A) P ↔ P z A := Iff.rfl
theorem uR_v2 : uR (ev cl (.var 2) (a :: b :: some z :: F) A) P ↔ P z A := Iff.rfl
theorem uR_v3 : uR (ev cl (.var 3) (a :: b :: c :: some z :: F) A) P ↔ P z A := Iff.rfl
theorem uR_v4 : uR (ev cl (.var 4) (a :: b :: c :: d :: some z :: F) A) P ↔ P z A := Iff.rfl
theorem uR_v5 : uR (ev cl (.var 5) (a :: b :: c :: d :: e :: some z :: F) A) P ↔ P z A := Iff.rfl
theorem uR_v6 : uR (ev cl (.var 6) (a :: b :: c :: d :: e :: f :: some z :: F) A) P ↔ P z A := Iff.rfl
theorem uR_v7 : uR (ev cl (.var 7) (a :: b :: c :: d :: e :: f :: g :: some z :: F) A) P ↔ P z A := Iff.rfl
theorem uR_v8 : uR (ev cl (.var 8) (a :: b :: c :: d :: e :: f :: g :: h :: some z :: F) A) P ↔ P z A := Iff.rfl
theorem uR_non : uR (ev cl .non F A) P ↔ P .non A := Iff.rfl
theorem uR_bl {b : Bool} : uR (ev cl (.bl b) F A) P ↔ P (.bl b) A := Iff.rfl
theorem uR_tix {i : Nat} {k : Int} {xs : List D} {x : D} (h : F[i]? = some (some (.tup xs))) (h2 : L2.atI xs k = some x) : uR (ev cl (.ix (.var i) (.int k)) F A) P ↔ P x A := by
  rw [uR_ix, uR_var h, uR_int]
  show uR (ofO (L2.atI xs k) A) P ↔ _
  rw [h2]
  exact Iff.rfl
theorem uR_pcat {i : Nat} {k : Int} {xs : List D} (h : F[i]? = some (some (.tup xs))) (hl : xs.length ≤ 1000) : uR (ev cl (.op .add (.var i) (.tup (.cons (.int k) .nil))) F A) P ↔ P (.tup (xs ++ [.int k])) A := by
  rw [uR_op, uR_var h, uR_tup, uR_cons, uR_int, uR_nil]
  have h1 : [D.int k].length ≤ PySem.sizeLine := by rw [ev_sz]; simp
  rw [if_pos h1, uR_ok]
  have h2 : xs.length + [D.int k].length ≤ PySem.sizeLine := by rw [ev_sz]; simp; omega
  show uR (if xs.length + [D.int k].length ≤ PySem.sizeLine then Res.ok (D.tup (xs ++ [.int k])) A else .no) P ↔ _
  rw [if_pos h2]
  exact Iff.rfl
end
theorem uR_ifok {α : Type} {c : Prop} [Decidable c] {a : α} {A : AH} {P : α → AH → Prop} (h : c) : uR (if c then Res.ok a A else .no) P ↔ P a A := by
  rw [if_pos h]; exact Iff.rfl
theorem sz1 {α : Type} {l : List α} (h : l.length ≤ 1000) : l.length ≤ PySem.sizeLine := by rw [ev_sz]; omega
theorem u_ite_s {cl : Cl0} {N : Nat} {F : Fr} {A : AH} {Pn Pb Pc : Fr → AH → Prop} {Pr : D → AH → Prop} (k : Nat) {b : Sm} (h1 : sx cl N b F A = sx cl N (drp k b) F A) (h2 : isIte (drp k b) = true) (h3 : tru (ev cl (iteC (drp k b)) F A) = .ok true A)
    (h : uS (sx cl N (iteA (drp k b)) F A) (fun _ _ => False) Pb Pc Pr) : uS (sx cl N b F A) Pn Pb Pc Pr := u_ite_at k h1 h2 h3 h
section
variable {cl : Cl0} {N : Nat} {F : Fr} {A : AH} {P : PX}
theorem uT_setR {i : Nat} {e : Ex} (h : uR (ev cl e F A) fun d A => P.nx (fset F i d) A) : uT (sx cl N (.set i e) F A) P := uT_set.mpr (uE_of h)
theorem uT_retR {e : Ex} (h : uR (ev cl e F A) fun d A => P.rt d A) : uT (sx cl N (.ret e) F A) P := uT_ret.mpr (uE_of h)
theorem uT_word {i : Nat} {w z : String} {a b : Sm} (hF : F[i]? = some (some (.str w))) : uT (sx cl N (.ite (.cmp .eq (.var i) (.str z)) a b) F A) P ↔ if w = z then uT (sx cl N a F A) P else uT (sx cl N b F A) P := by
  rw [uT_ite]
  have : tru (ev cl (.cmp .eq (.var i) (.str z)) F A) = .ok (decide (w = z)) A := by
    show tru (bnd (match F[i]? with | some (some d) => Res.ok d A | _ => .no) fun x A1 => bnd (Res.ok (D.str z) A1) fun y A2 => ofO ((opC A2 .eq x y).map .bl) A2) = _
    rw [hF]
    show tru (ofO ((opC A .eq (.str w) (.str z)).map .bl) A) = _
    rw [eq_str]
    rfl
  rw [this]
  show (if decide (w = z) = true then _ else _) ↔ _
  by_cases h : w = z
  · rw [if_pos (decide_eq_true h), if_pos h]
  · rw [if_neg (by simp [h]), if_neg h]
theorem u_forT_nil {asg : D → Fr → Option Fr} {body : Fr → AH → SR} (h : P.nx F A) : uT (forL asg [] body [] F A) P := h
theorem u_forT_cons {asg : D → Fr → Option Fr} {body : Fr → AH → SR} {d : D} {r : List D} {F' : Fr} (h1 : asg d F = some F') (h : uT (body F' A) { P with nx := fun F A => uT (forL asg [] body r F A) P, bk := P.nx, ct := fun F A => uT (forL asg [] body r F A) P }) : uT (forL asg [] body (d :: r) F A) P := by
  show uT (if gOk A [] = true then (match asg d F with
    | some F' => (match body F' A with
      | .nx F2 A2 => forL asg [] body r F2 A2
      | .ct F2 A2 => forL asg [] body r F2 A2
      | .bk F2 A2 => .nx F2 A2
      | x => x)
    | none => .no) else .no) P
  rw [if_pos (show gOk A [] = true from rfl), h1]
  show uT (match body F' A with | .nx F2 A2 => forL asg [] body r F2 A2 | .ct F2 A2 => forL asg [] body r F2 A2 | .bk F2 A2 => .nx F2 A2 | x => x) P
  generalize body F' A = z at h ⊢
  cases z <;> exact h
end
section
variable {cl : Cl0} {N : Nat} {P : PX}
theorem u_whlT {c : Fr → AH → Res Bool} {body : Fr → AH → SR} (I : Nat → Fr → AH → Prop) (hs : ∀ k F A, I k F A → uR (c F A) (fun r A1 => if r = true then uT (body F A1) { P with nx := fun F2 A2 => ∃ k', k' < k ∧ I k' F2 A2, ct := fun F2 A2 => ∃ k', k' < k ∧ I k' F2 A2, bk := P.nx } else P.nx F A1)) :
    ∀ (N k : Nat) (F : Fr) (A : AH), k < N → I k F A → uT (whlL c body N F A) P
  | 0, k, _, _, h, _ => by omega
  | N + 1, k, F, A, h, hi => by
    have q := hs k F A hi
    show uT (match c F A with
      | .ok false A' => .nx F A'
      | .ok true A' => (match body F A' with
        | .nx F2 A2 => whlL c body N F2 A2
        | .ct F2 A2 => whlL c body N F2 A2
        | .bk F2 A2 => .nx F2 A2
        | x => x)
      | .exc x A' => .exc x F A'
      | .no => .no) P
    cases e : c F A with
    | ok r A1 =>
      rw [e] at q
      cases r with
      | false => exact q
      | true =>
        have q : uT (body F A1) { P with nx := fun F2 A2 => ∃ k', k' < k ∧ I k' F2 A2, ct := fun F2 A2 => ∃ k', k' < k ∧ I k' F2 A2, bk := P.nx } := q
        show uT (match body F A1 with
          | .nx F2 A2 => whlL c body N F2 A2
          | .ct F2 A2 => whlL c body N F2 A2
          | .bk F2 A2 => .nx F2 A2
          | x => x) P
        cases e2 : body F A1 with
        | nx F2 A2 => rw [e2] at q; obtain ⟨k', h1, h2⟩ := q; exact u_whlT I hs N k' F2 A2 (by omega) h2
        | ct F2 A2 => rw [e2] at q; obtain ⟨k', h1, h2⟩ := q; exact u_whlT I hs N k' F2 A2 (by omega) h2
        | bk F2 A2 => rw [e2] at q; exact q
        | rt d A2 => rw [e2] at q; exact q
        | exc x F2 A2 => rw [e2] at q; exact q
        | no => rw [e2] at q; exact q
    | exc x A1 => rw [e] at q; exact q.elim
    | no => rw [e] at q; exact q.elim
theorem uT_whl {c : Ex} {b : Sm} {F : Fr} {A : AH} (h : uT (whlL (fun F' A' => tru (ev cl c F' A')) (fun F' A' => sx cl N b F' A') N F A) P) : uT (sx cl N (.whl c b) F A) P := h
end
theorem u_dcL_nil {asg : D → Fr → Option Fr} {g : Guard} {body : Fr → AH → Res (Option (D × D))} {F : Fr} {A : AH} {acc : List (D × D)} {P : List (D × D) → AH → Prop} (hg : gOk A g = true) (h : P acc A) : uR (dcL asg g body F [] acc A) P := by
  unfold dcL
  rw [if_pos hg]
  exact h
theorem u_dcL_cons {asg : D → Fr → Option Fr} {g : Guard} {body : Fr → AH → Res (Option (D × D))} {F F' : Fr} {A : AH} {d : D} {r : List D} {acc : List (D × D)} {P : List (D × D) → AH → Prop} (hg : gOk A g = true) (ha : asg d F = some F')
    (h : uR (body F' A) fun o A' => match o with
      | some (k, v) => acc.length < PySem.sizeLine ∧ keyOk k = true ∧ uR (dcL asg g body F r (dput acc k v) A') P
      | none => uR (dcL asg g body F r acc A') P) : uR (dcL asg g body F (d :: r) acc A) P := by
  unfold dcL
  rw [if_pos hg]
  simp only [ha]
  rw [uR_bnd]
  refine h.mono fun o A' h => ?_
  cases o with
  | some y =>
    obtain ⟨k, v⟩ := y
    obtain ⟨h5, h6, h7⟩ := h
    simp only [h5, h6, decide_true, Bool.and_self, if_true]
    exact h7
  | none => exact h
theorem uS_unl {n : Nat} {r : SR} {Pn Pb Pc : Fr → AH → Prop} {Pr : D → AH → Prop} (h : uS r (fun F A => Pn F (unlockA A (some n))) (fun F A => Pb F (unlockA A (some n))) (fun F A => Pc F (unlockA A (some n))) (fun d A => Pr d (unlockA A (some n)))) : uS (unlS (some n) r) Pn Pb Pc Pr := by
  cases r with
  | nx F A => exact h
  | bk F A => exact h
  | ct F A => exact h
  | rt d A => exact h
  | exc => exact h.elim
  | no => exact h.elim
theorem uR_gl {cl : Cl0} {x : String} {F : Fr} {A : AH} {P : D → AH → Prop} : uR (ev cl (.gl x) F A) P ↔ P (.gl x) A := Iff.rfl
theorem u_lcL_nil {asg : D → Fr → Option Fr} {g : Guard} {body : Fr → AH → Res (Option D)} {F : Fr} {A : AH} {acc : List D} {P : List D → AH → Prop} (hg : gOk A g = true) (h : P acc A) : uR (lcL asg g body F [] acc A) P := by
  unfold lcL
  rw [if_pos hg]
  exact h
theorem u_lcL_cons {asg : D → Fr → Option Fr} {g : Guard} {body : Fr → AH → Res (Option D)} {F F' : Fr} {A : AH} {d : D} {r : List D} {acc : List D} {P : List D → AH → Prop} (hg : gOk A g = true) (ha : asg d F = some F')
    (h : uR (body F' A) fun o A' => match o with
      | some y => acc.length < PySem.sizeLine ∧ uR (lcL asg g body F r (acc ++ [y]) A') P
      | none => uR (lcL asg g body F r acc A') P) : uR (lcL asg g body F (d :: r) acc A) P := by
  unfold lcL
  rw [if_pos hg]
  simp only [ha]
  rw [uR_bnd]
  refine h.mono fun o A' h => ?_
  cases o with
  | some y =>
    simp only [h.1, if_true]
    exact h.2
  | none => exact h
theorem uE_ok {α : Type} {a : α} {A : AH} {P : α → AH → Prop} {X : Xc → AH → Prop} : uE (.ok a A) P X ↔ P a A := Iff.rfl
theorem uE_exc {α : Type} {x : Xc} {A : AH} {P : α → AH → Prop} {X : Xc → AH → Prop} : uE (.exc x A) P X ↔ X x A := Iff.rfl
theorem uE_some {α : Type} {a : α} {A : AH} {P : α → AH → Prop} {X : Xc → AH → Prop} : uE (ofO (some a) A) P X ↔ P a A := Iff.rfl
theorem uT_nx1 {F : Fr} {A : AH} {P : PX} : uT (.nx F A) P ↔ P.nx F A := Iff.rfl
theorem uT_bk1 {F : Fr} {A : AH} {P : PX} : uT (.bk F A) P ↔ P.bk F A := Iff.rfl
theorem uT_ct1 {F : Fr} {A : AH} {P : PX} : uT (.ct F A) P ↔ P.ct F A := Iff.rfl
theorem uT_rt1 {d : D} {A : AH} {P : PX} : uT (.rt d A) P ↔ P.rt d A := Iff.rfl
theorem uT_ex1 {x : Xc} {F : Fr} {A : AH} {P : PX} : uT (.exc x F A) P ↔ P.ex x F A := Iff.rfl
theorem uR_dct {cl : Cl0} {F : Fr} {A : AH} {es : Ex} {P : D → AH → Prop} : uR (ev cl (.dct es) F A) P ↔ uR (evs cl es F A) (fun ds A' => uR (match pairUp ds with
    | some kvs => if kvs.length ≤ 15 then Res.ok (.ref A'.length) (A' ++ [.dct (dmerge [] kvs)]) else .no
    | none => .no) P) := uR_bnd
end Ev

/-! ## EvSl -/
/-! EvSl (by seal.py): what the evaluator reaches, closed. -/
namespace Ev
open PySem
@[irreducible] def wR {α : Type} (r : Res α) (P : α → AH → Prop) : Prop := uR r P
theorem uR_w {α : Type} (r : Res α) (P : α → AH → Prop) : uR r P = wR r P := by unfold wR; rfl
@[irreducible] def wS (r : SR) (Pn : Fr → AH → Prop) (Pb Pc : Fr → AH → Prop) (Pr : D → AH → Prop) : Prop := uS r Pn Pb Pc Pr
theorem uS_w (r : SR) (Pn : Fr → AH → Prop) (Pb Pc : Fr → AH → Prop) (Pr : D → AH → Prop) : uS r Pn Pb Pc Pr = wS r Pn Pb Pc Pr := by unfold wS; rfl
theorem wR.mono {α : Type} {r : Res α} {P Q : α → AH → Prop} (h : wR r P) (k : ∀ a A, P a A → Q a A) : wR r Q := by
  simp only [← uR_w, ← uS_w] at *
  exact uR.mono h k
theorem wR_bnd {α β : Type} {r : Res α} {f : α → AH → Res β} {P : β → AH → Prop} : wR (bnd r f) P ↔ wR r (fun a A => wR (f a A) P) := by
  simp only [← uR_w, ← uS_w] at *
  exact uR_bnd 
theorem wR_ok {α : Type} {a : α} {A : AH} {P : α → AH → Prop} : wR (.ok a A) P ↔ P a A := by
  simp only [← uR_w, ← uS_w] at *
  exact uR_ok 
theorem wR_some {α : Type} {a : α} {A : AH} {P : α → AH → Prop} : wR (ofO (some a) A) P ↔ P a A := by
  simp only [← uR_w, ← uS_w] at *
  exact uR_some 
theorem wS_bns {α : Type} {r : Res α} {F : Fr} {f : α → AH → SR} {Pn Pb Pc : Fr → AH → Prop} {Pr : D → AH → Prop} : wS (bns F r f) Pn Pb Pc Pr ↔ wR r (fun a A => wS (f a A) Pn Pb Pc Pr) := by
  simp only [← uR_w, ← uS_w] at *
  exact uS_bns 
theorem wS_nx {F A Pn Pb Pc Pr} : wS (.nx F A) Pn Pb Pc Pr ↔ Pn F A := by
  simp only [← uR_w, ← uS_w] at *
  exact uS_nx 
theorem wS_bk {F A Pn Pb Pc Pr} : wS (.bk F A) Pn Pb Pc Pr ↔ Pb F A := by
  simp only [← uR_w, ← uS_w] at *
  exact uS_bk 
theorem wS_ct {F A Pn Pb Pc Pr} : wS (.ct F A) Pn Pb Pc Pr ↔ Pc F A := by
  simp only [← uR_w, ← uS_w] at *
  exact uS_ct 
theorem wS_rt {d A Pn Pb Pc Pr} : wS (.rt d A) Pn Pb Pc Pr ↔ Pr d A := by
  simp only [← uR_w, ← uS_w] at *
  exact uS_rt 
section
variable {cl : String → List D → AH → Res D} {N : Nat} {F : Fr} {A : AH} {Pn Pb Pc : Fr → AH → Prop} {Pr : D → AH → Prop}
theorem wS_seq {a b : Sm} : wS (sx cl N (.seq a b) F A) Pn Pb Pc Pr ↔ wS (sx cl N a F A) (fun F A => wS (sx cl N b F A) Pn Pb Pc Pr) Pb Pc Pr := by
  simp only [← uR_w, ← uS_w] at *
  exact uS_seq 
theorem wS_skip : wS (sx cl N .skip F A) Pn Pb Pc Pr ↔ Pn F A := by
  simp only [← uR_w, ← uS_w] at *
  exact uS_skip 
theorem wS_ex {e : Ex} : wS (sx cl N (.ex e) F A) Pn Pb Pc Pr ↔ wR (ev cl e F A) (fun _ A => Pn F A) := by
  simp only [← uR_w, ← uS_w] at *
  exact uS_ex 
theorem wS_set {i : Nat} {e : Ex} : wS (sx cl N (.set i e) F A) Pn Pb Pc Pr ↔ wR (ev cl e F A) (fun d A => Pn (fset F i d) A) := by
  simp only [← uR_w, ← uS_w] at *
  exact uS_set 
theorem wS_ret {e : Ex} : wS (sx cl N (.ret e) F A) Pn Pb Pc Pr ↔ wR (ev cl e F A) (fun d A => Pr d A) := by
  simp only [← uR_w, ← uS_w] at *
  exact uS_ret 
theorem wS_ite {c : Ex} {a b : Sm} : wS (sx cl N (.ite c a b) F A) Pn Pb Pc Pr ↔ wR (tru (ev cl c F A)) (fun r A => if r = true then wS (sx cl N a F A) Pn Pb Pc Pr else wS (sx cl N b F A) Pn Pb Pc Pr) := by
  simp only [← uR_w, ← uS_w] at *
  exact uS_ite 
theorem wS_brk : wS (sx cl N .brk F A) Pn Pb Pc Pr ↔ Pb F A := by
  simp only [← uR_w, ← uS_w] at *
  exact uS_brk 
theorem wS_cont : wS (sx cl N .cont F A) Pn Pb Pc Pr ↔ Pc F A := by
  simp only [← uR_w, ← uS_w] at *
  exact uS_cont 
end
theorem wR_call {P : Pg} {N n : Nat} {f : String} {fd : Fd} {ds : List D} {A : AH} {Q : D → AH → Prop} (h : P f = some fd) (hl : ds.length = fd.np) :
    wR (callF P N (n + 1) f ds A) Q ↔ wS (sx (callF P N n) N fd.body (startF fd ds) A) (fun _ A => Q .non A) (fun _ _ => False) (fun _ _ => False) Q := by
  simp only [← uR_w, ← uS_w] at *
  exact uR_call h hl
end Ev
namespace Ev
theorem lcL_ind {asg : D → Fr → Option Fr} {g : Guard} {body : Fr → AH → Res (Option D)} {F : Fr} {P : List D → AH → Prop} (I : Nat → List D → AH → Prop) :
    ∀ (items : List D) (i : Nat) (acc : List D) (A : AH), I i acc A →
      (∀ j d acc A, items[j]? = some d → I (i + j) acc A → gOk A g = true ∧ ∃ F', asg d F = some F' ∧ wR (body F' A) (fun o A' => match o with
        | some y => acc.length < PySem.sizeLine ∧ I (i + j + 1) (acc ++ [y]) A'
        | none => I (i + j + 1) acc A')) →
      (∀ acc A, I (i + items.length) acc A → gOk A g = true ∧ P acc A) → wR (lcL asg g body F items acc A) P := by
  simp only [← uR_w, ← uS_w] at *
  exact u_lcL_ind I
theorem dcL_ind {asg : D → Fr → Option Fr} {g : Guard} {body : Fr → AH → Res (Option (D × D))} {F : Fr} {P : List (D × D) → AH → Prop} (I : Nat → List (D × D) → AH → Prop) :
    ∀ (items : List D) (i : Nat) (acc : List (D × D)) (A : AH), I i acc A →
      (∀ j d acc A, items[j]? = some d → I (i + j) acc A → gOk A g = true ∧ ∃ F', asg d F = some F' ∧ wR (body F' A) (fun o A' => match o with
        | some (k, v) => acc.length < PySem.sizeLine ∧ keyOk k = true ∧ I (i + j + 1) (dput acc k v) A'
        | none => I (i + j + 1) acc A')) →
      (∀ acc A, I (i + items.length) acc A → gOk A g = true ∧ P acc A) → wR (dcL asg g body F items acc A) P := by
  simp only [← uR_w, ← uS_w] at *
  exact u_dcL_ind I
theorem forL_ind {asg : D → Fr → Option Fr} {g : Guard} {body : Fr → AH → SR} {Pn Pb Pc : Fr → AH → Prop} {Pr : D → AH → Prop} (I : Nat → Fr → AH → Prop) :
    ∀ (items : List D) (i : Nat) (F : Fr) (A : AH), I i F A →
      (∀ j d F A, items[j]? = some d → I (i + j) F A → gOk A g = true ∧ ∃ F', asg d F = some F' ∧ wS (body F' A) (I (i + j + 1)) Pn (I (i + j + 1)) Pr) →
      (∀ F A, I (i + items.length) F A → gOk A g = true ∧ Pn F A) → wS (forL asg g body items F A) Pn Pb Pc Pr := by
  simp only [← uR_w, ← uS_w] at *
  exact u_forL_ind I
end Ev
namespace Ev
section
variable {cl : String → List D → AH → Res D} {N : Nat} {F F' : Fr} {A : AH} {Pn Pb Pc : Fr → AH → Prop} {Pr : D → AH → Prop}
theorem ret_at (k : Nat) {b : Sm} (h1 : sx cl N b F A = sx cl N (drp k b) F' A) (h2 : isIteR (drp k b) = true) (h3 : tru (ev cl (iteC (drp k b)) F' A) = .ok true A) (h : wR (ev cl (iteR (drp k b)) F' A) Pr) : wS (sx cl N b F A) Pn Pb Pc Pr := by
  simp only [← uR_w, ← uS_w] at *
  exact u_ret_at k h1 h2 h3 h
theorem ret_end (k : Nat) {b : Sm} {e : Ex} (h1 : sx cl N b F A = sx cl N (drp k b) F' A) (h2 : drp k b = .seq (.ret e) .skip) (h : wR (ev cl e F' A) Pr) : wS (sx cl N b F A) Pn Pb Pc Pr := by
  simp only [← uR_w, ← uS_w] at *
  exact u_ret_end k h1 h2 h
end
theorem wR_eq {α : Type} {r : Res α} {P : α → AH → Prop} {a : α} {A : AH} (h : r = .ok a A) (p : P a A) : wR r P := by
  simp only [← uR_w, ← uS_w] at *
  exact uR_eq h p
theorem eq_of_wR {α : Type} {r : Res α} {P : α → AH → Prop} (h : wR r P) : ∃ a A, r = .ok a A ∧ P a A := by
  simp only [← uR_w, ← uS_w] at *
  exact u_eq_of_wR h
end Ev
namespace Ev
section
variable {cl : String → List D → AH → Res D} {N : Nat} {F F' : Fr} {A : AH} {Pn Pb Pc : Fr → AH → Prop} {Pr : D → AH → Prop}
theorem ite_at (k : Nat) {b : Sm} (h1 : sx cl N b F A = sx cl N (drp k b) F' A) (h2 : isIte (drp k b) = true) (h3 : tru (ev cl (iteC (drp k b)) F' A) = .ok true A) (h : wS (sx cl N (iteA (drp k b)) F' A) (fun _ _ => False) Pb Pc Pr) : wS (sx cl N b F A) Pn Pb Pc Pr := by
  simp only [← uR_w, ← uS_w] at *
  exact u_ite_at k h1 h2 h3 h
end
end Ev
namespace Ev
theorem wR_nox {α : Type} {r : Res α} {P : α → AH → Prop} : wR (nox r) P ↔ wR r P := by
  simp only [← uR_w, ← uS_w] at *
  exact uR_nox 
section
variable {cl : String → List D → AH → Res D} {F : Fr} {A : AH}
theorem wR_lc {t : Tg} {it c e : Ex} {own : List Nat} {P : D → AH → Prop} : wR (ev cl (.lc t it c e own) F A) P ↔ wR (evw cl it F A) (fun w A1 => wR (unlR w.lock (bnd (lcL (asgT t) w.g (lcB cl c e) (wipeF F own) w.items [] (lockA A1 w.lock)) fun ds A2 => .ok (.ref A2.length) (A2 ++ [.lst ds]))) P) := by
  simp only [← uR_w, ← uS_w] at *
  exact uR_lc 
theorem wR_dc {t : Tg} {it c k v : Ex} {own : List Nat} {P : D → AH → Prop} : wR (ev cl (.dc t it c k v own) F A) P ↔ wR (evw cl it F A) (fun w A1 => wR (unlR w.lock (bnd (dcL (asgT t) w.g (dcB cl c k v) (wipeF F own) w.items [] (lockA A1 w.lock)) fun ds A2 => .ok (.ref A2.length) (A2 ++ [.dct ds]))) P) := by
  simp only [← uR_w, ← uS_w] at *
  exact uR_dc 
theorem wR_lcB {c e : Ex} {P : Option D → AH → Prop} : wR (lcB cl c e F A) P ↔ wR (evc cl c F A) (fun b A2 => if b = true then wR (ev cl e F A2) (fun y A3 => P (some y) A3) else P none A2) := by
  simp only [← uR_w, ← uS_w] at *
  exact uR_lcB 
theorem wR_dcB {c k v : Ex} {P : Option (D × D) → AH → Prop} : wR (dcB cl c k v F A) P ↔ wR (evc cl c F A) (fun b A2 => if b = true then wR (ev cl k F A2) (fun x A3 => wR (ev cl v F A3) fun y A4 => P (some (x, y)) A4) else P none A2) := by
  simp only [← uR_w, ← uS_w] at *
  exact uR_dcB 
theorem wR_evc0 {P : Bool → AH → Prop} : wR (evc cl .nil F A) P ↔ P true A := by
  simp only [← uR_w, ← uS_w] at *
  exact uR_evc0 
theorem wR_wk {e : Ex} {P : Wk → AH → Prop} : wR (evw cl (.wk e) F A) P ↔ wR (ev cl e F A) (fun x A1 => wR (ofO (wkOf A1 x) A1) P) := by
  simp only [← uR_w, ← uS_w] at *
  exact uR_wk 
theorem wR_enm {e : Ex} {P : Wk → AH → Prop} : wR (evw cl (.enm e) F A) P ↔ wR (ev cl e F A) (fun x A1 => wR (ofO (wkEnum A1 x) A1) P) := by
  simp only [← uR_w, ← uS_w] at *
  exact uR_enm 
theorem wR_rng {e : Ex} {P : Wk → AH → Prop} : wR (evw cl (.rng e) F A) P ↔ wR (evs cl e F A) (fun x A1 => wR (ofO (wkRng x) A1) P) := by
  simp only [← uR_w, ← uS_w] at *
  exact uR_rng 
theorem wR_var {i : Nat} {d : D} {P : D → AH → Prop} (h : F[i]? = some (some d)) : wR (ev cl (.var i) F A) P ↔ P d A := by
  simp only [← uR_w, ← uS_w] at *
  exact uR_var h
theorem wR_cl {f : String} {es : Ex} {P : D → AH → Prop} : wR (ev cl (.call f es) F A) P ↔ wR (evs cl es F A) (fun ds A1 => wR (cl f ds A1) P) := by
  simp only [← uR_w, ← uS_w] at *
  exact uR_cl 
theorem wR_bi {f : String} {es : Ex} {P : D → AH → Prop} : wR (ev cl (.bi f es) F A) P ↔ wR (evs cl es F A) (fun ds A1 => wR (biF A1 f ds) P) := by
  simp only [← uR_w, ← uS_w] at *
  exact uR_bi 
theorem wR_op {o : BOp} {a b : Ex} {P : D → AH → Prop} : wR (ev cl (.op o a b) F A) P ↔ wR (ev cl a F A) (fun x A1 => wR (ev cl b F A1) fun y A2 => wR (opB A2 o x y) P) := by
  simp only [← uR_w, ← uS_w] at *
  exact uR_op 
theorem wR_nil {P : List D → AH → Prop} : wR (evs cl .nil F A) P ↔ P [] A := by
  simp only [← uR_w, ← uS_w] at *
  exact uR_nil 
theorem wR_cons {a r : Ex} {P : List D → AH → Prop} : wR (evs cl (.cons a r) F A) P ↔ wR (ev cl a F A) (fun x A1 => wR (evs cl r F A1) fun xs A2 => P (x :: xs) A2) := by
  simp only [← uR_w, ← uS_w] at *
  exact uR_cons 
theorem wR_cmp {o : COp} {a b : Ex} {P : D → AH → Prop} : wR (ev cl (.cmp o a b) F A) P ↔ wR (ev cl a F A) (fun x A1 => wR (ev cl b F A1) fun y A2 => wR (ofO ((opC A2 o x y).map .bl) A2) P) := by
  simp only [← uR_w, ← uS_w] at *
  exact uR_cmp 
theorem wR_ix {a b : Ex} {P : D → AH → Prop} : wR (ev cl (.ix a b) F A) P ↔ wR (ev cl a F A) (fun x A1 => wR (ev cl b F A1) fun y A2 => wR (ofO (opI A2 x y) A2) P) := by
  simp only [← uR_w, ← uS_w] at *
  exact uR_ix 
theorem wR_mth {m : String} {o es : Ex} {P : D → AH → Prop} : wR (ev cl (.mth m o es) F A) P ↔ wR (ev cl o F A) (fun x A1 => wR (ofO (mkM A1 m x) A1) fun k A2 => wR (evs cl es F A2) fun ds A3 => wR (mtF A3 k m x ds) P) := by
  simp only [← uR_w, ← uS_w] at *
  exact uR_mth 
end
theorem lcL_kp {asg : D → Fr → Option Fr} {g : Guard} {body : Fr → AH → Res (Option D)} {F : Fr} {P : List D → AH → Prop} {items : List D} {A0 : AH} (ys : List (Option D)) (hl : ys.length = items.length) (hz : items.length ≤ PySem.sizeLine) (hg : gOk A0 g = true)
    (hs : ∀ (j : Nat) (d : D) (o : Option D) (A : AH), items[j]? = some d → ys[j]? = some o → Kp A0 A → ∃ F', asg d F = some F' ∧ wR (body F' A) (fun o' A' => o' = o ∧ Kp A A')) (hd : ∀ A, Kp A0 A → P (ys.filterMap id) A) : wR (lcL asg g body F items [] A0) P := by
  simp only [← uR_w, ← uS_w] at *
  exact u_lcL_kp ys hl hz hg hs hd
end Ev
namespace Ev
section
variable {cl : String → List D → AH → Res D} {N : Nat} {F : Fr} {A : AH} {Pn Pb Pc : Fr → AH → Prop} {Pr : D → AH → Prop}
theorem wS_for {t : Tg} {it : Ex} {b : Sm} : wS (sx cl N (.for t it b) F A) Pn Pb Pc Pr ↔ wR (evw cl it F A) (fun w A1 => wS (unlS w.lock (forL (asgT t) w.g (fun F' A' => sx cl N b F' A') w.items F (lockA A1 w.lock))) Pn Pb Pc Pr) := by
  simp only [← uR_w, ← uS_w] at *
  exact uS_for 
theorem wS_sub {o i e : Ex} : wS (sx cl N (.sub o i e) F A) Pn Pb Pc Pr ↔ wR (ev cl e F A) (fun v A1 => wR (ev cl o F A1) fun x A2 => wR (ev cl i F A2) fun y A3 => ∃ A4, opSet A3 x y v = some A4 ∧ Pn F A4) := by
  simp only [← uR_w, ← uS_w] at *
  exact uS_sub 
theorem wS_asg {t : Tg} {e : Ex} : wS (sx cl N (.asg t e) F A) Pn Pb Pc Pr ↔ wR (ev cl e F A) (fun d A1 => ∃ F', asgT t d F = some F' ∧ Pn F' A1) := by
  simp only [← uR_w, ← uS_w] at *
  exact uS_asg 
end
theorem wS.mono {r : SR} {Pn Pb Pc Pn' Pb' Pc' : Fr → AH → Prop} {Pr Pr' : D → AH → Prop} (h : wS r Pn Pb Pc Pr) (k1 : ∀ F A, Pn F A → Pn' F A) (k2 : ∀ F A, Pb F A → Pb' F A) (k3 : ∀ F A, Pc F A → Pc' F A) (k4 : ∀ d A, Pr d A → Pr' d A) : wS r Pn' Pb' Pc' Pr' := by
  simp only [← uR_w, ← uS_w] at *
  exact uS.mono h k1 k2 k3 k4
def FL (A : AH) (r : Res D) (xs : List D) : Prop := wR r fun d A' => ∃ a, d = .ref a ∧ Kp A A' ∧ A[a]? = none ∧ A'[a]? = some (.lst xs)
theorem u_FL_w (A : AH) (r : Res D) (xs : List D) : u_FL A r xs = FL A r xs := by unfold u_FL FL; simp only [uR_w, uS_w]
theorem FL.walk {A : AH} {r : Res D} {xs : List D} {P : Wk → AH → Prop} (h : FL A r xs) (k : ∀ a A', Kp A A' → A[a]? = none → A'[a]? = some (.lst xs) → P ⟨xs, [(a, .lst xs)], none⟩ A') : wR r (fun x A1 => wR (ofO (wkOf A1 x) A1) P) := by
  simp only [← uR_w, ← uS_w, ← u_FL_w] at *
  exact u_FL.walk h k
theorem FL.enum {A : AH} {r : Res D} {xs : List D} {P : Wk → AH → Prop} (h : FL A r xs) (k : ∀ a A', Kp A A' → A[a]? = none → A'[a]? = some (.lst xs) → P ⟨enumD 0 xs, [(a, .lst xs)], none⟩ A') : wR r (fun x A1 => wR (ofO (wkEnum A1 x) A1) P) := by
  simp only [← uR_w, ← uS_w, ← u_FL_w] at *
  exact u_FL.enum h k
end Ev
namespace Ev
section
variable {cl : String → List D → AH → Res D} {F : Fr} {A : AH}
theorem wR_int {i : Int} {P : D → AH → Prop} : wR (ev cl (.int i) F A) P ↔ P (.int i) A := by
  simp only [← uR_w, ← uS_w, ← u_FL_w] at *
  exact uR_int 
theorem wR_str {i : String} {P : D → AH → Prop} : wR (ev cl (.str i) F A) P ↔ P (.str i) A := by
  simp only [← uR_w, ← uS_w, ← u_FL_w] at *
  exact uR_str 
theorem wR_lst {es : Ex} {P : D → AH → Prop} : wR (ev cl (.lst es) F A) P ↔ wR (evs cl es F A) (fun ds A1 => wR (if ds.length ≤ PySem.sizeLine then Res.ok (.ref A1.length) (A1 ++ [.lst ds]) else .no) P) := by
  simp only [← uR_w, ← uS_w, ← u_FL_w] at *
  exact uR_lst 
theorem wR_tup {es : Ex} {P : D → AH → Prop} : wR (ev cl (.tup es) F A) P ↔ wR (evs cl es F A) (fun ds A1 => wR (if ds.length ≤ PySem.sizeLine then Res.ok (.tup ds) A1 else .no) P) := by
  simp only [← uR_w, ← uS_w, ← u_FL_w] at *
  exact uR_tup 
end
end Ev
namespace Ev
section
variable {cl : String → List D → AH → Res D} {F : Fr} {A : AH}
theorem wR_tru {r : Res D} {P : Bool → AH → Prop} : wR (tru r) P ↔ wR r (fun d A => wR (ofO (truth A d) A) P) := by
  simp only [← uR_w, ← uS_w, ← u_FL_w] at *
  exact uR_tru 
theorem wR_not {a : Ex} {P : D → AH → Prop} : wR (ev cl (.not a) F A) P ↔ wR (ev cl a F A) (fun x A1 => wR (ofO ((truth A1 x).map fun b => .bl (!b)) A1) P) := by
  simp only [← uR_w, ← uS_w, ← u_FL_w] at *
  exact uR_not 
theorem wR_chn {o p : COp} {a b c : Ex} {P : D → AH → Prop} : wR (ev cl (.chn o p a b c) F A) P ↔ wR (ev cl a F A) (fun x A1 => wR (ev cl b F A1) fun y A2 => wR (ofO (opC A2 o x y) A2) fun r A3 => if r = true then wR (ev cl c F A3) (fun z A4 => wR (ofO ((opC A4 p y z).map .bl) A4) P) else P (.bl false) A3) := by
  simp only [← uR_w, ← uS_w, ← u_FL_w] at *
  exact uR_chn 
theorem wR_and {a b : Ex} {P : D → AH → Prop} : wR (ev cl (.and a b) F A) P ↔ wR (ev cl a F A) (fun x A1 => wR (ofO (truth A1 x) A1) fun r A2 => if r = true then wR (ev cl b F A2) P else P x A2) := by
  simp only [← uR_w, ← uS_w, ← u_FL_w] at *
  exact uR_and 
theorem wR_or {a b : Ex} {P : D → AH → Prop} : wR (ev cl (.or a b) F A) P ↔ wR (ev cl a F A) (fun x A1 => wR (ofO (truth A1 x) A1) fun r A2 => if r = true then P x A2 else wR (ev cl b F A2) P) := by
  simp only [← uR_w, ← uS_w, ← u_FL_w] at *
  exact uR_or 
theorem wR_ite {c a b : Ex} {P : D → AH → Prop} : wR (ev cl (.ite c a b) F A) P ↔ wR (ev cl c F A) (fun x A1 => wR (ofO (truth A1 x) A1) fun r A2 => if r = true then wR (ev cl a F A2) P else wR (ev cl b F A2) P) := by
  simp only [← uR_w, ← uS_w, ← u_FL_w] at *
  exact uR_ite 
theorem wR_sl {a lo hi : Ex} {P : D → AH → Prop} : wR (ev cl (.sl a lo hi) F A) P ↔ wR (ev cl a F A) (fun x A1 => wR (evo cl lo F A1) fun l A2 => wR (evo cl hi F A2) fun h A3 => wR (opS A3 x l h) P) := by
  simp only [← uR_w, ← uS_w, ← u_FL_w] at *
  exact uR_sl 
end
open PySem
end Ev
namespace Ev
open PySem
section
variable {P : Pg} {N n : Nat} {A : AH}
theorem same_items_of (hS : P "_law_same_items" = some fdItems) {x y : D} {xs : List D} (h1 : (∃ a, x = .ref a ∧ A[a]? = some (.lst xs)) ∨ x = .tup xs) (h2 : (∃ a, y = .ref a ∧ A[a]? = some (.lst xs)) ∨ y = .tup xs) (hz : xs.length ≤ PySem.sizeLine)
    (h : ∀ d ∈ xs, ∀ A', Kp A A' → wR (callF P N n "_law_same" [d, d] A') (fun r A2 => r = .bl true ∧ Kp A' A2)) : wR (callF P N (n + 1) "_law_same_items" [x, y] A) (fun r A' => r = .bl true ∧ Kp A A') := by
  simp only [← uR_w, ← uS_w, ← u_FL_w] at *
  exact u_same_items_of hS h1 h2 hz h
theorem same_pl (hI : P "_law_is_integer" = some fdIsInt) (hS : P "_law_same_items" = some fdItems) (hL : P "_law_same" = some fdSame) : ∀ (n : Nat) (d : D) (A : AH), pl d = true → 2 * dp d + 1 < n → wR (callF P N n "_law_same" [d, d] A) (fun r A' => r = .bl true ∧ Kp A A') := by
  simp only [← uR_w, ← uS_w, ← u_FL_w] at *
  exact u_same_pl hI hS hL
theorem same_lst (hI : P "_law_is_integer" = some fdIsInt) (hS : P "_law_same_items" = some fdItems) (hL : P "_law_same" = some fdSame) {a b : Nat} {xs : List D} (ha : A[a]? = some (.lst xs)) (hb : A[b]? = some (.lst xs)) (hz : xs.length ≤ PySem.sizeLine) (hp : pls xs = true) (hn : 2 * dps xs + 1 < n) :
    wR (callF P N (n + 2) "_law_same" [.ref a, .ref b] A) (fun r A' => r = .bl true ∧ Kp A A') := by
  simp only [← uR_w, ← uS_w, ← u_FL_w] at *
  exact u_same_lst hI hS hL ha hb hz hp hn
end
end Ev
namespace Ev
open PySem
section
variable {cl : String → List D → AH → Res D} {F : Fr} {A : AH} {tp c : Nat} {i l s z : Int}
theorem rd_key {key : String} {v : D} {P : D → AH → Prop} (hF : F[0]? = some (some (.ref tp))) (h : A[tp]? = some (.dct (tpD c i l s z))) (hk : dget (tpD c i l s z) (.str key) = some v) (p : P v A) : wR (ev cl (.ix (.var 0) (.str key)) F A) P := by
  simp only [← uR_w, ← uS_w, ← u_FL_w] at *
  exact u_rd_key hF h hk p
end
section
variable {P : Pg} {N n : Nat} {A : AH}
theorem take_spec (hT : P "_law_take" = some fdTake) {tp : Nat} {many : Int} (t : TapeOk A tp) (h0 : 0 < many) (h1 : many < 1073741824) :
    wR (callF P N (n + 1) "_law_take" [.ref tp, .int many] A) (fun r A' => ∃ m : Int, r = .int m ∧ 0 ≤ m ∧ m < many ∧ Dr tp A A') := by
  simp only [← uR_w, ← uS_w, ← u_FL_w] at *
  exact u_take_spec hT t h0 h1
theorem tape_spec (hT : P "_law_tape" = some fdTape) {ns : List Int} (hn : ns.length ≤ 63) : wR (callF P N (n + 1) "_law_tape" [.frl (ns.map .int)] []) (fun r A' => ∃ tp, r = .ref tp ∧ TapeOk A' tp) := by
  simp only [← uR_w, ← uS_w, ← u_FL_w] at *
  exact u_tape_spec hT hn
end
end Ev
namespace Ev
open PySem
@[irreducible] def wE {α : Type} (r : Res α) (P : α → AH → Prop) (X : Xc → AH → Prop) : Prop := uE r P X
theorem uE_w {α : Type} (r : Res α) (P : α → AH → Prop) (X : Xc → AH → Prop) : uE r P X = wE r P X := by unfold wE; rfl
@[irreducible] def wT (r : SR) (P : PX) : Prop := uT r P
theorem uT_w (r : SR) (P : PX) : uT r P = wT r P := by unfold wT; rfl
theorem wE.mono {α : Type} {r : Res α} {P Q : α → AH → Prop} {X Y : Xc → AH → Prop} (h : wE r P X) (k : ∀ a A, P a A → Q a A) (k2 : ∀ x A, X x A → Y x A) : wE r Q Y := by
  simp only [← uR_w, ← uS_w, ← u_FL_w, ← uE_w, ← uT_w] at *
  exact uE.mono h k k2
theorem wE_of {α : Type} {r : Res α} {P : α → AH → Prop} {X : Xc → AH → Prop} (h : wR r P) : wE r P X := by
  simp only [← uR_w, ← uS_w, ← u_FL_w, ← uE_w, ← uT_w] at *
  exact uE_of h
theorem wR_of {α : Type} {r : Res α} {P : α → AH → Prop} (h : wE r P fun _ _ => False) : wR r P := by
  simp only [← uR_w, ← uS_w, ← u_FL_w, ← uE_w, ← uT_w] at *
  exact uR_of h
theorem wE_bnd {α β : Type} {r : Res α} {f : α → AH → Res β} {P : β → AH → Prop} {X : Xc → AH → Prop} : wE (bnd r f) P X ↔ wE r (fun a A => wE (f a A) P X) X := by
  simp only [← uR_w, ← uS_w, ← u_FL_w, ← uE_w, ← uT_w] at *
  exact uE_bnd 
theorem wE_bndR {α β : Type} {r : Res α} {f : α → AH → Res β} {P : β → AH → Prop} {X : Xc → AH → Prop} (h : wR r (fun a A => wE (f a A) P X)) : wE (bnd r f) P X := by
  simp only [← uR_w, ← uS_w, ← u_FL_w, ← uE_w, ← uT_w] at *
  exact uE_bndR h
theorem wT.mono {r : SR} {P Q : PX} (h : wT r P) (k1 : ∀ F A, P.nx F A → Q.nx F A) (k2 : ∀ F A, P.bk F A → Q.bk F A) (k3 : ∀ F A, P.ct F A → Q.ct F A) (k4 : ∀ d A, P.rt d A → Q.rt d A) (k5 : ∀ x F A, P.ex x F A → Q.ex x F A) : wT r Q := by
  simp only [← uR_w, ← uS_w, ← u_FL_w, ← uE_w, ← uT_w] at *
  exact uT.mono h k1 k2 k3 k4 k5
theorem wT_of {r : SR} {P : PX} (h : wS r P.nx P.bk P.ct P.rt) : wT r P := by
  simp only [← uR_w, ← uS_w, ← u_FL_w, ← uE_w, ← uT_w] at *
  exact uT_of h
theorem wS_ofT {r : SR} {Pn Pb Pc : Fr → AH → Prop} {Pr : D → AH → Prop} (h : wT r { nx := Pn, bk := Pb, ct := Pc, rt := Pr }) : wS r Pn Pb Pc Pr := by
  simp only [← uR_w, ← uS_w, ← u_FL_w, ← uE_w, ← uT_w] at *
  exact uS_ofT h
section
variable {cl : String → List D → AH → Res D} {N : Nat} {F : Fr} {A : AH} {P : PX}
theorem wT_bns {α : Type} {r : Res α} {f : α → AH → SR} : wT (bns F r f) P ↔ wE r (fun a A => wT (f a A) P) (fun x A => P.ex x F A) := by
  simp only [← uR_w, ← uS_w, ← u_FL_w, ← uE_w, ← uT_w] at *
  exact uT_bns 
theorem wT_seq {a b : Sm} : wT (sx cl N (.seq a b) F A) P ↔ wT (sx cl N a F A) { P with nx := fun F A => wT (sx cl N b F A) P } := by
  simp only [← uR_w, ← uS_w, ← u_FL_w, ← uE_w, ← uT_w] at *
  exact uT_seq 
theorem wT_skip : wT (sx cl N .skip F A) P ↔ P.nx F A := by
  simp only [← uR_w, ← uS_w, ← u_FL_w, ← uE_w, ← uT_w] at *
  exact uT_skip 
theorem wT_ex {e : Ex} : wT (sx cl N (.ex e) F A) P ↔ wE (ev cl e F A) (fun _ A => P.nx F A) (fun x A => P.ex x F A) := by
  simp only [← uR_w, ← uS_w, ← u_FL_w, ← uE_w, ← uT_w] at *
  exact uT_ex 
theorem wT_set {i : Nat} {e : Ex} : wT (sx cl N (.set i e) F A) P ↔ wE (ev cl e F A) (fun d A => P.nx (fset F i d) A) (fun x A => P.ex x F A) := by
  simp only [← uR_w, ← uS_w, ← u_FL_w, ← uE_w, ← uT_w] at *
  exact uT_set 
theorem wT_ret {e : Ex} : wT (sx cl N (.ret e) F A) P ↔ wE (ev cl e F A) (fun d A => P.rt d A) (fun x A => P.ex x F A) := by
  simp only [← uR_w, ← uS_w, ← u_FL_w, ← uE_w, ← uT_w] at *
  exact uT_ret 
theorem wT_ite {c : Ex} {a b : Sm} : wT (sx cl N (.ite c a b) F A) P ↔ wE (tru (ev cl c F A)) (fun r A => if r = true then wT (sx cl N a F A) P else wT (sx cl N b F A) P) (fun x A => P.ex x F A) := by
  simp only [← uR_w, ← uS_w, ← u_FL_w, ← uE_w, ← uT_w] at *
  exact uT_ite 
theorem wT_if {c : Ex} {a b : Sm} (h : wR (ev cl c F A) (fun d A => wR (ofO (truth A d) A) fun r A => if r = true then wT (sx cl N a F A) P else wT (sx cl N b F A) P)) : wT (sx cl N (.ite c a b) F A) P := by
  simp only [← uR_w, ← uS_w, ← u_FL_w, ← uE_w, ← uT_w] at *
  exact uT_if h
theorem wT_rs0 {c : String} : wT (sx cl N (.rs0 c) F A) P ↔ P.ex ⟨c, []⟩ F A := by
  simp only [← uR_w, ← uS_w, ← u_FL_w, ← uE_w, ← uT_w] at *
  exact uT_rs0 
theorem wT_rs2 {c : String} {es : Ex} (h : wR (evs cl es F A) fun ds A => ∃ a b, ds = [a, b] ∧ P.ex ⟨c, [("code", a), ("path", b)]⟩ F A) : wT (sx cl N (.rs2 c es) F A) P := by
  simp only [← uR_w, ← uS_w, ← u_FL_w, ← uE_w, ← uT_w] at *
  exact uT_rs2 h
theorem wT_tr {b : Sm} {c : String} {cs : List String} {i : Option Nat} {h : Hd} : wT (sx cl N (.tr b c cs i h) F A) P ↔ wT (sx cl N b F A) { P with ex := fun x F A => wT (trR c cs i h (.exc x F A)) P } := by
  simp only [← uR_w, ← uS_w, ← u_FL_w, ← uE_w, ← uT_w] at *
  exact uT_tr 
theorem wT_fst {o e : Ex} {c f : String} (h : wR (ev cl e F A) fun v A1 => wR (ev cl o F A1) fun x A2 => ∃ A3, fstD A2 c f x v = some A3 ∧ P.nx F A3) : wT (sx cl N (.fst o c f e) F A) P := by
  simp only [← uR_w, ← uS_w, ← u_FL_w, ← uE_w, ← uT_w] at *
  exact uT_fst h
theorem wT_fau {o e : Ex} {c f : String} {op : BOp} (h : wR (ev cl o F A) fun x A1 => ∃ u, fldD A1 c f x = some u ∧ wR (ev cl e F A1) fun v A2 => ∃ w, augI op u v = some w ∧ ∃ A3, fstD A2 c f x w = some A3 ∧ P.nx F A3) : wT (sx cl N (.fau o c f op e) F A) P := by
  simp only [← uR_w, ← uS_w, ← u_FL_w, ← uE_w, ← uT_w] at *
  exact uT_fau h
theorem wT_sub {o i e : Ex} (h : wR (ev cl e F A) fun v A1 => wR (ev cl o F A1) fun x A2 => wR (ev cl i F A2) fun y A3 => ∃ A4, opSet A3 x y v = some A4 ∧ P.nx F A4) : wT (sx cl N (.sub o i e) F A) P := by
  simp only [← uR_w, ← uS_w, ← u_FL_w, ← uE_w, ← uT_w] at *
  exact uT_sub h
theorem forT_ind {asg : D → Fr → Option Fr} {g : Guard} {body : Fr → AH → SR} (I : Nat → Fr → AH → Prop) :
    ∀ (items : List D) (i : Nat) (F : Fr) (A : AH), I i F A →
      (∀ j d F A, items[j]? = some d → I (i + j) F A → gOk A g = true ∧ ∃ F', asg d F = some F' ∧ wT (body F' A) { P with nx := I (i + j + 1), bk := P.nx, ct := I (i + j + 1) }) →
      (∀ F A, I (i + items.length) F A → gOk A g = true ∧ P.nx F A) → wT (forL asg g body items F A) P := by
  simp only [← uR_w, ← uS_w, ← u_FL_w, ← uE_w, ← uT_w] at *
  exact u_forT_ind I
theorem wT_for {t : Tg} {it : Ex} {b : Sm} (h : wR (evw cl it F A) fun w A1 => w.lock = none ∧ wT (forL (asgT t) w.g (fun F' A' => sx cl N b F' A') w.items F A1) P) : wT (sx cl N (.for t it b) F A) P := by
  simp only [← uR_w, ← uS_w, ← u_FL_w, ← uE_w, ← uT_w] at *
  exact uT_for h
variable {Q : D → AH → Prop} {X : Xc → AH → Prop}
theorem wE_cl {f : String} {es : Ex} (h : wR (evs cl es F A) fun ds A1 => wE (cl f ds A1) Q X) : wE (ev cl (.call f es) F A) Q X := by
  simp only [← uR_w, ← uS_w, ← u_FL_w, ← uE_w, ← uT_w] at *
  exact uE_cl h
theorem wE_mc {c m f : String} {o es : Ex} (h : wR (ev cl o F A) fun x A1 => isMe A1 c m x = true ∧ wR (evs cl es F A1) fun ds A2 => wE (cl f (x :: ds) A2) Q X) : wE (ev cl (.mc c m f o es) F A) Q X := by
  simp only [← uR_w, ← uS_w, ← u_FL_w, ← uE_w, ← uT_w] at *
  exact uE_mc h
theorem wR_fld {a : Ex} {c f : String} {Q : D → AH → Prop} : wR (ev cl (.fld a c f) F A) Q ↔ wR (ev cl a F A) (fun x A1 => wR (ofO (fldD A1 c f x) A1) Q) := by
  simp only [← uR_w, ← uS_w, ← u_FL_w, ← uE_w, ← uT_w] at *
  exact uR_fld 
theorem wR_mk {c f : String} {es : Ex} {Q : D → AH → Prop} (h : wR (evs cl es F A) fun ds A1 => wR (cl f (.ref A1.length :: ds) (A1 ++ [.ins c []])) fun r A2 => r = .non ∧ Q (.ref A1.length) A2) : wR (ev cl (.mk c f es) F A) Q := by
  simp only [← uR_w, ← uS_w, ← u_FL_w, ← uE_w, ← uT_w] at *
  exact uR_mk h
theorem wR_cst {x : String} {d : D} {Q : D → AH → Prop} : wR (ev cl (.cst x d) F A) Q ↔ Q d A := by
  simp only [← uR_w, ← uS_w, ← u_FL_w, ← uE_w, ← uT_w] at *
  exact uR_cst 
end
theorem wE_call {P : Pg} {N n : Nat} {f : String} {fd : Fd} {ds : List D} {A : AH} {Q : D → AH → Prop} {X : Xc → AH → Prop} (h : P f = some fd) (hl : ds.length = fd.np) :
    wE (callF P N (n + 1) f ds A) Q X ↔ wT (sx (callF P N n) N fd.body (startF fd ds) A) { nx := fun _ A => Q .non A, rt := Q, ex := fun x _ A => X x A } := by
  simp only [← uR_w, ← uS_w, ← u_FL_w, ← uE_w, ← uT_w] at *
  exact uE_call h hl
end Ev
namespace Ev
theorem wS_of_eq {r : SR} {Pn Pb Pc : Fr → AH → Prop} {Pr : D → AH → Prop} {d : D} {A : AH} (h : r = .rt d A) (p : Pr d A) : wS r Pn Pb Pc Pr := by
  simp only [← uR_w, ← uS_w, ← u_FL_w, ← uE_w, ← uT_w] at *
  exact uS_of_eq h p
theorem wT_of_eq {r : SR} {P : PX} {d : D} {A : AH} (h : r = .rt d A) (p : P.rt d A) : wT r P := by
  simp only [← uR_w, ← uS_w, ← u_FL_w, ← uE_w, ← uT_w] at *
  exact uT_of_eq h p
end Ev
namespace Ev
open PySem
section
variable {cl : Cl0} {A : AH} {P : D → AH → Prop} {a b c d e f g h i j : Option D} {z : D} {F : Fr}
theorem wR_v0 : wR (ev cl (.var 0) (some z :: F) A) P ↔ P z A := by
  simp only [← uR_w, ← uS_w, ← u_FL_w, ← uE_w, ← uT_w] at *
  exact uR_v0 
theorem wR_v1 : wR (ev cl (.var 1) (a :: some z :: F) A) P ↔ P z A := by
  simp only [← uR_w, ← uS_w, ← u_FL_w, ← uE_w, ← uT_w] at *
  exact uR_v1 
theorem wR_v2 : wR (ev cl (.var 2) (a :: b :: some z :: F) A) P ↔ P z A := by
  simp only [← uR_w, ← uS_w, ← u_FL_w, ← uE_w, ← uT_w] at *
  exact uR_v2 
theorem wR_v3 : wR (ev cl (.var 3) (a :: b :: c :: some z :: F) A) P ↔ P z A := by
  simp only [← uR_w, ← uS_w, ← u_FL_w, ← uE_w, ← uT_w] at *
  exact uR_v3 
theorem wR_v4 : wR (ev cl (.var 4) (a :: b :: c :: d :: some z :: F) A) P ↔ P z A := by
  simp only [← uR_w, ← uS_w, ← u_FL_w, ← uE_w, ← uT_w] at *
  exact uR_v4 
theorem wR_v5 : wR (ev cl (.var 5) (a :: b :: c :: d :: e :: some z :: F) A) P ↔ P z A := by
  simp only [← uR_w, ← uS_w, ← u_FL_w, ← uE_w, ← uT_w] at *
  exact uR_v5 
theorem wR_v6 : wR (ev cl (.var 6) (a :: b :: c :: d :: e :: f :: some z :: F) A) P ↔ P z A := by
  simp only [← uR_w, ← uS_w, ← u_FL_w, ← uE_w, ← uT_w] at *
  exact uR_v6 
theorem wR_v7 : wR (ev cl (.var 7) (a :: b :: c :: d :: e :: f :: g :: some z :: F) A) P ↔ P z A := by
  simp only [← uR_w, ← uS_w, ← u_FL_w, ← uE_w, ← uT_w] at *
  exact uR_v7 
theorem wR_v8 : wR (ev cl (.var 8) (a :: b :: c :: d :: e :: f :: g :: h :: some z :: F) A) P ↔ P z A := by
  simp only [← uR_w, ← uS_w, ← u_FL_w, ← uE_w, ← uT_w] at *
  exact uR_v8 
theorem wR_non : wR (ev cl .non F A) P ↔ P .non A := by
  simp only [← uR_w, ← uS_w, ← u_FL_w, ← uE_w, ← uT_w] at *
  exact uR_non 
theorem wR_bl {b : Bool} : wR (ev cl (.bl b) F A) P ↔ P (.bl b) A := by
  simp only [← uR_w, ← uS_w, ← u_FL_w, ← uE_w, ← uT_w] at *
  exact uR_bl 
theorem wR_tix {i : Nat} {k : Int} {xs : List D} {x : D} (h : F[i]? = some (some (.tup xs))) (h2 : L2.atI xs k = some x) : wR (ev cl (.ix (.var i) (.int k)) F A) P ↔ P x A := by
  simp only [← uR_w, ← uS_w, ← u_FL_w, ← uE_w, ← uT_w] at *
  exact uR_tix h h2
theorem wR_pcat {i : Nat} {k : Int} {xs : List D} (h : F[i]? = some (some (.tup xs))) (hl : xs.length ≤ 1000) : wR (ev cl (.op .add (.var i) (.tup (.cons (.int k) .nil))) F A) P ↔ P (.tup (xs ++ [.int k])) A := by
  simp only [← uR_w, ← uS_w, ← u_FL_w, ← uE_w, ← uT_w] at *
  exact uR_pcat h hl
end
theorem wR_ifok {α : Type} {c : Prop} [Decidable c] {a : α} {A : AH} {P : α → AH → Prop} (h : c) : wR (if c then Res.ok a A else .no) P ↔ P a A := by
  simp only [← uR_w, ← uS_w, ← u_FL_w, ← uE_w, ← uT_w] at *
  exact uR_ifok h
theorem ite_s {cl : Cl0} {N : Nat} {F : Fr} {A : AH} {Pn Pb Pc : Fr → AH → Prop} {Pr : D → AH → Prop} (k : Nat) {b : Sm} (h1 : sx cl N b F A = sx cl N (drp k b) F A) (h2 : isIte (drp k b) = true) (h3 : tru (ev cl (iteC (drp k b)) F A) = .ok true A)
    (h : wS (sx cl N (iteA (drp k b)) F A) (fun _ _ => False) Pb Pc Pr) : wS (sx cl N b F A) Pn Pb Pc Pr := by
  simp only [← uR_w, ← uS_w, ← u_FL_w, ← uE_w, ← uT_w] at *
  exact u_ite_s k h1 h2 h3 h
section
variable {cl : Cl0} {N : Nat} {F : Fr} {A : AH} {P : PX}
theorem wT_setR {i : Nat} {e : Ex} (h : wR (ev cl e F A) fun d A => P.nx (fset F i d) A) : wT (sx cl N (.set i e) F A) P := by
  simp only [← uR_w, ← uS_w, ← u_FL_w, ← uE_w, ← uT_w] at *
  exact uT_setR h
theorem wT_retR {e : Ex} (h : wR (ev cl e F A) fun d A => P.rt d A) : wT (sx cl N (.ret e) F A) P := by
  simp only [← uR_w, ← uS_w, ← u_FL_w, ← uE_w, ← uT_w] at *
  exact uT_retR h
theorem wT_word {i : Nat} {w z : String} {a b : Sm} (hF : F[i]? = some (some (.str w))) : wT (sx cl N (.ite (.cmp .eq (.var i) (.str z)) a b) F A) P ↔ if w = z then wT (sx cl N a F A) P else wT (sx cl N b F A) P := by
  simp only [← uR_w, ← uS_w, ← u_FL_w, ← uE_w, ← uT_w] at *
  exact uT_word hF
theorem forT_nil {asg : D → Fr → Option Fr} {body : Fr → AH → SR} (h : P.nx F A) : wT (forL asg [] body [] F A) P := by
  simp only [← uR_w, ← uS_w, ← u_FL_w, ← uE_w, ← uT_w] at *
  exact u_forT_nil h
theorem forT_cons {asg : D → Fr → Option Fr} {body : Fr → AH → SR} {d : D} {r : List D} {F' : Fr} (h1 : asg d F = some F') (h : wT (body F' A) { P with nx := fun F A => wT (forL asg [] body r F A) P, bk := P.nx, ct := fun F A => wT (forL asg [] body r F A) P }) : wT (forL asg [] body (d :: r) F A) P := by
  simp only [← uR_w, ← uS_w, ← u_FL_w, ← uE_w, ← uT_w] at *
  exact u_forT_cons h1 h
end
section
variable {cl : Cl0} {N : Nat} {P : PX}
theorem whlT {c : Fr → AH → Res Bool} {body : Fr → AH → SR} (I : Nat → Fr → AH → Prop) (hs : ∀ k F A, I k F A → wR (c F A) (fun r A1 => if r = true then wT (body F A1) { P with nx := fun F2 A2 => ∃ k', k' < k ∧ I k' F2 A2, ct := fun F2 A2 => ∃ k', k' < k ∧ I k' F2 A2, bk := P.nx } else P.nx F A1)) :
    ∀ (N k : Nat) (F : Fr) (A : AH), k < N → I k F A → wT (whlL c body N F A) P := by
  simp only [← uR_w, ← uS_w, ← u_FL_w, ← uE_w, ← uT_w] at *
  exact u_whlT I hs
theorem wT_whl {c : Ex} {b : Sm} {F : Fr} {A : AH} (h : wT (whlL (fun F' A' => tru (ev cl c F' A')) (fun F' A' => sx cl N b F' A') N F A) P) : wT (sx cl N (.whl c b) F A) P := by
  simp only [← uR_w, ← uS_w, ← u_FL_w, ← uE_w, ← uT_w] at *
  exact uT_whl h
end
theorem dcL_nil {asg : D → Fr → Option Fr} {g : Guard} {body : Fr → AH → Res (Option (D × D))} {F : Fr} {A : AH} {acc : List (D × D)} {P : List (D × D) → AH → Prop} (hg : gOk A g = true) (h : P acc A) : wR (dcL asg g body F [] acc A) P := by
  simp only [← uR_w, ← uS_w, ← u_FL_w, ← uE_w, ← uT_w] at *
  exact u_dcL_nil hg h
theorem dcL_cons {asg : D → Fr → Option Fr} {g : Guard} {body : Fr → AH → Res (Option (D × D))} {F F' : Fr} {A : AH} {d : D} {r : List D} {acc : List (D × D)} {P : List (D × D) → AH → Prop} (hg : gOk A g = true) (ha : asg d F = some F')
    (h : wR (body F' A) fun o A' => match o with
      | some (k, v) => acc.length < PySem.sizeLine ∧ keyOk k = true ∧ wR (dcL asg g body F r (dput acc k v) A') P
      | none => wR (dcL asg g body F r acc A') P) : wR (dcL asg g body F (d :: r) acc A) P := by
  simp only [← uR_w, ← uS_w, ← u_FL_w, ← uE_w, ← uT_w] at *
  exact u_dcL_cons hg ha h
theorem wS_unl {n : Nat} {r : SR} {Pn Pb Pc : Fr → AH → Prop} {Pr : D → AH → Prop} (h : wS r (fun F A => Pn F (unlockA A (some n))) (fun F A => Pb F (unlockA A (some n))) (fun F A => Pc F (unlockA A (some n))) (fun d A => Pr d (unlockA A (some n)))) : wS (unlS (some n) r) Pn Pb Pc Pr := by
  simp only [← uR_w, ← uS_w, ← u_FL_w, ← uE_w, ← uT_w] at *
  exact uS_unl h
theorem wR_gl {cl : Cl0} {x : String} {F : Fr} {A : AH} {P : D → AH → Prop} : wR (ev cl (.gl x) F A) P ↔ P (.gl x) A := by
  simp only [← uR_w, ← uS_w, ← u_FL_w, ← uE_w, ← uT_w] at *
  exact uR_gl 
theorem lcL_nil {asg : D → Fr → Option Fr} {g : Guard} {body : Fr → AH → Res (Option D)} {F : Fr} {A : AH} {acc : List D} {P : List D → AH → Prop} (hg : gOk A g = true) (h : P acc A) : wR (lcL asg g body F [] acc A) P := by
  simp only [← uR_w, ← uS_w, ← u_FL_w, ← uE_w, ← uT_w] at *
  exact u_lcL_nil hg h
theorem lcL_cons {asg : D → Fr → Option Fr} {g : Guard} {body : Fr → AH → Res (Option D)} {F F' : Fr} {A : AH} {d : D} {r : List D} {acc : List D} {P : List D → AH → Prop} (hg : gOk A g = true) (ha : asg d F = some F')
    (h : wR (body F' A) fun o A' => match o with
      | some y => acc.length < PySem.sizeLine ∧ wR (lcL asg g body F r (acc ++ [y]) A') P
      | none => wR (lcL asg g body F r acc A') P) : wR (lcL asg g body F (d :: r) acc A) P := by
  simp only [← uR_w, ← uS_w, ← u_FL_w, ← uE_w, ← uT_w] at *
  exact u_lcL_cons hg ha h
theorem wE_ok {α : Type} {a : α} {A : AH} {P : α → AH → Prop} {X : Xc → AH → Prop} : wE (.ok a A) P X ↔ P a A := by
  simp only [← uR_w, ← uS_w, ← u_FL_w, ← uE_w, ← uT_w] at *
  exact uE_ok 
theorem wE_exc {α : Type} {x : Xc} {A : AH} {P : α → AH → Prop} {X : Xc → AH → Prop} : wE (.exc x A) P X ↔ X x A := by
  simp only [← uR_w, ← uS_w, ← u_FL_w, ← uE_w, ← uT_w] at *
  exact uE_exc 
theorem wE_some {α : Type} {a : α} {A : AH} {P : α → AH → Prop} {X : Xc → AH → Prop} : wE (ofO (some a) A) P X ↔ P a A := by
  simp only [← uR_w, ← uS_w, ← u_FL_w, ← uE_w, ← uT_w] at *
  exact uE_some 
theorem wT_nx1 {F : Fr} {A : AH} {P : PX} : wT (.nx F A) P ↔ P.nx F A := by
  simp only [← uR_w, ← uS_w, ← u_FL_w, ← uE_w, ← uT_w] at *
  exact uT_nx1 
theorem wT_bk1 {F : Fr} {A : AH} {P : PX} : wT (.bk F A) P ↔ P.bk F A := by
  simp only [← uR_w, ← uS_w, ← u_FL_w, ← uE_w, ← uT_w] at *
  exact uT_bk1 
theorem wT_ct1 {F : Fr} {A : AH} {P : PX} : wT (.ct F A) P ↔ P.ct F A := by
  simp only [← uR_w, ← uS_w, ← u_FL_w, ← uE_w, ← uT_w] at *
  exact uT_ct1 
theorem wT_rt1 {d : D} {A : AH} {P : PX} : wT (.rt d A) P ↔ P.rt d A := by
  simp only [← uR_w, ← uS_w, ← u_FL_w, ← uE_w, ← uT_w] at *
  exact uT_rt1 
theorem wT_ex1 {x : Xc} {F : Fr} {A : AH} {P : PX} : wT (.exc x F A) P ↔ P.ex x F A := by
  simp only [← uR_w, ← uS_w, ← u_FL_w, ← uE_w, ← uT_w] at *
  exact uT_ex1 
theorem wR_dct {cl : Cl0} {F : Fr} {A : AH} {es : Ex} {P : D → AH → Prop} : wR (ev cl (.dct es) F A) P ↔ wR (evs cl es F A) (fun ds A' => wR (match pairUp ds with
    | some kvs => if kvs.length ≤ 15 then Res.ok (.ref A'.length) (A' ++ [.dct (dmerge [] kvs)]) else .no
    | none => .no) P) := by
  simp only [← uR_w, ← uS_w, ← u_FL_w, ← uE_w, ← uT_w] at *
  exact uR_dct 
end Ev

/-! ## K29Ir -/
namespace K29
open Ev
/-- reckon(sign, left, right) -/
def fn_6 : Fd := ⟨3, 4,
 (.seq (.ite (.cmp .eq (.var 0) (.str "==")) (.seq (.ret (.tup (.cons (.str "bool") (.cons (.cmp .eq (.var 1) (.var 2)) .nil))))
 .skip) .skip)
 (.seq (.ite (.cmp .eq (.var 0) (.str "<")) (.seq (.ret (.tup (.cons (.str "bool") (.cons (.cmp .lt (.var 1) (.var 2)) .nil))))
 .skip) .skip)
 (.seq (.set 3 (.dct (.cons (.str "+") (.cons (.op .add (.var 1) (.var 2)) (.cons (.str "-") (.cons (.op .sub (.var 1) (.var 2)) (.cons (.str "*") (.cons (.op .mul (.var 1) (.var 2)) .nil))))))))
 (.seq (.ret (.tup (.cons (.str "int") (.cons (.op .mod (.ix (.var 3) (.var 0)) (.cst "WHOLE" (.int 4294967296))) .nil))))
 .skip))))⟩
def ns_6 : List PySem.Str := ["sign", "left", "right", "results"]
/-- expression_level(term, levels, path) -/
def fn_8 : Fd := ⟨3, 4,
 (.seq (.ite (.cmp .eq (.ix (.var 0) (.int 0)) (.str "int")) (.seq (.ret (.int 0))
 .skip) .skip)
 (.seq (.ite (.cmp .eq (.ix (.var 0) (.int 0)) (.str "var")) (.seq (.ite (.cmp .nmem (.ix (.var 0) (.int 1)) (.var 1)) (.seq (.rs2 "TypeProblem" (.cons (.str "name") (.cons (.var 2) .nil)))
 .skip) .skip)
 (.seq (.ret (.ix (.var 1) (.ix (.var 0) (.int 1))))
 .skip)) .skip)
 (.seq (.set 3 (.call "expression_level" (.cons (.ix (.var 0) (.int 2)) (.cons (.var 1) (.cons (.op .add (.var 2) (.tup (.cons (.int 0) .nil))) .nil)))))
 (.seq (.ret (.bi "max" (.cons (.var 3) (.cons (.call "expression_level" (.cons (.ix (.var 0) (.int 3)) (.cons (.var 1) (.cons (.op .add (.var 2) (.tup (.cons (.int 1) .nil))) .nil)))) .nil))))
 .skip))))⟩
def ns_8 : List PySem.Str := ["term", "levels", "path", "first"]
/-- check(program, levels, around, path) -/
def fn_9 : Fd := ⟨4, 9,
 (.seq (.set 4 (.ix (.var 0) (.int 0)))
 (.seq (.ite (.cmp .eq (.var 4) (.str "set")) (.seq (.set 5 (.call "expression_level" (.cons (.tup (.cons (.str "var") (.cons (.ix (.var 0) (.int 1)) .nil))) (.cons (.var 1) (.cons (.var 3) .nil)))))
 (.seq (.ite (.cmp .gt (.bi "max" (.cons (.var 2) (.cons (.call "expression_level" (.cons (.ix (.var 0) (.int 2)) (.cons (.var 1) (.cons (.op .add (.var 3) (.tup (.cons (.int 0) .nil))) .nil)))) .nil))) (.var 5)) (.seq (.rs2 "TypeProblem" (.cons (.str "leak") (.cons (.var 3) .nil)))
 .skip) .skip)
 .skip)) (.seq (.ite (.cmp .eq (.var 4) (.str "then")) (.seq (.ex (.call "check" (.cons (.ix (.var 0) (.int 1)) (.cons (.var 1) (.cons (.var 2) (.cons (.op .add (.var 3) (.tup (.cons (.int 0) .nil))) .nil))))))
 (.seq (.ex (.call "check" (.cons (.ix (.var 0) (.int 2)) (.cons (.var 1) (.cons (.var 2) (.cons (.op .add (.var 3) (.tup (.cons (.int 1) .nil))) .nil))))))
 .skip)) (.seq (.ite (.cmp .mem (.var 4) (.tup (.cons (.str "if") (.cons (.str "while") .nil)))) (.seq (.set 6 (.bi "max" (.cons (.var 2) (.cons (.call "expression_level" (.cons (.ix (.var 0) (.int 1)) (.cons (.var 1) (.cons (.op .add (.var 3) (.tup (.cons (.int 0) .nil))) .nil)))) .nil))))
 (.seq (.for (.tu (.cons (.nm 7) (.cons (.nm 8) .nil))) (.enm (.sl (.var 0) (.cons (.int 2) .nil) .nil)) (.seq (.ex (.call "check" (.cons (.var 8) (.cons (.var 1) (.cons (.var 6) (.cons (.op .add (.var 3) (.tup (.cons (.op .add (.int 1) (.var 7)) .nil))) .nil))))))
 .skip))
 .skip)) .skip)
 .skip))
 .skip))
 .skip))⟩
def ns_9 : List PySem.Str := ["program", "levels", "around", "path", "word", "own", "inner", "index", "part"]
/-- keeps_secrets(program, levels) -/
def fn_10 : Fd := ⟨2, 3,
 (.seq (.tr (.seq (.ex (.call "check" (.cons (.var 0) (.cons (.var 1) (.cons (.int 0) (.cons (.tup .nil) .nil))))))
 .skip)
 "TypeProblem" ["TypeProblem", "Tired"] (some 2) (.ret (.fld "path")))
 (.seq (.ret .non)
 .skip))⟩
def ns_10 : List PySem.Str := ["program", "levels", "e"]
/-- least_levels(program, levels) -/
def fn_11 : Fd := ⟨2, 5,
 (.seq (.set 2 (.bi "dict" (.cons (.var 1) .nil)))
 (.seq (.set 3 (.bl true))
 (.seq (.whl (.var 3) (.seq (.set 4 (.bi "dict" (.cons (.var 2) .nil)))
 (.seq (.ex (.call "raise_levels" (.cons (.var 0) (.cons (.var 2) (.cons (.int 0) .nil)))))
 (.seq (.set 3 (.cmp .ne (.var 2) (.var 4)))
 .skip))))
 (.seq (.ret (.var 2))
 .skip))))⟩
def ns_11 : List PySem.Str := ["program", "levels", "found", "changed", "before"]
/-- raise_levels(program, levels, around) -/
def fn_12 : Fd := ⟨3, 7,
 (.seq (.set 3 (.ix (.var 0) (.int 0)))
 (.seq (.ite (.cmp .eq (.var 3) (.str "set")) (.seq (.set 4 (.bi "max" (.cons (.var 2) (.cons (.call "expression_level" (.cons (.ix (.var 0) (.int 2)) (.cons (.var 1) (.cons (.tup .nil) .nil)))) .nil))))
 (.seq (.sub (.var 1) (.ix (.var 0) (.int 1)) (.bi "max" (.cons (.ix (.var 1) (.ix (.var 0) (.int 1))) (.cons (.var 4) .nil))))
 .skip)) (.seq (.ite (.cmp .eq (.var 3) (.str "then")) (.seq (.ex (.call "raise_levels" (.cons (.ix (.var 0) (.int 1)) (.cons (.var 1) (.cons (.var 2) .nil)))))
 (.seq (.ex (.call "raise_levels" (.cons (.ix (.var 0) (.int 2)) (.cons (.var 1) (.cons (.var 2) .nil)))))
 .skip)) (.seq (.ite (.cmp .mem (.var 3) (.tup (.cons (.str "if") (.cons (.str "while") .nil)))) (.seq (.set 5 (.bi "max" (.cons (.var 2) (.cons (.call "expression_level" (.cons (.ix (.var 0) (.int 1)) (.cons (.var 1) (.cons (.tup .nil) .nil)))) .nil))))
 (.seq (.for (.nm 6) (.wk (.sl (.var 0) (.cons (.int 2) .nil) .nil)) (.seq (.ex (.call "raise_levels" (.cons (.var 6) (.cons (.var 1) (.cons (.var 5) .nil)))))
 .skip))
 .skip)) .skip)
 .skip))
 .skip))
 .skip))⟩
def ns_12 : List PySem.Str := ["program", "levels", "around", "word", "need", "inner", "part"]
/-- reckoned(term, values) -/
def fn_13 : Fd := ⟨2, 2,
 (.seq (.ite (.cmp .eq (.ix (.var 0) (.int 0)) (.str "int")) (.seq (.ret (.ix (.var 0) (.int 1)))
 .skip) .skip)
 (.seq (.ite (.cmp .eq (.ix (.var 0) (.int 0)) (.str "var")) (.seq (.ret (.ix (.var 1) (.ix (.var 0) (.int 1))))
 .skip) .skip)
 (.seq (.ret (.bi "int" (.cons (.ix (.call "reckon" (.cons (.ix (.var 0) (.int 1)) (.cons (.call "reckoned" (.cons (.ix (.var 0) (.int 2)) (.cons (.var 1) .nil))) (.cons (.call "reckoned" (.cons (.ix (.var 0) (.int 3)) (.cons (.var 1) .nil))) .nil)))) (.int 1)) .nil)))
 .skip)))⟩
def ns_13 : List PySem.Str := ["term", "values"]
/-- SecretRun.__init__(self, values, fuel) -/
def fn_14_0 : Fd := ⟨3, 3,
 (.seq (.fst (.var 0) "SecretRun" "known" (.bi "dict" (.cons (.var 1) .nil)))
 (.seq (.fst (.var 0) "SecretRun" "fuel" (.var 2))
 .skip))⟩
def ns_14_0 : List PySem.Str := ["self", "values", "fuel"]
/-- SecretRun.go(self, program) -/
def fn_14_1 : Fd := ⟨2, 3,
 (.seq (.ite (.cmp .eq (.fld (.var 0) "SecretRun" "fuel") (.int 0)) (.seq (.rs0 "Tired")
 .skip) .skip)
 (.seq (.fau (.var 0) "SecretRun" "fuel" .sub (.int 1))
 (.seq (.set 2 (.ix (.var 1) (.int 0)))
 (.seq (.ite (.cmp .eq (.var 2) (.str "set")) (.seq (.sub (.fld (.var 0) "SecretRun" "known") (.ix (.var 1) (.int 1)) (.call "reckoned" (.cons (.ix (.var 1) (.int 2)) (.cons (.fld (.var 0) "SecretRun" "known") .nil))))
 .skip) (.seq (.ite (.cmp .eq (.var 2) (.str "then")) (.seq (.ex (.mc "SecretRun" "go" "SecretRun.go" (.var 0) (.cons (.ix (.var 1) (.int 1)) .nil)))
 (.seq (.ex (.mc "SecretRun" "go" "SecretRun.go" (.var 0) (.cons (.ix (.var 1) (.int 2)) .nil)))
 .skip)) (.seq (.ite (.cmp .eq (.var 2) (.str "if")) (.seq (.ex (.mc "SecretRun" "go" "SecretRun.go" (.var 0) (.cons (.ite (.cmp .ne (.call "reckoned" (.cons (.ix (.var 1) (.int 1)) (.cons (.fld (.var 0) "SecretRun" "known") .nil))) (.int 0)) (.ix (.var 1) (.int 2)) (.ix (.var 1) (.int 3))) .nil)))
 .skip) (.seq (.ite (.and (.cmp .eq (.var 2) (.str "while")) (.cmp .ne (.call "reckoned" (.cons (.ix (.var 1) (.int 1)) (.cons (.fld (.var 0) "SecretRun" "known") .nil))) (.int 0))) (.seq (.ex (.mc "SecretRun" "go" "SecretRun.go" (.var 0) (.cons (.ix (.var 1) (.int 2)) .nil)))
 (.seq (.ex (.mc "SecretRun" "go" "SecretRun.go" (.var 0) (.cons (.var 1) .nil)))
 .skip)) .skip)
 .skip))
 .skip))
 .skip))
 .skip))))⟩
def ns_14_1 : List PySem.Str := ["self", "program", "word"]
/-- run_secret(program, values, fuel) -/
def fn_15 : Fd := ⟨3, 4,
 (.seq (.set 3 (.mk "SecretRun" "SecretRun.__init__" (.cons (.var 1) (.cons (.var 2) .nil))))
 (.seq (.tr (.seq (.ex (.mc "SecretRun" "go" "SecretRun.go" (.var 3) (.cons (.var 0) .nil)))
 .skip)
 "Tired" ["TypeProblem", "Tired"] none (.ret .non))
 (.seq (.ret (.fld (.var 3) "SecretRun" "known"))
 .skip)))⟩
def ns_15 : List PySem.Str := ["program", "values", "fuel", "run"]
/-- seen_at(values, levels, level) -/
def fn_16 : Fd := ⟨3, 4,
 (.seq (.ret (.dc (.nm 3) (.wk (.var 0)) (.cons (.cmp .le (.ix (.var 1) (.var 3)) (.var 2)) .nil) (.var 3) (.ix (.var 0) (.var 3)) [3]))
 .skip)⟩
def ns_16 : List PySem.Str := ["values", "levels", "level", "name"]
/-- _law_tape(script) -/
def fn_18 : Fd := ⟨1, 4,
 (.seq (.set 1 (.lc (.nm 3) (.wk (.var 0)) .nil (.bi "abs" (.cons (.bi "int" (.cons (.var 3) .nil)) .nil)) [3]))
 (.seq (.set 2 (.int 7))
 (.seq (.for (.nm 3) (.wk (.var 1)) (.seq (.set 2 (.op .mod (.bi "int" (.cons (.op .add (.op .mul (.var 2) (.int 31)) (.var 3)) .nil)) (.int 2147483647)))
 .skip))
 (.seq (.ret (.dct (.cons (.str "cells") (.cons (.var 1) (.cons (.str "at") (.cons (.int 0) (.cons (.str "left") (.cons (.int 0) (.cons (.str "seed") (.cons (.var 2) (.cons (.str "salt") (.cons (.int 0) .nil))))))))))))
 .skip))))⟩
def ns_18 : List PySem.Str := ["script", "cells", "seed", "cell"]
/-- _law_take(tape, many) -/
def fn_19 : Fd := ⟨2, 4,
 (.seq (.ite (.and (.cmp .eq (.ix (.var 0) (.str "left")) (.int 0)) (.cmp .lt (.ix (.var 0) (.str "at")) (.bi "len" (.cons (.ix (.var 0) (.str "cells")) .nil)))) (.seq (.sub (.var 0) (.str "left") (.ix (.ix (.var 0) (.str "cells")) (.ix (.var 0) (.str "at"))))
 (.seq (.sub (.var 0) (.str "at") (.op .add (.ix (.var 0) (.str "at")) (.int 1)))
 .skip)) .skip)
 (.seq (.ite (.cmp .gt (.ix (.var 0) (.str "left")) (.int 0)) (.seq (.set 2 (.op .mod (.bi "int" (.cons (.ix (.var 0) (.str "left")) .nil)) (.var 1)))
 (.seq (.sub (.var 0) (.str "left") (.op .fdiv (.ix (.var 0) (.str "left")) (.var 1)))
 (.seq (.ret (.var 2))
 .skip))) .skip)
 (.seq (.sub (.var 0) (.str "salt") (.op .add (.ix (.var 0) (.str "salt")) (.int 1)))
 (.seq (.set 3 (.op .mod (.bi "int" (.cons (.op .add (.op .mul (.ix (.var 0) (.str "seed")) (.int 48271)) (.op .mul (.ix (.var 0) (.str "salt")) (.int 69621))) .nil)) (.int 2147483647)))
 (.seq (.set 3 (.op .mod (.bi "int" (.cons (.op .add (.op .add (.op .mul (.var 3) (.var 3)) (.op .mul (.ix (.var 0) (.str "salt")) (.int 40692))) (.int 12345)) .nil)) (.int 2147483399)))
 (.seq (.ret (.op .mod (.bi "int" (.cons (.var 3) .nil)) (.var 1)))
 .skip))))))⟩
def ns_19 : List PySem.Str := ["tape", "many", "drawn", "mixed"]
/-- _law_is_integer(actual) -/
def fn_20 : Fd := ⟨1, 1,
 (.seq (.ret (.and (.bi "isinstance" (.cons (.var 0) (.cons (.gl "int") .nil))) (.not (.bi "isinstance" (.cons (.var 0) (.cons (.gl "bool") .nil))))))
 .skip)⟩
def ns_20 : List PySem.Str := ["actual"]
/-- _law_same_items(actual, expected) -/
def fn_21 : Fd := ⟨2, 3,
 (.seq (.ite (.cmp .ne (.bi "len" (.cons (.var 0) .nil)) (.bi "len" (.cons (.var 1) .nil))) (.seq (.ret (.bl false))
 .skip) .skip)
 (.seq (.for (.nm 2) (.rng (.cons (.bi "len" (.cons (.var 1) .nil)) .nil)) (.seq (.ite (.not (.call "_law_same" (.cons (.ix (.var 0) (.var 2)) (.cons (.ix (.var 1) (.var 2)) .nil)))) (.seq (.ret (.bl false))
 .skip) .skip)
 .skip))
 (.seq (.ret (.bl true))
 .skip)))⟩
def ns_21 : List PySem.Str := ["actual", "expected", "k"]
/-- _law_same(actual, expected) -/
def fn_22 : Fd := ⟨2, 3,
 (.seq (.ite (.cmp .is (.var 1) .non) (.seq (.ret (.cmp .is (.var 0) .non))
 .skip) .skip)
 (.seq (.ite (.bi "isinstance" (.cons (.var 1) (.cons (.gl "bool") .nil))) (.seq (.ret (.and (.bi "isinstance" (.cons (.var 0) (.cons (.gl "bool") .nil))) (.cmp .eq (.var 0) (.var 1))))
 .skip) .skip)
 (.seq (.ite (.bi "isinstance" (.cons (.var 1) (.cons (.gl "int") .nil))) (.seq (.ret (.and (.call "_law_is_integer" (.cons (.var 0) .nil)) (.cmp .eq (.var 0) (.var 1))))
 .skip) .skip)
 (.seq (.ite (.bi "isinstance" (.cons (.var 1) (.cons (.gl "str") .nil))) (.seq (.ret (.and (.bi "isinstance" (.cons (.var 0) (.cons (.gl "str") .nil))) (.cmp .eq (.var 0) (.var 1))))
 .skip) .skip)
 (.seq (.ite (.bi "isinstance" (.cons (.var 1) (.cons (.gl "tuple") .nil))) (.seq (.ret (.and (.bi "isinstance" (.cons (.var 0) (.cons (.gl "tuple") .nil))) (.call "_law_same_items" (.cons (.var 0) (.cons (.var 1) .nil)))))
 .skip) .skip)
 (.seq (.ite (.bi "isinstance" (.cons (.var 1) (.cons (.gl "list") .nil))) (.seq (.ret (.and (.bi "isinstance" (.cons (.var 0) (.cons (.gl "list") .nil))) (.call "_law_same_items" (.cons (.var 0) (.cons (.var 1) .nil)))))
 .skip) .skip)
 (.seq (.ite (.or (.not (.bi "isinstance" (.cons (.var 0) (.cons (.gl "dict") .nil)))) (.cmp .ne (.bi "len" (.cons (.var 0) .nil)) (.bi "len" (.cons (.var 1) .nil)))) (.seq (.ret (.bl false))
 .skip) .skip)
 (.seq (.for (.nm 2) (.wk (.var 1)) (.seq (.ite (.or (.cmp .nmem (.var 2) (.var 0)) (.not (.call "_law_same" (.cons (.ix (.var 0) (.var 2)) (.cons (.ix (.var 1) (.var 2)) .nil))))) (.seq (.ret (.bl false))
 .skip) .skip)
 .skip))
 (.seq (.for (.nm 2) (.wk (.var 0)) (.seq (.ite (.bi "isinstance" (.cons (.var 2) (.cons (.gl "bool") .nil))) (.seq (.ret (.bl false))
 .skip) .skip)
 .skip))
 (.seq (.ret (.bl true))
 .skip))))))))))⟩
def ns_22 : List PySem.Str := ["actual", "expected", "key"]
/-- _law_expression(tape, depth) -/
def fn_23 : Fd := ⟨2, 2,
 (.seq (.ite (.or (.cmp .eq (.var 1) (.int 0)) (.cmp .eq (.call "_law_take" (.cons (.var 0) (.cons (.int 3) .nil))) (.int 0))) (.seq (.ret (.ite (.cmp .eq (.call "_law_take" (.cons (.var 0) (.cons (.int 3) .nil))) (.int 0)) (.tup (.cons (.str "int") (.cons (.call "_law_take" (.cons (.var 0) (.cons (.int 4) .nil))) .nil))) (.tup (.cons (.str "var") (.cons (.ix (.lst (.cons (.str "a") (.cons (.str "b") (.cons (.str "c") (.cons (.str "d") .nil))))) (.call "_law_take" (.cons (.var 0) (.cons (.int 4) .nil)))) .nil)))))
 .skip) .skip)
 (.seq (.ret (.tup (.cons (.str "op") (.cons (.ix (.lst (.cons (.str "+") (.cons (.str "-") (.cons (.str "==") (.cons (.str "<") .nil))))) (.call "_law_take" (.cons (.var 0) (.cons (.int 4) .nil)))) (.cons (.call "_law_expression" (.cons (.var 0) (.cons (.op .sub (.var 1) (.int 1)) .nil))) (.cons (.call "_law_expression" (.cons (.var 0) (.cons (.op .sub (.var 1) (.int 1)) .nil))) .nil))))))
 .skip))⟩
def ns_23 : List PySem.Str := ["tape", "depth"]
/-- _law_program(tape, depth) -/
def fn_24 : Fd := ⟨2, 3,
 (.seq (.ite (.or (.cmp .eq (.var 1) (.int 0)) (.cmp .eq (.call "_law_take" (.cons (.var 0) (.cons (.int 5) .nil))) (.int 0))) (.seq (.ret (.ite (.cmp .gt (.call "_law_take" (.cons (.var 0) (.cons (.int 6) .nil))) (.int 0)) (.tup (.cons (.str "set") (.cons (.ix (.lst (.cons (.str "a") (.cons (.str "b") (.cons (.str "c") (.cons (.str "d") .nil))))) (.call "_law_take" (.cons (.var 0) (.cons (.int 4) .nil)))) (.cons (.call "_law_expression" (.cons (.var 0) (.cons (.int 2) .nil))) .nil)))) (.tup (.cons (.str "skip") .nil))))
 .skip) .skip)
 (.seq (.set 2 (.call "_law_take" (.cons (.var 0) (.cons (.int 5) .nil))))
 (.seq (.ite (.cmp .lt (.var 2) (.int 2)) (.seq (.ret (.tup (.cons (.str "then") (.cons (.call "_law_program" (.cons (.var 0) (.cons (.op .sub (.var 1) (.int 1)) .nil))) (.cons (.call "_law_program" (.cons (.var 0) (.cons (.op .sub (.var 1) (.int 1)) .nil))) .nil)))))
 .skip) .skip)
 (.seq (.ite (.cmp .lt (.var 2) (.int 4)) (.seq (.ret (.tup (.cons (.str "if") (.cons (.call "_law_expression" (.cons (.var 0) (.cons (.int 1) .nil))) (.cons (.call "_law_program" (.cons (.var 0) (.cons (.op .sub (.var 1) (.int 1)) .nil))) (.cons (.call "_law_program" (.cons (.var 0) (.cons (.op .sub (.var 1) (.int 1)) .nil))) .nil))))))
 .skip) .skip)
 (.seq (.ret (.tup (.cons (.str "while") (.cons (.tup (.cons (.str "op") (.cons (.str "<") (.cons (.tup (.cons (.str "var") (.cons (.str "d") .nil))) (.cons (.tup (.cons (.str "int") (.cons (.call "_law_take" (.cons (.var 0) (.cons (.int 4) .nil))) .nil))) .nil))))) (.cons (.tup (.cons (.str "then") (.cons (.call "_law_program" (.cons (.var 0) (.cons (.op .sub (.var 1) (.int 1)) .nil))) (.cons (.tup (.cons (.str "set") (.cons (.str "d") (.cons (.tup (.cons (.str "op") (.cons (.str "+") (.cons (.tup (.cons (.str "var") (.cons (.str "d") .nil))) (.cons (.tup (.cons (.str "int") (.cons (.int 1) .nil))) .nil))))) .nil)))) .nil)))) .nil)))))
 .skip)))))⟩
def ns_24 : List PySem.Str := ["tape", "depth", "pick"]
/-- _law_level(t, levels) -/
def fn_25 : Fd := ⟨2, 2,
 (.seq (.ite (.cmp .eq (.ix (.var 0) (.int 0)) (.str "int")) (.seq (.ret (.int 0))
 .skip) .skip)
 (.seq (.ret (.ite (.cmp .eq (.ix (.var 0) (.int 0)) (.str "var")) (.ix (.var 1) (.ix (.var 0) (.int 1))) (.bi "max" (.cons (.call "_law_level" (.cons (.ix (.var 0) (.int 2)) (.cons (.var 1) .nil))) (.cons (.call "_law_level" (.cons (.ix (.var 0) (.int 3)) (.cons (.var 1) .nil))) .nil)))))
 .skip))⟩
def ns_25 : List PySem.Str := ["t", "levels"]
/-- _law_leak(p, levels, around, path) -/
def fn_26 : Fd := ⟨4, 9,
 (.seq (.set 4 (.ix (.var 0) (.int 0)))
 (.seq (.ite (.cmp .eq (.var 4) (.str "set")) (.seq (.ret (.ite (.cmp .gt (.bi "max" (.cons (.var 2) (.cons (.call "_law_level" (.cons (.ix (.var 0) (.int 2)) (.cons (.var 1) .nil))) .nil))) (.ix (.var 1) (.ix (.var 0) (.int 1)))) (.var 3) .non))
 .skip) .skip)
 (.seq (.set 5 (.mth "get" (.dct (.cons (.str "then") (.cons (.sl (.var 0) (.cons (.int 1) .nil) .nil) (.cons (.str "if") (.cons (.sl (.var 0) (.cons (.int 2) .nil) .nil) (.cons (.str "while") (.cons (.sl (.var 0) (.cons (.int 2) .nil) .nil) .nil))))))) (.cons (.var 4) (.cons (.tup .nil) .nil))))
 (.seq (.set 6 (.ite (.cmp .mem (.var 4) (.tup (.cons (.str "then") (.cons (.str "skip") .nil)))) (.var 2) (.bi "max" (.cons (.var 2) (.cons (.call "_law_level" (.cons (.ix (.var 0) (.int 1)) (.cons (.var 1) .nil))) .nil)))))
 (.seq (.for (.nm 7) (.rng (.cons (.bi "len" (.cons (.var 5) .nil)) .nil)) (.seq (.set 8 (.call "_law_leak" (.cons (.ix (.var 5) (.var 7)) (.cons (.var 1) (.cons (.var 6) (.cons (.op .add (.var 3) (.tup (.cons (.ite (.cmp .eq (.var 4) (.str "then")) (.var 7) (.op .add (.var 7) (.int 1))) .nil))) .nil))))))
 (.seq (.ite (.cmp .isnt (.var 8) .non) (.seq (.ret (.var 8))
 .skip) .skip)
 .skip)))
 (.seq (.ret .non)
 .skip))))))⟩
def ns_26 : List PySem.Str := ["p", "levels", "around", "path", "word", "parts", "inner", "k", "found"]
/-- _law_value(t, values) -/
def fn_27 : Fd := ⟨2, 4,
 (.seq (.ite (.cmp .mem (.ix (.var 0) (.int 0)) (.tup (.cons (.str "int") (.cons (.str "var") .nil)))) (.seq (.ret (.ite (.cmp .eq (.ix (.var 0) (.int 0)) (.str "int")) (.ix (.var 0) (.int 1)) (.ix (.var 1) (.ix (.var 0) (.int 1)))))
 .skip) .skip)
 (.seq (.asg (.tu (.cons (.nm 2) (.cons (.nm 3) .nil))) (.tup (.cons (.call "_law_value" (.cons (.ix (.var 0) (.int 2)) (.cons (.var 1) .nil))) (.cons (.call "_law_value" (.cons (.ix (.var 0) (.int 3)) (.cons (.var 1) .nil))) .nil))))
 (.seq (.ite (.cmp .mem (.ix (.var 0) (.int 1)) (.tup (.cons (.str "==") (.cons (.str "<") .nil)))) (.seq (.ret (.ite (.cmp .eq (.ix (.var 0) (.int 1)) (.str "==")) (.ite (.cmp .eq (.var 2) (.var 3)) (.int 1) (.int 0)) (.ite (.cmp .lt (.var 2) (.var 3)) (.int 1) (.int 0))))
 .skip) .skip)
 (.seq (.ret (.op .mod (.bi "int" (.cons (.ite (.cmp .eq (.ix (.var 0) (.int 1)) (.str "+")) (.op .add (.var 2) (.var 3)) (.op .add (.op .sub (.var 2) (.var 3)) (.int 4294967296))) .nil)) (.int 4294967296)))
 .skip))))⟩
def ns_27 : List PySem.Str := ["t", "values", "a", "b"]
/-- _law_run(p, values, left) -/
def fn_28 : Fd := ⟨3, 5,
 (.seq (.ite (.or (.cmp .eq (.ix (.var 2) (.int 0)) (.int 0)) (.cmp .is (.var 1) .non)) (.seq (.ret .non)
 .skip) .skip)
 (.seq (.sub (.var 2) (.int 0) (.op .sub (.ix (.var 2) (.int 0)) (.int 1)))
 (.seq (.set 3 (.ix (.var 0) (.int 0)))
 (.seq (.ite (.cmp .eq (.var 3) (.str "set")) (.seq (.set 4 (.bi "dict" (.cons (.var 1) .nil)))
 (.seq (.sub (.var 4) (.ix (.var 0) (.int 1)) (.call "_law_value" (.cons (.ix (.var 0) (.int 2)) (.cons (.var 1) .nil))))
 (.seq (.ret (.var 4))
 .skip))) .skip)
 (.seq (.ite (.cmp .eq (.var 3) (.str "then")) (.seq (.ret (.call "_law_run" (.cons (.ix (.var 0) (.int 2)) (.cons (.call "_law_run" (.cons (.ix (.var 0) (.int 1)) (.cons (.var 1) (.cons (.var 2) .nil)))) (.cons (.var 2) .nil)))))
 .skip) .skip)
 (.seq (.ite (.cmp .eq (.var 3) (.str "if")) (.seq (.ret (.call "_law_run" (.cons (.ix (.var 0) (.ite (.cmp .ne (.call "_law_value" (.cons (.ix (.var 0) (.int 1)) (.cons (.var 1) .nil))) (.int 0)) (.int 2) (.int 3))) (.cons (.var 1) (.cons (.var 2) .nil)))))
 .skip) .skip)
 (.seq (.whl (.and (.cmp .eq (.var 3) (.str "while")) (.and (.cmp .isnt (.var 1) .non) (.cmp .ne (.call "_law_value" (.cons (.ix (.var 0) (.int 1)) (.cons (.var 1) .nil))) (.int 0)))) (.seq (.set 1 (.call "_law_run" (.cons (.ix (.var 0) (.int 2)) (.cons (.var 1) (.cons (.var 2) .nil)))))
 (.seq (.sub (.var 2) (.int 0) (.op .sub (.ix (.var 2) (.int 0)) (.int 1)))
 (.seq (.ite (.cmp .lt (.ix (.var 2) (.int 0)) (.int 1)) (.seq (.ret .non)
 .skip) .skip)
 .skip))))
 (.seq (.ret (.var 1))
 .skip))))))))⟩
def ns_28 : List PySem.Str := ["p", "values", "left", "word", "more"]
/-- law(script) -/
def fn_29 : Fd := ⟨1, 18,
 (.seq (.set 1 (.call "_law_tape" (.cons (.var 0) .nil)))
 (.seq (.set 2 (.lst (.cons (.str "a") (.cons (.str "b") (.cons (.str "c") (.cons (.str "d") .nil))))))
 (.seq (.for (.nm 3) (.rng (.cons (.int 5) .nil)) (.seq (.set 4 (.call "_law_program" (.cons (.var 1) (.cons (.int 4) .nil))))
 (.seq (.set 5 (.bi "dict" (.cons (.lc (.nm 12) (.wk (.var 2)) .nil (.tup (.cons (.var 12) (.cons (.call "_law_take" (.cons (.var 1) (.cons (.int 4) .nil))) .nil))) [12]) .nil)))
 (.seq (.set 6 (.call "_law_leak" (.cons (.var 4) (.cons (.var 5) (.cons (.int 0) (.cons (.tup .nil) .nil))))))
 (.seq (.set 7 (.call "keeps_secrets" (.cons (.var 4) (.cons (.var 5) .nil))))
 (.seq (.ite (.or (.cmp .ne (.var 7) (.var 6)) (.cmp .ne (.cmp .is (.var 7) .non) (.cmp .is (.var 6) .non))) (.seq (.ret (.bl false))
 .skip) .skip)
 (.seq (.set 8 (.bi "dict" (.cons (.lc (.nm 12) (.wk (.var 2)) .nil (.tup (.cons (.var 12) (.cons (.call "_law_take" (.cons (.var 1) (.cons (.int 4) .nil))) .nil))) [12]) .nil)))
 (.seq (.set 9 (.call "run_secret" (.cons (.var 4) (.cons (.var 8) (.cons (.int 160) .nil)))))
 (.seq (.set 10 (.call "_law_run" (.cons (.var 4) (.cons (.var 8) (.cons (.lst (.cons (.int 600) .nil)) .nil)))))
 (.seq (.ite (.and (.cmp .isnt (.var 9) .non) (.and (.cmp .isnt (.var 10) .non) (.not (.call "_law_same" (.cons (.var 9) (.cons (.var 10) .nil)))))) (.seq (.ret (.bl false))
 .skip) .skip)
 (.seq (.set 11 (.call "least_levels" (.cons (.var 4) (.cons (.var 5) .nil))))
 (.seq (.ite (.or (.cmp .isnt (.call "_law_leak" (.cons (.var 4) (.cons (.var 11) (.cons (.int 0) (.cons (.tup .nil) .nil))))) .non) (.bi "any" (.cons (.lc (.nm 12) (.wk (.var 2)) .nil (.cmp .lt (.ix (.var 11) (.var 12)) (.ix (.var 5) (.var 12))) [12]) .nil))) (.seq (.ret (.bl false))
 .skip) .skip)
 (.seq (.for (.nm 12) (.wk (.var 2)) (.seq (.set 13 (.bi "dict" (.cons (.var 11) .nil)))
 (.seq (.sub (.var 13) (.var 12) (.op .sub (.ix (.var 11) (.var 12)) (.int 1)))
 (.seq (.ite (.and (.cmp .gt (.ix (.var 11) (.var 12)) (.ix (.var 5) (.var 12))) (.cmp .is (.call "_law_leak" (.cons (.var 4) (.cons (.var 13) (.cons (.int 0) (.cons (.tup .nil) .nil))))) .non)) (.seq (.ret (.bl false))
 .skip) .skip)
 .skip))))
 (.seq (.for (.nm 14) (.rng (.cons (.int 4) .nil)) (.seq (.set 15 (.bi "dict" (.cons (.lc (.nm 12) (.wk (.var 2)) .nil (.tup (.cons (.var 12) (.cons (.ite (.cmp .le (.ix (.var 11) (.var 12)) (.var 14)) (.ix (.var 8) (.var 12)) (.call "_law_take" (.cons (.var 1) (.cons (.int 5) .nil)))) .nil))) [12]) .nil)))
 (.seq (.asg (.tu (.cons (.nm 16) (.cons (.nm 17) .nil))) (.tup (.cons (.call "run_secret" (.cons (.var 4) (.cons (.var 8) (.cons (.int 160) .nil)))) (.cons (.call "run_secret" (.cons (.var 4) (.cons (.var 15) (.cons (.int 160) .nil)))) .nil))))
 (.seq (.ite (.cmp .ne (.call "seen_at" (.cons (.var 8) (.cons (.var 11) (.cons (.var 14) .nil)))) (.call "seen_at" (.cons (.var 15) (.cons (.var 11) (.cons (.var 14) .nil))))) (.seq (.ret (.bl false))
 .skip) .skip)
 (.seq (.ite (.and (.cmp .isnt (.var 16) .non) (.and (.cmp .isnt (.var 17) .non) (.cmp .ne (.call "seen_at" (.cons (.var 16) (.cons (.var 11) (.cons (.var 14) .nil)))) (.call "seen_at" (.cons (.var 17) (.cons (.var 11) (.cons (.var 14) .nil))))))) (.seq (.ret (.bl false))
 .skip) .skip)
 (.seq (.ite (.cmp .ne (.call "seen_at" (.cons (.var 8) (.cons (.var 11) (.cons (.var 14) .nil)))) (.bi "dict" (.cons (.lc (.nm 12) (.wk (.var 2)) (.cons (.cmp .le (.ix (.var 11) (.var 12)) (.var 14)) .nil) (.tup (.cons (.var 12) (.cons (.ix (.var 8) (.var 12)) .nil))) [12]) .nil))) (.seq (.ret (.bl false))
 .skip) .skip)
 .skip))))))
 .skip))))))))))))))
 (.seq (.ret (.and (.cmp .is (.call "run_secret" (.cons (.tup (.cons (.str "while") (.cons (.tup (.cons (.str "int") (.cons (.int 1) .nil))) (.cons (.tup (.cons (.str "skip") .nil)) .nil)))) (.cons (.dct .nil) (.cons (.int 300) .nil)))) .non) (.cmp .is (.call "run_secret" (.cons (.tup (.cons (.str "skip") .nil)) (.cons (.dct (.cons (.str "a") (.cons (.int 1) .nil))) (.cons (.int 0) .nil)))) .non)))
 .skip))))⟩
def ns_29 : List PySem.Str := ["script", "tape", "names", "turn", "p", "levels", "due", "told", "values", "end", "own", "best", "name", "lower", "level", "others", "first", "second"]
def pg : Pg := fun f => match f with
  | "reckon" => some fn_6
  | "expression_level" => some fn_8
  | "check" => some fn_9
  | "keeps_secrets" => some fn_10
  | "least_levels" => some fn_11
  | "raise_levels" => some fn_12
  | "reckoned" => some fn_13
  | "SecretRun.__init__" => some fn_14_0
  | "SecretRun.go" => some fn_14_1
  | "run_secret" => some fn_15
  | "seen_at" => some fn_16
  | "_law_tape" => some fn_18
  | "_law_take" => some fn_19
  | "_law_is_integer" => some fn_20
  | "_law_same_items" => some fn_21
  | "_law_same" => some fn_22
  | "_law_expression" => some fn_23
  | "_law_program" => some fn_24
  | "_law_level" => some fn_25
  | "_law_leak" => some fn_26
  | "_law_value" => some fn_27
  | "_law_run" => some fn_28
  | "law" => some fn_29
  | _ => none
end K29

/-! ## K29A -/
/-! K29A: programs of secrets, in plain Lean. -/
namespace K29
open Ev
inductive Nm where
  | a | b | c | d
  deriving DecidableEq
def Nm.s : Nm → String
  | .a => "a" | .b => "b" | .c => "c" | .d => "d"
inductive Sg where
  | add | sub | eq | lt
  deriving DecidableEq
def Sg.s : Sg → String
  | .add => "+" | .sub => "-" | .eq => "==" | .lt => "<"
inductive Xp where
  | int (i : Int) | var (x : Nm) | op (s : Sg) (a b : Xp)
inductive Pr where
  | skip | set (x : Nm) (e : Xp) | thn (p q : Pr) | iff (e : Xp) (p q : Pr) | whl (e : Xp) (p : Pr)
def eD : Xp → D
  | .int i => .tup [.str "int", .int i]
  | .var x => .tup [.str "var", .str x.s]
  | .op s a b => .tup [.str "op", .str s.s, eD a, eD b]
def pD : Pr → D
  | .skip => .tup [.str "skip"]
  | .set x e => .tup [.str "set", .str x.s, eD e]
  | .thn p q => .tup [.str "then", pD p, pD q]
  | .iff e p q => .tup [.str "if", eD e, pD p, pD q]
  | .whl e p => .tup [.str "while", eD e, pD p]
def eh : Xp → Nat
  | .int _ => 0
  | .var _ => 0
  | .op _ a b => max (eh a) (eh b) + 1
def ph : Pr → Nat
  | .skip => 0
  | .set _ e => eh e + 1
  | .thn p q => max (ph p) (ph q) + 1
  | .iff e p q => max (eh e) (max (ph p) (ph q)) + 1
  | .whl e p => max (eh e) (ph p) + 1
abbrev W32 : Int := 4294967296
def eok : Xp → Prop
  | .int i => 0 ≤ i ∧ i < W32
  | .var _ => True
  | .op _ a b => eok a ∧ eok b
def pok : Pr → Prop
  | .skip => True
  | .set _ e => eok e
  | .thn p q => pok p ∧ pok q
  | .iff e p q => eok e ∧ pok p ∧ pok q
  | .whl e p => eok e ∧ pok p
abbrev En := Nm → Int
def En.put (V : En) (x : Nm) (i : Int) : En := fun y => if y = x then i else V y
def Eok (V : En) : Prop := ∀ x, 0 ≤ V x ∧ V x < W32
def sgV : Sg → Int → Int → Int
  | .add, i, j => (i + j) % W32
  | .sub, i, j => (i - j) % W32
  | .eq, i, j => if i = j then 1 else 0
  | .lt, i, j => if i < j then 1 else 0
def val (V : En) : Xp → Int
  | .int i => i
  | .var x => V x
  | .op s a b => sgV s (val V a) (val V b)
theorem val_ok {V : En} (h : Eok V) : ∀ e, eok e → 0 ≤ val V e ∧ val V e < W32
  | .int i, g => g
  | .var x, _ => h x
  | .op s a b, g => by
    unfold val
    cases s <;> simp only [sgV]
    · exact ⟨Int.emod_nonneg _ (by decide), Int.emod_lt_of_pos _ (by decide)⟩
    · exact ⟨Int.emod_nonneg _ (by decide), Int.emod_lt_of_pos _ (by decide)⟩
    · split <;> decide
    · split <;> decide
theorem Eok.put {V : En} (h : Eok V) {x : Nm} {i : Int} (g : 0 ≤ i ∧ i < W32) : Eok (V.put x i) := fun y => by
  unfold En.put
  split
  · exact g
  · exact h y
/-! ### runs -/
inductive Big : Pr → En → En → Prop
  | skip {V : En} : Big .skip V V
  | set {x : Nm} {e : Xp} {V : En} : Big (.set x e) V (V.put x (val V e))
  | thn {p q : Pr} {V V1 V2 : En} : Big p V V1 → Big q V1 V2 → Big (.thn p q) V V2
  | yes {e : Xp} {p q : Pr} {V V1 : En} : val V e ≠ 0 → Big p V V1 → Big (.iff e p q) V V1
  | no {e : Xp} {p q : Pr} {V V1 : En} : val V e = 0 → Big q V V1 → Big (.iff e p q) V V1
  | fin {e : Xp} {p : Pr} {V : En} : val V e = 0 → Big (.whl e p) V V
  | turn {e : Xp} {p : Pr} {V V1 V2 : En} : val V e ≠ 0 → Big p V V1 → Big (.whl e p) V1 V2 → Big (.whl e p) V V2
theorem Big.ok {p : Pr} {V V' : En} (h : Big p V V') : pok p → Eok V → Eok V' := by
  induction h with
  | skip => exact fun _ h => h
  | set => exact fun g h => h.put (val_ok h _ g)
  | thn _ _ i1 i2 => exact fun g h => i2 g.2 (i1 g.1 h)
  | yes _ _ i => exact fun g h => i g.2.1 h
  | no _ _ i => exact fun g h => i g.2.2 h
  | fin => exact fun _ h => h
  | turn _ _ _ i1 i2 => exact fun g h => i2 g (i1 g.2 h)
theorem Big.det {p : Pr} {V V1 : En} (h : Big p V V1) : ∀ {V2 : En}, Big p V V2 → V1 = V2 := by
  induction h with
  | skip => intro V2 k; cases k; rfl
  | set => intro V2 k; cases k; rfl
  | thn _ _ i1 i2 =>
    intro V2 k
    cases k with
    | thn k1 k2 => have := i1 k1; subst this; exact i2 k2
  | yes c _ i =>
    intro V2 k
    cases k with
    | yes _ k1 => exact i k1
    | no c' _ => exact absurd c' c
  | no c _ i =>
    intro V2 k
    cases k with
    | yes c' _ => exact absurd c c'
    | no _ k1 => exact i k1
  | fin c =>
    intro V2 k
    cases k with
    | fin => rfl
    | turn c' _ _ => exact absurd c c'
  | turn c _ _ i1 i2 =>
    intro V2 k
    cases k with
    | fin c' => exact absurd c' c
    | turn _ k1 k2 => have := i1 k1; subst this; exact i2 k2
/-! ### levels -/
def lvl (L : En) : Xp → Int
  | .int _ => 0
  | .var x => L x
  | .op _ a b => max (lvl L a) (lvl L b)
def leak (L : En) : Pr → Int → List Nat → Option (List Nat)
  | .skip, _, _ => none
  | .set x e, ar, pt => if max ar (lvl L e) > L x then some pt else none
  | .thn p q, ar, pt => match leak L p ar (pt ++ [0]) with
    | some r => some r
    | none => leak L q ar (pt ++ [1])
  | .iff e p q, ar, pt => match leak L p (max ar (lvl L e)) (pt ++ [1]) with
    | some r => some r
    | none => leak L q (max ar (lvl L e)) (pt ++ [2])
  | .whl e p, ar, pt => leak L p (max ar (lvl L e)) (pt ++ [1])
/-- nothing leaks -/
def safe (L : En) : Pr → Int → Prop
  | .skip, _ => True
  | .set x e, ar => max ar (lvl L e) ≤ L x
  | .thn p q, ar => safe L p ar ∧ safe L q ar
  | .iff e p q, ar => safe L p (max ar (lvl L e)) ∧ safe L q (max ar (lvl L e))
  | .whl e p, ar => safe L p (max ar (lvl L e))
theorem leak_safe (L : En) : ∀ (p : Pr) (ar : Int) (pt : List Nat), leak L p ar pt = none ↔ safe L p ar
  | .skip, _, _ => ⟨fun _ => trivial, fun _ => rfl⟩
  | .set x e, ar, pt => by
    unfold leak safe
    by_cases h : max ar (lvl L e) > L x
    · rw [if_pos h]; exact ⟨fun z => (by cases z), fun z => absurd z (by omega)⟩
    · rw [if_neg h]; exact ⟨fun _ => by omega, fun _ => rfl⟩
  | .thn p q, ar, pt => by
    unfold leak safe
    rw [← leak_safe L p ar (pt ++ [0]), ← leak_safe L q ar (pt ++ [1])]
    cases leak L p ar (pt ++ [0]) <;> simp
  | .iff e p q, ar, pt => by
    unfold leak safe
    rw [← leak_safe L p _ (pt ++ [1]), ← leak_safe L q _ (pt ++ [2])]
    cases leak L p (max ar (lvl L e)) (pt ++ [1]) <;> simp
  | .whl e p, ar, pt => by
    unfold leak safe
    exact leak_safe L p _ _
/-! ### noninterference -/
def agree (L : En) (v : Int) (V V' : En) : Prop := ∀ x, L x ≤ v → V x = V' x
theorem agree.trans {L : En} {v : Int} {V V1 V2 : En} (a : agree L v V V1) (b : agree L v V1 V2) : agree L v V V2 := fun x h => (a x h).trans (b x h)
theorem agree.symm {L : En} {v : Int} {V V1 : En} (a : agree L v V V1) : agree L v V1 V := fun x h => (a x h).symm
theorem val_agree {L : En} {v : Int} {V V' : En} (a : agree L v V V') : ∀ e, lvl L e ≤ v → val V e = val V' e
  | .int _, _ => rfl
  | .var x, h => a x h
  | .op s b c, h => by
    unfold lvl at h
    unfold val
    rw [val_agree a b (by omega), val_agree a c (by omega)]
/-- above: nothing low is changed -/
theorem high {L : En} {v : Int} {p : Pr} {V V' : En} (h : Big p V V') : ∀ ar, safe L p ar → v < ar → agree L v V V' := by
  induction h with
  | skip => exact fun _ _ _ _ _ => rfl
  | @set x e V =>
    intro ar s g y hy
    unfold safe at s
    unfold En.put
    split
    · rename_i e; subst e; omega
    · rfl
  | thn _ _ i1 i2 => exact fun ar s g => (i1 ar s.1 g).trans (i2 ar s.2 g)
  | yes _ _ i => exact fun ar s g => i _ s.1 (by omega)
  | no _ _ i => exact fun ar s g => i _ s.2 (by omega)
  | fin => exact fun _ _ _ _ _ => rfl
  | turn _ _ _ i1 i2 => exact fun ar s g => (i1 _ s (by omega)).trans (i2 ar s g)
theorem nonint {L : En} {v : Int} {p : Pr} {V V1 : En} (h : Big p V V1) : ∀ {ar : Int} {U U1 : En}, safe L p ar → agree L v V U → Big p U U1 → agree L v V1 U1 := by
  induction h with
  | skip => intro ar U U1 s a k; cases k; exact a
  | @set x e V =>
    intro ar U U1 s a k
    cases k
    intro y hy
    unfold safe at s
    unfold En.put
    split
    · rename_i e'; subst e'; exact val_agree a e (by omega)
    · exact a y hy
  | thn _ _ i1 i2 =>
    intro ar U U1 s a k
    cases k with
    | thn k1 k2 => exact i2 s.2 (i1 s.1 a k1) k2
  | @yes e p q V V1 c b i =>
    intro ar U U1 s a k
    cases k with
    | yes _ k1 => exact i s.1 a k1
    | no c' k1 =>
      have hl : v < lvl L e := by
        by_cases z : lvl L e ≤ v
        · exact absurd ((val_agree a e z).trans c') c
        · omega
      exact ((high b _ s.1 (by omega)).symm.trans a).trans (high k1 _ s.2 (by omega))
  | @no e p q V V1 c b i =>
    intro ar U U1 s a k
    cases k with
    | no _ k1 => exact i s.2 a k1
    | yes c' k1 =>
      have hl : v < lvl L e := by
        by_cases z : lvl L e ≤ v
        · exact absurd ((val_agree a e z).symm.trans c) c'
        · omega
      exact ((high b _ s.2 (by omega)).symm.trans a).trans (high k1 _ s.1 (by omega))
  | @fin e p V c =>
    intro ar U U1 s a k
    cases k with
    | fin => exact a
    | turn c' k1 k2 =>
      have hl : v < lvl L e := by
        by_cases z : lvl L e ≤ v
        · exact absurd ((val_agree a e z).symm.trans c) c'
        · omega
      exact a.trans (high (Big.turn c' k1 k2) (max ar (lvl L e)) (by unfold safe at s ⊢; rw [Int.max_assoc, Int.max_self]; exact s) (by omega))
  | @turn e p V V1 V2 c b1 b2 i1 i2 =>
    intro ar U U1 s a k
    cases k with
    | turn _ k1 k2 => exact i2 s (i1 s a k1) k2
    | fin c' =>
      have hl : v < lvl L e := by
        by_cases z : lvl L e ≤ v
        · exact absurd ((val_agree a e z).trans c') c
        · omega
      exact (high (Big.turn c b1 b2) (max ar (lvl L e)) (by unfold safe at s ⊢; rw [Int.max_assoc, Int.max_self]; exact s) (by omega)).symm.trans a
/-! ### least levels -/
def rise : Pr → En → Int → En
  | .skip, L, _ => L
  | .set x e, L, ar => L.put x (max (L x) (max ar (lvl L e)))
  | .thn p q, L, ar => rise q (rise p L ar) ar
  | .iff e p q, L, ar => rise q (rise p L (max ar (lvl L e))) (max ar (lvl L e))
  | .whl e p, L, ar => rise p L (max ar (lvl L e))
def le (L M : En) : Prop := ∀ x, L x ≤ M x
theorem le.refl {L : En} : le L L := fun _ => Int.le_refl _
theorem le.trans {L M N : En} (a : le L M) (b : le M N) : le L N := fun x => Int.le_trans (a x) (b x)
theorem le.anti {L M : En} (a : le L M) (b : le M L) : L = M := funext fun x => Int.le_antisymm (a x) (b x)
theorem rise_up : ∀ (p : Pr) (L : En) (ar : Int), le L (rise p L ar)
  | .skip, _, _ => .refl
  | .set x e, L, ar => fun y => by
    unfold rise En.put
    split
    · rename_i h; subst h; omega
    · exact Int.le_refl _
  | .thn p q, L, ar => (rise_up p L ar).trans (rise_up q _ ar)
  | .iff e p q, L, ar => (rise_up p L _).trans (rise_up q _ _)
  | .whl e p, L, ar => rise_up p L _
theorem rise_fix : ∀ (p : Pr) (L : En) (ar : Int), rise p L ar = L → safe L p ar
  | .skip, _, _, _ => trivial
  | .set x e, L, ar, h => by
    have := congrFun h x
    unfold rise En.put at this
    simp only [if_true] at this
    unfold safe
    omega
  | .thn p q, L, ar, h => by
    have h1 := rise_up p L ar
    have h2 := rise_up q (rise p L ar) ar
    have e : rise q (rise p L ar) ar = L := h
    rw [e] at h2
    have e1 : rise p L ar = L := h2.anti h1
    rw [e1] at e
    exact ⟨rise_fix p L ar e1, rise_fix q L ar e⟩
  | .iff x p q, L, ar, h => by
    have h1 := rise_up p L (max ar (lvl L x))
    have h2 := rise_up q (rise p L (max ar (lvl L x))) (max ar (lvl L x))
    have e : rise q (rise p L (max ar (lvl L x))) (max ar (lvl L x)) = L := h
    rw [e] at h2
    have e1 : rise p L (max ar (lvl L x)) = L := h2.anti h1
    rw [e1] at e
    exact ⟨rise_fix p L _ e1, rise_fix q L _ e⟩
  | .whl e p, L, ar, h => rise_fix p L _ h
theorem lvl_mono {L M : En} (h : le L M) : ∀ e, lvl L e ≤ lvl M e
  | .int _ => Int.le_refl _
  | .var x => h x
  | .op _ a b => by
    have := lvl_mono h a
    have := lvl_mono h b
    unfold lvl
    omega
theorem rise_least {M : En} : ∀ (p : Pr) (L : En) (ar ar' : Int), le L M → ar ≤ ar' → safe M p ar' → le (rise p L ar) M
  | .skip, _, _, _, h, _, _ => h
  | .set x e, L, ar, ar', h, ha, s => fun y => by
    have := lvl_mono h e
    have := h x
    unfold safe at s
    unfold rise En.put
    split
    · rename_i z; subst z; omega
    · exact h y
  | .thn p q, L, ar, ar', h, ha, s => rise_least q _ ar ar' (rise_least p L ar ar' h ha s.1) ha s.2
  | .iff e p q, L, ar, ar', h, ha, s => by
    have := lvl_mono h e
    exact rise_least q _ _ _ (rise_least p L _ _ h (by omega) s.1) (by omega) s.2
  | .whl e p, L, ar, ar', h, ha, s => by
    have := lvl_mono h e
    exact rise_least p L _ _ h (by omega) s
def bnd3 (L : En) : Prop := ∀ x, 0 ≤ L x ∧ L x ≤ 3
theorem lvl_3 {L : En} (h : bnd3 L) : ∀ e, 0 ≤ lvl L e ∧ lvl L e ≤ 3
  | .int _ => by unfold lvl; omega
  | .var x => h x
  | .op _ a b => by
    have := lvl_3 h a
    have := lvl_3 h b
    unfold lvl
    omega
theorem rise_3 : ∀ (p : Pr) (L : En) (ar : Int), bnd3 L → 0 ≤ ar → ar ≤ 3 → bnd3 (rise p L ar)
  | .skip, _, _, h, _, _ => h
  | .set x e, L, ar, h, a0, a3 => fun y => by
    have := lvl_3 h e
    have := h x
    unfold rise En.put
    split
    · omega
    · exact h y
  | .thn p q, L, ar, h, a0, a3 => rise_3 q _ ar (rise_3 p L ar h a0 a3) a0 a3
  | .iff e p q, L, ar, h, a0, a3 => by
    have := lvl_3 h e
    exact rise_3 q _ _ (rise_3 p L _ h (by omega) (by omega)) (by omega) (by omega)
  | .whl e p, L, ar, h, a0, a3 => by
    have := lvl_3 h e
    exact rise_3 p L _ h (by omega) (by omega)
def tot (L : En) : Int := L .a + L .b + L .c + L .d
theorem tot_lt {L M : En} (h : le L M) (n : M ≠ L) : tot L < tot M := by
  have h1 := h .a
  have h2 := h .b
  have h3 := h .c
  have h4 := h .d
  unfold tot
  by_cases e : L .a = M .a ∧ L .b = M .b ∧ L .c = M .c ∧ L .d = M .d
  · exact absurd (funext fun x => by cases x <;> simp [e]) n
  · omega
theorem tot_3 {L : En} (h : bnd3 L) : 0 ≤ tot L ∧ tot L ≤ 12 := by
  have h1 := h .a
  have h2 := h .b
  have h3 := h .c
  have h4 := h .d
  unfold tot
  omega
end K29

/-! ## K29B -/
/-! K29B: expressions: levels, values. -/
namespace K29
open Ev
/-! ### dicts of the four names -/
def lvD (V : En) : List (D × D) := [(.str "a", .int (V .a)), (.str "b", .int (V .b)), (.str "c", .int (V .c)), (.str "d", .int (V .d))]
theorem dget_lv (V : En) (x : Nm) : dget (lvD V) (.str x.s) = some (.int (V x)) := by cases x <;> rfl
theorem dput_lv (V : En) (x : Nm) (i : Int) : dput (lvD V) (.str x.s) (.int i) = lvD (V.put x i) := by cases x <;> rfl
theorem lv_len {V : En} : (lvD V).length < PySem.sizeLine := by rw [ev_sz]; show 4 < 16777216; omega
section
variable {A : AH} {a : Nat} {V : En}
theorem ix_lv (h : A[a]? = some (.dct (lvD V))) (x : Nm) : opI A (.ref a) (.str x.s) = some (.int (V x)) := by rw [dct_get h rfl, dget_lv]
theorem set_lv (h : A[a]? = some (.dct (lvD V))) (x : Nm) (i : Int) : opSet A (.ref a) (.str x.s) (.int i) = some (A.set a (.dct (lvD (V.put x i)))) := by rw [dct_set h rfl lv_len, dput_lv]
theorem mem_lv (h : A[a]? = some (.dct (lvD V))) (x : Nm) : opC A .nmem (.str x.s) (.ref a) = some false := by
  show (memD A (.str x.s) (.ref a)).map (!·) = _
  have : dctL A a = some (lvD V) := by simp [dctL, h]
  simp [memD, this, keyOk, dget_lv]
end
theorem max_eq {A : AH} {i j : Int} : biF A "max" [.int i, .int j] = .ok (.int (max i j)) A := by
  show Res.ok (D.int (if j > i then j else i)) A = _
  congr 2
  by_cases h : j > i
  · rw [if_pos h]; omega
  · rw [if_neg h]; omega
section
variable {N : Nat} {A : AH} {lv : Nat} {L : En}
/-- expression_level -/
theorem xl_spec (hL : A[lv]? = some (.dct (lvD L))) : ∀ (e : Xp) (n : Nat) (pt : List D), eh e < n → pt.length + eh e ≤ 1000 → wR (callF pg N n "expression_level" [eD e, .ref lv, .tup pt] A) (fun r A' => r = .int (lvl L e) ∧ A' = A)
  | e, 0, _, h, _ => by omega
  | .int i, n + 1, pt, h, hp => wR_eq (a := .int 0) (A := A) (by kernel_rfl) ⟨rfl, rfl⟩
  | .var x, n + 1, pt, h, hp => by
    rw [wR_call (fd := fn_8) rfl rfl]
    show wS (sx _ N fn_8.body [some (eD (.var x)), some (.ref lv), some (.tup pt), none] A) _ _ _ _
    refine ite_s 1 (by kernel_rfl) rfl (by kernel_rfl) ?_
    show wS (sx _ N (.seq (.ite (.cmp .nmem (.ix (.var 0) (.int 1)) (.var 1)) _ .skip) (.seq (.ret (.ix (.var 1) (.ix (.var 0) (.int 1)))) .skip)) _ A) _ _ _ _
    rw [wS_seq, wS_ite, wR_tru, wR_cmp, wR_tix (x := .str x.s) rfl rfl, wR_v1, mem_lv hL]
    show wR (ofO (some (D.bl false)) A) _
    rw [wR_some, truth_bl, wR_some, if_neg (by decide), wS_skip, wS_seq, wS_ret, wR_ix, wR_v1, wR_tix (x := .str x.s) rfl rfl, ix_lv hL, wR_some]
    exact ⟨rfl, rfl⟩
  | .op s a b, n + 1, pt, h, hp => by
    have h : max (eh a) (eh b) + 1 < n + 1 := h
    have hp : pt.length + (max (eh a) (eh b) + 1) ≤ 1000 := hp
    rw [wR_call (fd := fn_8) rfl rfl]
    show wS (sx _ N fn_8.body [some (eD (.op s a b)), some (.ref lv), some (.tup pt), none] A) _ _ _ _
    have e1 : sx (callF pg N n) N fn_8.body [some (eD (.op s a b)), some (.ref lv), some (.tup pt), none] A = sx (callF pg N n) N (drp 2 fn_8.body) [some (eD (.op s a b)), some (.ref lv), some (.tup pt), none] A := by kernel_rfl
    rw [e1]
    show wS (sx _ N (.seq (.set 3 (.call "expression_level" _)) _) _ A) _ _ _ _
    rw [wS_seq, wS_set, wR_cl, wR_cons, wR_tix (x := eD a) rfl rfl, wR_cons, wR_v1, wR_cons, wR_pcat (xs := pt) rfl (by omega), wR_nil]
    refine (xl_spec hL a n (pt ++ [.int 0]) (by omega) (by rw [List.length_append]; simp; omega)).mono fun r A' ⟨er, eA⟩ => ?_
    subst er; rw [eA]
    show wS (sx _ N (.seq (.ret _) .skip) [some (eD (.op s a b)), some (.ref lv), some (.tup pt), some (.int (lvl L a))] A) _ _ _ _
    rw [wS_seq, wS_ret, wR_bi, wR_cons, wR_v3, wR_cons, wR_cl, wR_cons, wR_tix (x := eD b) rfl rfl, wR_cons, wR_v1, wR_cons, wR_pcat (xs := pt) rfl (by omega), wR_nil]
    refine (xl_spec hL b n (pt ++ [.int 1]) (by omega) (by rw [List.length_append]; simp; omega)).mono fun r A2 ⟨er, eA⟩ => ?_
    subst er; rw [eA]
    rw [wR_nil, max_eq, wR_ok]
    exact ⟨rfl, rfl⟩
/-- _law_level -/
theorem ll_spec (hL : A[lv]? = some (.dct (lvD L))) : ∀ (e : Xp) (n : Nat), eh e < n → wR (callF pg N n "_law_level" [eD e, .ref lv] A) (fun r A' => r = .int (lvl L e) ∧ A' = A)
  | e, 0, h => by omega
  | .int i, n + 1, h => wR_eq (a := .int 0) (A := A) (by kernel_rfl) ⟨rfl, rfl⟩
  | .var x, n + 1, h => by
    rw [wR_call (fd := fn_25) rfl rfl]
    show wS (sx _ N fn_25.body [some (eD (.var x)), some (.ref lv)] A) _ _ _ _
    have e1 : sx (callF pg N n) N fn_25.body [some (eD (.var x)), some (.ref lv)] A = sx (callF pg N n) N (drp 1 fn_25.body) [some (eD (.var x)), some (.ref lv)] A := by kernel_rfl
    rw [e1]
    show wS (sx _ N (.seq (.ret (.ite (.cmp .eq (.ix (.var 0) (.int 0)) (.str "var")) _ _)) .skip) _ A) _ _ _ _
    rw [wS_seq, wS_ret, wR_ite, wR_cmp, wR_tix (x := .str "var") rfl rfl, wR_str, eq_str]
    show wR (ofO (some (D.bl true)) A) _
    rw [wR_some, truth_bl, wR_some, if_pos rfl, wR_ix, wR_v1, wR_tix (x := .str x.s) rfl rfl, ix_lv hL, wR_some]
    exact ⟨rfl, rfl⟩
  | .op s a b, n + 1, h => by
    have h : max (eh a) (eh b) + 1 < n + 1 := h
    rw [wR_call (fd := fn_25) rfl rfl]
    show wS (sx _ N fn_25.body [some (eD (.op s a b)), some (.ref lv)] A) _ _ _ _
    have e1 : sx (callF pg N n) N fn_25.body [some (eD (.op s a b)), some (.ref lv)] A = sx (callF pg N n) N (drp 1 fn_25.body) [some (eD (.op s a b)), some (.ref lv)] A := by kernel_rfl
    rw [e1]
    show wS (sx _ N (.seq (.ret (.ite (.cmp .eq (.ix (.var 0) (.int 0)) (.str "var")) _ (.bi "max" (.cons (.call "_law_level" (.cons (.ix (.var 0) (.int 2)) (.cons (.var 1) .nil))) (.cons (.call "_law_level" (.cons (.ix (.var 0) (.int 3)) (.cons (.var 1) .nil))) .nil))))) .skip) _ A) _ _ _ _
    rw [wS_seq, wS_ret, wR_ite, wR_cmp, wR_tix (x := .str "op") rfl rfl, wR_str, eq_str]
    show wR (ofO (some (D.bl false)) A) _
    rw [wR_some, truth_bl, wR_some, if_neg (by decide), wR_bi, wR_cons, wR_cl, wR_cons, wR_tix (x := eD a) rfl rfl, wR_cons, wR_v1, wR_nil]
    refine (ll_spec hL a n (by omega)).mono fun r A' ⟨er, eA⟩ => ?_
    subst er; rw [eA]
    rw [wR_cons, wR_cl, wR_cons, wR_tix (x := eD b) rfl rfl, wR_cons, wR_v1, wR_nil]
    refine (ll_spec hL b n (by omega)).mono fun r A2 ⟨er, eA⟩ => ?_
    subst er; rw [eA]
    rw [wR_nil, max_eq, wR_ok]
    exact ⟨rfl, rfl⟩
end
/-! ### values -/
section
variable {N : Nat} {A : AH} {va : Nat} {V : En}
theorem opB_mul2 {A : AH} {i j : Int} (h1 : 0 ≤ j) (h2 : j < W32) : opB A .mul (.int i) (.int j) = .ok (.int (i * j)) A := opB_mul (by have : W32 = 4294967296 := rfl; omega)
/-- reckon, for values of 32 bits -/
theorem reckon_spec (s : Sg) {i j : Int} (h1 : 0 ≤ j) (h2 : j < W32) {n : Nat} : wR (callF pg N (n + 1) "reckon" [.str s.s, .int i, .int j] A) (fun r A' => (∃ t z, r = .tup [.str t, z] ∧ (z = .int (sgV s i j) ∨ ∃ b : Bool, z = .bl b ∧ sgV s i j = if b then 1 else 0)) ∧ Kp A A') := by
  rw [wR_call (fd := fn_6) rfl rfl]
  show wS (sx _ N fn_6.body [some (.str s.s), some (.int i), some (.int j), none] A) _ _ _ _
  have arith : ∀ (v : Int), (s = .add ∨ s = .sub) → v % W32 = sgV s i j → dget [(.str "+", .int (i + j)), (.str "-", .int (i - j)), (.str "*", .int (i * j))] (.str s.s) = some (.int v) →
      wS (sx (callF pg N n) N fn_6.body [some (.str s.s), some (.int i), some (.int j), none] A) (fun _ A' => (∃ t z, D.non = .tup [.str t, z] ∧ (z = .int (sgV s i j) ∨ ∃ b : Bool, z = .bl b ∧ sgV s i j = if b then 1 else 0)) ∧ Kp A A') (fun _ _ => False) (fun _ _ => False)
        (fun r A' => (∃ t z, r = .tup [.str t, z] ∧ (z = .int (sgV s i j) ∨ ∃ b : Bool, z = .bl b ∧ sgV s i j = if b then 1 else 0)) ∧ Kp A A') := fun v hs hv hg => by
    have e1 : sx (callF pg N n) N fn_6.body [some (.str s.s), some (.int i), some (.int j), none] A = sx (callF pg N n) N (drp 2 fn_6.body) [some (.str s.s), some (.int i), some (.int j), none] A := by
      rcases hs with rfl | rfl <;> kernel_rfl
    rw [e1]
    show wS (sx _ N (.seq (.set 3 (.dct (.cons (.str "+") (.cons (.op .add (.var 1) (.var 2)) (.cons (.str "-") (.cons (.op .sub (.var 1) (.var 2)) (.cons (.str "*") (.cons (.op .mul (.var 1) (.var 2)) .nil)))))))) _) _ A) _ _ _ _
    rw [wS_seq, wS_set]
    refine wR_bnd.mpr ?_
    rw [wR_cons, wR_str, wR_cons, wR_op, wR_v1, wR_v2, opB_add, wR_ok, wR_cons, wR_str, wR_cons, wR_op, wR_v1, wR_v2]
    show wR (Res.ok (D.int (i - j)) A) _
    rw [wR_ok, wR_cons, wR_str, wR_cons, wR_op, wR_v1, wR_v2, opB_mul2 h1 h2, wR_ok, wR_nil]
    show wR (Res.ok (D.ref A.length) (A ++ [.dct [(.str "+", .int (i + j)), (.str "-", .int (i - j)), (.str "*", .int (i * j))]])) _
    rw [wR_ok]
    show wS (sx _ N (.seq (.ret (.tup (.cons (.str "int") (.cons (.op .mod (.ix (.var 3) (.var 0)) (.cst "WHOLE" (.int 4294967296))) .nil)))) .skip) [some (.str s.s), some (.int i), some (.int j), some (.ref A.length)] (A ++ [.dct [(.str "+", .int (i + j)), (.str "-", .int (i - j)), (.str "*", .int (i * j))]])) _ _ _ _
    rw [wS_seq, wS_ret, wR_tup, wR_cons, wR_str, wR_cons, wR_op, wR_ix, wR_v3, wR_v0, dct_get new_at rfl, hg, wR_some, wR_cst, opB_mod (by decide), wR_ok, wR_nil, wR_ifok (sz1 (by simp))]
    exact ⟨⟨"int", _, rfl, .inl (by rw [hv])⟩, Kp.refl.app⟩
  cases s with
  | add => exact arith (i + j) (.inl rfl) rfl rfl
  | sub => exact arith (i - j) (.inr rfl) rfl rfl
  | eq =>
    refine ite_s 0 rfl rfl (by kernel_rfl) ?_
    show wS (sx _ N (.seq (.ret (.tup (.cons (.str "bool") (.cons (.cmp .eq (.var 1) (.var 2)) .nil)))) .skip) _ A) _ _ _ _
    rw [wS_seq, wS_ret, wR_tup, wR_cons, wR_str, wR_cons, wR_cmp, wR_v1, wR_v2, eq_int]
    show wR (ofO (some (D.bl (decide (i = j)))) A) _
    rw [wR_some, wR_nil, wR_ifok (sz1 (by simp))]
    exact ⟨⟨"bool", _, rfl, .inr ⟨_, rfl, by simp [sgV]⟩⟩, .refl⟩
  | lt =>
    refine ite_s 1 (by kernel_rfl) rfl (by kernel_rfl) ?_
    show wS (sx _ N (.seq (.ret (.tup (.cons (.str "bool") (.cons (.cmp .lt (.var 1) (.var 2)) .nil)))) .skip) _ A) _ _ _ _
    rw [wS_seq, wS_ret, wR_tup, wR_cons, wR_str, wR_cons, wR_cmp, wR_v1, wR_v2, lt_int]
    show wR (ofO (some (D.bl (decide (i < j)))) A) _
    rw [wR_some, wR_nil, wR_ifok (sz1 (by simp))]
    exact ⟨⟨"bool", _, rfl, .inr ⟨_, rfl, by simp [sgV]⟩⟩, .refl⟩
/-- reckoned -/
theorem rk_spec (hV : Eok V) : ∀ (e : Xp) (n : Nat) (A : AH), eh e + 1 < n → eok e → A[va]? = some (.dct (lvD V)) → wR (callF pg N n "reckoned" [eD e, .ref va] A) (fun r A' => r = .int (val V e) ∧ Kp A A')
  | e, 0, _, h, _, _ => by omega
  | .int i, n + 1, A, h, _, hA => wR_eq (a := .int i) (A := A) (by kernel_rfl) ⟨rfl, .refl⟩
  | .var x, n + 1, A, h, _, hA => by
    rw [wR_call (fd := fn_13) rfl rfl]
    show wS (sx _ N fn_13.body [some (eD (.var x)), some (.ref va)] A) _ _ _ _
    refine ite_s 1 (by kernel_rfl) rfl (by kernel_rfl) ?_
    show wS (sx _ N (.seq (.ret (.ix (.var 1) (.ix (.var 0) (.int 1)))) .skip) _ A) _ _ _ _
    rw [wS_seq, wS_ret, wR_ix, wR_v1, wR_tix (x := .str x.s) rfl rfl, ix_lv hA, wR_some]
    exact ⟨rfl, .refl⟩
  | .op s a b, n + 1, A, h, ho, hA => by
    have h : max (eh a) (eh b) + 1 + 1 < n + 1 := h
    have ho : eok a ∧ eok b := ho
    rw [wR_call (fd := fn_13) rfl rfl]
    show wS (sx _ N fn_13.body [some (eD (.op s a b)), some (.ref va)] A) _ _ _ _
    have e1 : sx (callF pg N n) N fn_13.body [some (eD (.op s a b)), some (.ref va)] A = sx (callF pg N n) N (drp 2 fn_13.body) [some (eD (.op s a b)), some (.ref va)] A := by kernel_rfl
    rw [e1]
    show wS (sx _ N (.seq (.ret (.bi "int" (.cons (.ix (.call "reckon" _) (.int 1)) .nil))) .skip) _ A) _ _ _ _
    rw [wS_seq, wS_ret, wR_bi, wR_cons, wR_ix, wR_cl, wR_cons, wR_tix (x := .str s.s) rfl rfl, wR_cons, wR_cl, wR_cons, wR_tix (x := eD a) rfl rfl, wR_cons, wR_v1, wR_nil]
    refine (rk_spec hV a n A (by omega) ho.1 hA).mono fun r A1 ⟨er, k1⟩ => ?_
    subst er
    rw [wR_cons, wR_cl, wR_cons, wR_tix (x := eD b) rfl rfl, wR_cons, wR_v1, wR_nil]
    refine (rk_spec hV b n A1 (by omega) ho.2 (k1 _ _ hA)).mono fun r A2 ⟨er, k2⟩ => ?_
    subst er
    rw [wR_nil]
    have hb := val_ok hV b ho.2
    obtain ⟨m, rfl⟩ : ∃ m, n = m + 1 := ⟨n - 1, by omega⟩
    refine (reckon_spec s hb.1 hb.2).mono fun r A3 ⟨⟨t, z, er, hz⟩, k3⟩ => ?_
    subst er
    rw [wR_int]
    show wR (ofO (some z) A3) _
    rw [wR_some, wR_nil]
    rcases hz with rfl | ⟨q, rfl, hq⟩
    · rw [int_id, wR_ok]
      exact ⟨rfl, (k1.trans k2).trans k3⟩
    · show wR (Res.ok (D.int (if q then 1 else 0)) A3) _
      rw [← hq, wR_ok]
      exact ⟨rfl, (k1.trans k2).trans k3⟩
/-- _law_value -/
theorem lval_spec : ∀ (e : Xp) (n : Nat), eh e < n → A[va]? = some (.dct (lvD V)) → wR (callF pg N n "_law_value" [eD e, .ref va] A) (fun r A' => r = .int (val V e) ∧ A' = A)
  | e, 0, h, _ => by omega
  | .int i, n + 1, h, hA => wR_eq (a := .int i) (A := A) (by kernel_rfl) ⟨rfl, rfl⟩
  | .var x, n + 1, h, hA => by
    rw [wR_call (fd := fn_27) rfl rfl]
    show wS (sx _ N fn_27.body [some (eD (.var x)), some (.ref va), none, none] A) _ _ _ _
    refine ite_s 0 rfl rfl (by kernel_rfl) ?_
    show wS (sx _ N (.seq (.ret (.ite (.cmp .eq (.ix (.var 0) (.int 0)) (.str "int")) _ (.ix (.var 1) (.ix (.var 0) (.int 1))))) .skip) _ A) _ _ _ _
    rw [wS_seq, wS_ret, wR_ite, wR_cmp, wR_tix (x := .str "var") rfl rfl, wR_str, eq_str]
    show wR (ofO (some (D.bl false)) A) _
    rw [wR_some, truth_bl, wR_some, if_neg (by decide), wR_ix, wR_v1, wR_tix (x := .str x.s) rfl rfl, ix_lv hA, wR_some]
    exact ⟨rfl, rfl⟩
  | .op s a b, n + 1, h, hA => by
    have h : max (eh a) (eh b) + 1 < n + 1 := h
    rw [wR_call (fd := fn_27) rfl rfl]
    show wS (sx _ N fn_27.body [some (eD (.op s a b)), some (.ref va), none, none] A) _ _ _ _
    have e1 : sx (callF pg N n) N fn_27.body [some (eD (.op s a b)), some (.ref va), none, none] A = sx (callF pg N n) N (drp 1 fn_27.body) [some (eD (.op s a b)), some (.ref va), none, none] A := by kernel_rfl
    rw [e1]
    show wS (sx _ N (.seq (.asg (.tu (.cons (.nm 2) (.cons (.nm 3) .nil))) (.tup _)) _) _ A) _ _ _ _
    rw [wS_seq, wS_asg, wR_tup, wR_cons, wR_cl, wR_cons, wR_tix (x := eD a) rfl rfl, wR_cons, wR_v1, wR_nil]
    refine (lval_spec a n (by omega) hA).mono fun r A' ⟨er, eA⟩ => ?_
    subst er; rw [eA]
    rw [wR_cons, wR_cl, wR_cons, wR_tix (x := eD b) rfl rfl, wR_cons, wR_v1, wR_nil]
    refine (lval_spec b n (by omega) hA).mono fun r A2 ⟨er, eA⟩ => ?_
    subst er; rw [eA]
    rw [wR_nil, wR_ifok (sz1 (by simp))]
    refine ⟨_, rfl, ?_⟩
    show wS (sx _ N (drp 2 fn_27.body) [some (eD (.op s a b)), some (.ref va), some (.int (val V a)), some (.int (val V b))] A) _ _ _ _
    generalize ha : val V a = i
    generalize hb : val V b = j
    have hv : val V (.op s a b) = sgV s i j := by rw [← ha, ← hb]; rfl
    rw [hv]
    cases s with
    | add => exact wS_of_eq (by kernel_rfl) ⟨rfl, rfl⟩
    | sub =>
      have hm : (i - j + 4294967296) % 4294967296 = sgV .sub i j := by show _ = (i - j) % 4294967296; omega
      rw [← hm]
      exact wS_of_eq (by kernel_rfl) ⟨rfl, rfl⟩
    | eq =>
      refine ite_s 0 rfl rfl (by kernel_rfl) ?_
      show wS (sx _ N (.seq (.ret (.ite (.cmp .eq (.ix (.var 0) (.int 1)) (.str "==")) (.ite (.cmp .eq (.var 2) (.var 3)) (.int 1) (.int 0)) _)) .skip) _ A) _ _ _ _
      rw [wS_seq, wS_ret, wR_ite, wR_cmp, wR_tix (x := .str "==") rfl rfl, wR_str, eq_str]
      show wR (ofO (some (D.bl true)) A) _
      rw [wR_some, truth_bl, wR_some, if_pos rfl, wR_ite, wR_cmp, wR_v2, wR_v3, eq_int]
      show wR (ofO (some (D.bl (decide (i = j)))) A) _
      rw [wR_some, truth_bl, wR_some]
      by_cases hij : i = j
      · rw [if_pos (decide_eq_true hij), wR_int]
        exact ⟨by simp [sgV, hij], rfl⟩
      · rw [if_neg (by simp [hij]), wR_int]
        exact ⟨by simp [sgV, hij], rfl⟩
    | lt =>
      refine ite_s 0 rfl rfl (by kernel_rfl) ?_
      show wS (sx _ N (.seq (.ret (.ite (.cmp .eq (.ix (.var 0) (.int 1)) (.str "==")) _ (.ite (.cmp .lt (.var 2) (.var 3)) (.int 1) (.int 0)))) .skip) _ A) _ _ _ _
      rw [wS_seq, wS_ret, wR_ite, wR_cmp, wR_tix (x := .str "<") rfl rfl, wR_str, eq_str]
      show wR (ofO (some (D.bl false)) A) _
      rw [wR_some, truth_bl, wR_some, if_neg (by decide), wR_ite, wR_cmp, wR_v2, wR_v3, lt_int]
      show wR (ofO (some (D.bl (decide (i < j)))) A) _
      rw [wR_some, truth_bl, wR_some]
      by_cases hij : i < j
      · rw [if_pos (decide_eq_true hij), wR_int]
        exact ⟨by simp [sgV, hij], rfl⟩
      · rw [if_neg (by simp [hij]), wR_int]
        exact ⟨by simp [sgV, hij], rfl⟩
end
end K29

/-! ## K29C -/
/-! K29C: leaks. -/
namespace K29
open Ev
def ptD (pt : List Nat) : List D := pt.map fun (i : Nat) => D.int (i : Int)
theorem ptD_app (pt : List Nat) (i : Nat) : ptD (pt ++ [i]) = ptD pt ++ [.int (i : Int)] := by simp [ptD]
theorem ptD_len (pt : List Nat) : (ptD pt).length = pt.length := by simp [ptD]
abbrev LX (q : List Nat) : Xc := ⟨"TypeProblem", [("code", .str "leak"), ("path", .tup (ptD q))]⟩
section
variable {N : Nat} {A : AH} {lv : Nat} {L : En}
theorem gt_ok {A : AH} {i j : Int} : (opC A .gt (.int i) (.int j)).map D.bl = some (D.bl (decide (j < i))) := rfl
/-- a part is checked: path + (k,) -/
theorem check_spec (hL : A[lv]? = some (.dct (lvD L))) : ∀ (p : Pr) (n : Nat) (ar : Int) (pt : List Nat), ph p < n → pt.length + ph p ≤ 900 →
    wE (callF pg N n "check" [pD p, .ref lv, .int ar, .tup (ptD pt)] A) (fun _ A' => A' = A ∧ leak L p ar pt = none) (fun x A' => A' = A ∧ ∃ q, leak L p ar pt = some q ∧ x = LX q)
  | p, 0, _, _, h, _ => by omega
  | .skip, n + 1, ar, pt, _, _ => by
    have e : callF pg N (n + 1) "check" [pD .skip, .ref lv, .int ar, .tup (ptD pt)] A = .ok .non A := by kernel_rfl
    rw [e, wE_ok]
    exact ⟨rfl, rfl⟩
  | .set x e, n + 1, ar, pt, h, hp => by
    have h : eh e + 1 < n + 1 := h
    have hp : pt.length + (eh e + 1) ≤ 900 := hp
    rw [wE_call (fd := fn_9) rfl rfl]
    show wT (sx _ N fn_9.body [some (pD (.set x e)), some (.ref lv), some (.int ar), some (.tup (ptD pt)), none, none, none, none, none] A) _
    rw [fn_9, wT_seq]
    refine wT_setR ?_
    rw [wR_tix (x := .str "set") rfl rfl]
    show wT (sx _ N _ [some (pD (.set x e)), some (.ref lv), some (.int ar), some (.tup (ptD pt)), some (.str "set"), none, none, none, none] A) _
    rw [wT_seq, wT_word rfl, if_pos rfl, wT_seq]
    refine wT_setR ?_
    rw [wR_cl, wR_cons, wR_tup, wR_cons, wR_str, wR_cons, wR_tix (x := .str x.s) rfl rfl, wR_nil, wR_ifok (sz1 (by simp)), wR_cons, wR_v1, wR_cons, wR_v3, wR_nil]
    refine (xl_spec hL (.var x) n (ptD pt) (by show 0 < n; omega) (by rw [ptD_len]; show _ + 0 ≤ _; omega)).mono fun r A' ⟨er, eA⟩ => ?_
    subst er; rw [eA]
    show wT (sx _ N _ [some (pD (.set x e)), some (.ref lv), some (.int ar), some (.tup (ptD pt)), some (.str "set"), some (.int (L x)), none, none, none] A) _
    rw [wT_seq]
    refine wT_if ?_
    rw [wR_cmp, wR_bi, wR_cons, wR_v2, wR_cons, wR_cl, wR_cons, wR_tix (x := eD e) rfl rfl, wR_cons, wR_v1, wR_cons, wR_pcat (xs := ptD pt) rfl (by rw [ptD_len]; omega), wR_nil]
    refine (xl_spec hL e n (ptD pt ++ [.int 0]) (by omega) (by rw [List.length_append, ptD_len]; simp; omega)).mono fun r A' ⟨er, eA⟩ => ?_
    subst er; rw [eA, wR_nil, max_eq, wR_ok, wR_v5, gt_ok, wR_some, truth_bl, wR_some]
    by_cases hc : L x < max ar (lvl L e)
    · rw [if_pos (decide_eq_true hc), wT_seq]
      refine wT_rs2 ?_
      rw [wR_cons, wR_str, wR_cons, wR_v3, wR_nil]
      exact ⟨_, _, rfl, rfl, pt, by unfold leak; rw [if_pos hc], rfl⟩
    · rw [if_neg (by simp [hc]), wT_skip]
      dsimp only
      rw [wT_skip]
      dsimp only
      rw [wT_skip]
      exact ⟨rfl, by unfold leak; rw [if_neg hc]⟩
  | .thn p q, n + 1, ar, pt, h, hp => by
    have h : max (ph p) (ph q) + 1 < n + 1 := h
    have hp : pt.length + (max (ph p) (ph q) + 1) ≤ 900 := hp
    rw [wE_call (fd := fn_9) rfl rfl]
    show wT (sx _ N fn_9.body [some (pD (.thn p q)), some (.ref lv), some (.int ar), some (.tup (ptD pt)), none, none, none, none, none] A) _
    rw [fn_9, wT_seq]
    refine wT_setR ?_
    rw [wR_tix (x := .str "then") rfl rfl]
    show wT (sx _ N _ [some (pD (.thn p q)), some (.ref lv), some (.int ar), some (.tup (ptD pt)), some (.str "then"), none, none, none, none] A) _
    rw [wT_seq, wT_word rfl, if_neg (by decide), wT_seq, wT_word rfl, if_pos rfl, wT_seq, wT_ex]
    refine wE_cl ?_
    rw [wR_cons, wR_tix (x := pD p) rfl rfl, wR_cons, wR_v1, wR_cons, wR_v2, wR_cons, wR_pcat (xs := ptD pt) rfl (by rw [ptD_len]; omega), wR_nil]
    have e0 : ptD pt ++ [.int 0] = ptD (pt ++ [0]) := (ptD_app pt 0).symm
    have e1 : ptD pt ++ [.int 1] = ptD (pt ++ [1]) := (ptD_app pt 1).symm
    rw [e0]
    refine (check_spec hL p n ar (pt ++ [0]) (by omega) (by rw [List.length_append]; simp; omega)).mono (fun r A' ⟨eA, el⟩ => ?_) fun y A' ⟨eA, r, el, ey⟩ => ⟨eA, r, by unfold leak; rw [el], ey⟩
    rw [eA]
    dsimp only
    rw [wT_seq, wT_ex]
    refine wE_cl ?_
    rw [wR_cons, wR_tix (x := pD q) rfl rfl, wR_cons, wR_v1, wR_cons, wR_v2, wR_cons, wR_pcat (xs := ptD pt) rfl (by rw [ptD_len]; omega), wR_nil, e1]
    refine (check_spec hL q n ar (pt ++ [1]) (by omega) (by rw [List.length_append]; simp; omega)).mono (fun r A' ⟨eA, el2⟩ => ?_) fun y A' ⟨eA, r, el2, ey⟩ => ⟨eA, r, by unfold leak; rw [el, ← el2], ey⟩
    dsimp only
    rw [wT_skip]
    dsimp only
    rw [wT_skip]
    dsimp only
    rw [wT_skip]
    exact ⟨eA, by unfold leak; rw [el]; exact el2⟩
  | .iff e p q, n + 1, ar, pt, h, hp => by
    have h : max (eh e) (max (ph p) (ph q)) + 1 < n + 1 := h
    have hp : pt.length + (max (eh e) (max (ph p) (ph q)) + 1) ≤ 900 := hp
    rw [wE_call (fd := fn_9) rfl rfl]
    show wT (sx _ N fn_9.body [some (pD (.iff e p q)), some (.ref lv), some (.int ar), some (.tup (ptD pt)), none, none, none, none, none] A) _
    rw [fn_9, wT_seq]
    refine wT_setR ?_
    rw [wR_tix (x := .str "if") rfl rfl]
    show wT (sx _ N _ [some (pD (.iff e p q)), some (.ref lv), some (.int ar), some (.tup (ptD pt)), some (.str "if"), none, none, none, none] A) _
    rw [wT_seq, wT_word rfl, if_neg (by decide), wT_seq, wT_word rfl, if_neg (by decide), wT_seq, wT_ite]
    have ht : tru (ev (callF pg N n) (.cmp .mem (.var 4) (.tup (.cons (.str "if") (.cons (.str "while") .nil)))) [some (pD (.iff e p q)), some (.ref lv), some (.int ar), some (.tup (ptD pt)), some (.str "if"), none, none, none, none] A) = .ok true A := by kernel_rfl
    rw [ht, wE_ok, if_pos rfl]
    show wT (sx _ N (.seq (.set 6 _) _) _ A) _
    rw [wT_seq]
    refine wT_setR ?_
    rw [wR_bi, wR_cons, wR_v2, wR_cons, wR_cl, wR_cons, wR_tix (x := eD e) rfl rfl, wR_cons, wR_v1, wR_cons, wR_pcat (xs := ptD pt) rfl (by rw [ptD_len]; omega), wR_nil]
    refine (xl_spec hL e n (ptD pt ++ [.int 0]) (by omega) (by rw [List.length_append, ptD_len]; simp; omega)).mono fun r A' ⟨er, eA⟩ => ?_
    subst er; rw [eA, wR_nil, max_eq, wR_ok]
    generalize hi : max ar (lvl L e) = inn
    show wT (sx _ N _ [some (pD (.iff e p q)), some (.ref lv), some (.int ar), some (.tup (ptD pt)), some (.str "if"), none, some (.int inn), none, none] A) _
    rw [wT_seq]
    refine wT_for ?_
    refine wR_eq (a := ⟨[.tup [.int 0, pD p], .tup [.int 1, pD q]], [], none⟩) (A := A) (by kernel_rfl) ⟨rfl, ?_⟩
    have e1 : ptD pt ++ [.int (1 + 0)] = ptD (pt ++ [1]) := (ptD_app pt 1).symm
    have e2 : ptD pt ++ [.int (1 + 1)] = ptD (pt ++ [2]) := (ptD_app pt 2).symm
    have cat : ∀ (k : Int) (d : D), ev (callF pg N n) (.op .add (.var 3) (.tup (.cons (.op .add (.int 1) (.var 7)) .nil))) [some (pD (.iff e p q)), some (.ref lv), some (.int ar), some (.tup (ptD pt)), some (.str "if"), none, some (.int inn), some (.int k), some d] A = .ok (.tup (ptD pt ++ [.int (1 + k)])) A := fun k d => by
      have h2 : (ptD pt).length + [D.int (1 + k)].length ≤ PySem.sizeLine := by rw [ev_sz, ptD_len]; simp; omega
      show (if (ptD pt).length + [D.int (1 + k)].length ≤ PySem.sizeLine then Res.ok (D.tup (ptD pt ++ [.int (1 + k)])) A else .no) = _
      rw [if_pos h2]
    refine forT_cons (F' := [some (pD (.iff e p q)), some (.ref lv), some (.int ar), some (.tup (ptD pt)), some (.str "if"), none, some (.int inn), some (.int 0), some (pD p)]) rfl ?_
    rw [wT_seq, wT_ex]
    refine wE_cl ?_
    rw [wR_cons, wR_v8, wR_cons, wR_v1, wR_cons, wR_v6, wR_cons, cat, wR_ok, wR_nil, e1]
    refine (check_spec hL p n inn (pt ++ [1]) (by omega) (by rw [List.length_append]; simp; omega)).mono (fun r A' ⟨eA, el⟩ => ?_) fun y A' ⟨eA, r, el, ey⟩ => ⟨eA, r, by unfold leak; rw [hi, el], ey⟩
    rw [eA]
    dsimp only
    rw [wT_skip]
    refine forT_cons (F' := [some (pD (.iff e p q)), some (.ref lv), some (.int ar), some (.tup (ptD pt)), some (.str "if"), none, some (.int inn), some (.int 1), some (pD q)]) rfl ?_
    rw [wT_seq, wT_ex]
    refine wE_cl ?_
    rw [wR_cons, wR_v8, wR_cons, wR_v1, wR_cons, wR_v6, wR_cons, cat, wR_ok, wR_nil, e2]
    refine (check_spec hL q n inn (pt ++ [2]) (by omega) (by rw [List.length_append]; simp; omega)).mono (fun r A' ⟨eA, el2⟩ => ?_) fun y A' ⟨eA, r, el2, ey⟩ => ⟨eA, r, by unfold leak; rw [hi, el, ← el2], ey⟩
    rw [eA]
    dsimp only
    rw [wT_skip]
    apply forT_nil
    dsimp only
    rw [wT_skip]
    dsimp only
    rw [wT_skip]
    dsimp only
    rw [wT_skip]
    dsimp only
    rw [wT_skip]
    exact ⟨rfl, by unfold leak; rw [hi, el]; exact el2⟩
  | .whl e p, n + 1, ar, pt, h, hp => by
    have h : max (eh e) (ph p) + 1 < n + 1 := h
    have hp : pt.length + (max (eh e) (ph p) + 1) ≤ 900 := hp
    rw [wE_call (fd := fn_9) rfl rfl]
    show wT (sx _ N fn_9.body [some (pD (.whl e p)), some (.ref lv), some (.int ar), some (.tup (ptD pt)), none, none, none, none, none] A) _
    rw [fn_9, wT_seq]
    refine wT_setR ?_
    rw [wR_tix (x := .str "while") rfl rfl]
    show wT (sx _ N _ [some (pD (.whl e p)), some (.ref lv), some (.int ar), some (.tup (ptD pt)), some (.str "while"), none, none, none, none] A) _
    rw [wT_seq, wT_word rfl, if_neg (by decide), wT_seq, wT_word rfl, if_neg (by decide), wT_seq, wT_ite]
    have ht : tru (ev (callF pg N n) (.cmp .mem (.var 4) (.tup (.cons (.str "if") (.cons (.str "while") .nil)))) [some (pD (.whl e p)), some (.ref lv), some (.int ar), some (.tup (ptD pt)), some (.str "while"), none, none, none, none] A) = .ok true A := by kernel_rfl
    rw [ht, wE_ok, if_pos rfl]
    show wT (sx _ N (.seq (.set 6 _) _) _ A) _
    rw [wT_seq]
    refine wT_setR ?_
    rw [wR_bi, wR_cons, wR_v2, wR_cons, wR_cl, wR_cons, wR_tix (x := eD e) rfl rfl, wR_cons, wR_v1, wR_cons, wR_pcat (xs := ptD pt) rfl (by rw [ptD_len]; omega), wR_nil]
    refine (xl_spec hL e n (ptD pt ++ [.int 0]) (by omega) (by rw [List.length_append, ptD_len]; simp; omega)).mono fun r A' ⟨er, eA⟩ => ?_
    subst er; rw [eA, wR_nil, max_eq, wR_ok]
    generalize hi : max ar (lvl L e) = inn
    show wT (sx _ N _ [some (pD (.whl e p)), some (.ref lv), some (.int ar), some (.tup (ptD pt)), some (.str "while"), none, some (.int inn), none, none] A) _
    rw [wT_seq]
    refine wT_for ?_
    refine wR_eq (a := ⟨[.tup [.int 0, pD p]], [], none⟩) (A := A) (by kernel_rfl) ⟨rfl, ?_⟩
    have e1 : ptD pt ++ [.int (1 + 0)] = ptD (pt ++ [1]) := (ptD_app pt 1).symm
    have cat : ∀ (k : Int) (d : D), ev (callF pg N n) (.op .add (.var 3) (.tup (.cons (.op .add (.int 1) (.var 7)) .nil))) [some (pD (.whl e p)), some (.ref lv), some (.int ar), some (.tup (ptD pt)), some (.str "while"), none, some (.int inn), some (.int k), some d] A = .ok (.tup (ptD pt ++ [.int (1 + k)])) A := fun k d => by
      have h2 : (ptD pt).length + [D.int (1 + k)].length ≤ PySem.sizeLine := by rw [ev_sz, ptD_len]; simp; omega
      show (if (ptD pt).length + [D.int (1 + k)].length ≤ PySem.sizeLine then Res.ok (D.tup (ptD pt ++ [.int (1 + k)])) A else .no) = _
      rw [if_pos h2]
    refine forT_cons (F' := [some (pD (.whl e p)), some (.ref lv), some (.int ar), some (.tup (ptD pt)), some (.str "while"), none, some (.int inn), some (.int 0), some (pD p)]) rfl ?_
    rw [wT_seq, wT_ex]
    refine wE_cl ?_
    rw [wR_cons, wR_v8, wR_cons, wR_v1, wR_cons, wR_v6, wR_cons, cat, wR_ok, wR_nil, e1]
    refine (check_spec hL p n inn (pt ++ [1]) (by omega) (by rw [List.length_append]; simp; omega)).mono (fun r A' ⟨eA, el⟩ => ?_) fun y A' ⟨eA, r, el, ey⟩ => ⟨eA, r, by unfold leak; rw [hi, el], ey⟩
    rw [eA]
    dsimp only
    rw [wT_skip]
    apply forT_nil
    dsimp only
    rw [wT_skip]
    dsimp only
    rw [wT_skip]
    dsimp only
    rw [wT_skip]
    dsimp only
    rw [wT_skip]
    exact ⟨rfl, by unfold leak; rw [hi]; exact el⟩
/-- what is told of a leak -/
def lkD : Option (List Nat) → D
  | none => .non
  | some q => .tup (ptD q)
theorem keeps_spec (hL : A[lv]? = some (.dct (lvD L))) (p : Pr) (n : Nat) (hn : ph p < n) (hp : ph p ≤ 900) : wR (callF pg N (n + 1) "keeps_secrets" [pD p, .ref lv] A) (fun r A' => r = lkD (leak L p 0 []) ∧ A' = A) := by
  refine wR_of ?_
  rw [wE_call (fd := fn_10) rfl rfl]
  show wT (sx _ N fn_10.body [some (pD p), some (.ref lv), none] A) _
  rw [fn_10, wT_seq, wT_tr, wT_seq, wT_ex]
  refine wE_cl ?_
  rw [wR_cons, wR_v0, wR_cons, wR_v1, wR_cons, wR_int, wR_cons, wR_tup, wR_nil, wR_ifok (sz1 (by simp)), wR_nil]
  refine (check_spec hL p n 0 [] hn (by simpa using hp)).mono (fun r A' ⟨eA, el⟩ => ?_) fun x A' ⟨eA, q, el, ex⟩ => ?_
  · rw [eA]
    dsimp only
    rw [wT_skip]
    dsimp only
    rw [wT_seq]
    refine wT_retR ?_
    rw [wR_non, el]
    exact ⟨rfl, rfl⟩
  · subst ex
    rw [eA, el]
    dsimp only
    have e : trR "TypeProblem" ["TypeProblem", "Tired"] (some 2) (.ret (.fld "path")) (.exc (LX q) [some (pD p), some (.ref lv), none] A) = .rt (.tup (ptD q)) A := by kernel_rfl
    rw [e, wT_rt1]
    exact ⟨rfl, rfl⟩
end
end K29

/-! ## K29D -/
/-! K29D: the law's own leaks. -/
namespace K29
open Ev
theorem get_dct {A : AH} {a : Nat} {kvs : List (D × D)} {k d : D} (h : A[a]? = some (.dct kvs)) (hk : keyOk k = true) : mtF A true "get" (.ref a) [k, d] = .ok ((dget kvs k).getD d) A := by
  show mtGet A a [k, d] = _
  simp only [mtGet, h, hk, if_true]
theorem get_dctv {A : AH} {a : Nat} {kvs : List (D × D)} {k d : D} (v : D) (h : A[a]? = some (.dct kvs)) (hk : keyOk k = true) (hv : (dget kvs k).getD d = v) : mtF A true "get" (.ref a) [k, d] = .ok v A := by rw [get_dct h hk, hv]
theorem mkM_dct {A : AH} {a : Nat} {kvs : List (D × D)} (h : A[a]? = some (.dct kvs)) : mkM A "get" (.ref a) = some true := by
  have : mkD A (.ref a) = some true := by simp [mkD, h]
  simp only [mkM, this]
  rfl
def lkB : Sm := (.seq (.set 8 (.call "_law_leak" (.cons (.ix (.var 5) (.var 7)) (.cons (.var 1) (.cons (.var 6) (.cons (.op .add (.var 3) (.tup (.cons (.ite (.cmp .eq (.var 4) (.str "then")) (.var 7) (.op .add (.var 7) (.int 1))) .nil))) .nil))))))
 (.seq (.ite (.cmp .isnt (.var 8) .non) (.seq (.ret (.var 8))
 .skip) .skip)
 .skip))
def lkI : Ex := (.ite (.cmp .mem (.var 4) (.tup (.cons (.str "then") (.cons (.str "skip") .nil)))) (.var 2) (.bi "max" (.cons (.var 2) (.cons (.call "_law_level" (.cons (.ix (.var 0) (.int 1)) (.cons (.var 1) .nil))) .nil))))
def lkG : Ex := .rng (.cons (.bi "len" (.cons (.var 5) .nil)) .nil)
def lkR : Sm := .seq (.set 6 lkI) (.seq (.for (.nm 7) lkG lkB) (.seq (.ret .non) .skip))
section
variable {N : Nat} {lv : Nat} {L : En}
abbrev lkF (p : D) (lv : Nat) (ar : Int) (pt : List Nat) (w : String) (ps : List D) (inn : Int) (k y : Option D) : Fr := [some p, some (.ref lv), some (.int ar), some (.tup (ptD pt)), some (.str w), some (.tup ps), some (.int inn), k, y]
theorem lk_turn {n : Nat} {A : AH} {pd p' : D} {ar : Int} {pt : List Nat} {w : String} {ps : List D} {inn : Int} {k : Int} {y : Option D} {j : Nat} {o : Option (List Nat)} {P : PX} (hp : pt.length ≤ 900) (hk : L2.atI ps k = some p') (hj : (if w = "then" then k else k + 1) = (j : Int))
    (h : wR (callF pg N n "_law_leak" [p', .ref lv, .int inn, .tup (ptD (pt ++ [j]))] A) (fun r A' => r = lkD o ∧ Kp A A'))
    (h1 : o = none → ∀ A', Kp A A' → P.nx (lkF pd lv ar pt w ps inn (some (.int k)) (some .non)) A') (h2 : ∀ q, o = some q → ∀ A', Kp A A' → P.rt (.tup (ptD q)) A') :
    wT (sx (callF pg N n) N lkB (lkF pd lv ar pt w ps inn (some (.int k)) y) A) P := by
  rw [lkB, wT_seq]
  refine wT_setR ?_
  rw [wR_cl, wR_cons, wR_ix, wR_v5, wR_v7]
  show wR (ofO (L2.atI ps k) A) _
  rw [hk, wR_some, wR_cons, wR_v1, wR_cons, wR_v6, wR_cons, wR_op, wR_v3, wR_tup, wR_cons, wR_ite, wR_cmp, wR_v4, wR_str, eq_str]
  show wR (ofO (some (D.bl (decide (w = "then")))) A) _
  rw [wR_some, truth_bl, wR_some]
  have fin : ∀ i : Int, i = (j : Int) → wR (evs (callF pg N n) .nil (lkF pd lv ar pt w ps inn (some (.int k)) y) A) (fun xs A2 => wR (if (D.int i :: xs).length ≤ PySem.sizeLine then Res.ok (D.tup (D.int i :: xs)) A2 else .no) fun z A3 => wR (opB A3 .add (.tup (ptD pt)) z) fun z A4 =>
      wR (evs (callF pg N n) .nil (lkF pd lv ar pt w ps inn (some (.int k)) y) A4) fun xs A5 => wR (callF pg N n "_law_leak" (p' :: .ref lv :: .int inn :: z :: xs) A5) fun d A6 => wT (sx (callF pg N n) N (.seq (.ite (.cmp .isnt (.var 8) .non) (.seq (.ret (.var 8)) .skip) .skip) .skip) (fset (lkF pd lv ar pt w ps inn (some (.int k)) y) 8 d) A6) P) := fun i hi => by
    rw [wR_nil, wR_ifok (sz1 (by simp))]
    have h2' : (ptD pt).length + [D.int i].length ≤ PySem.sizeLine := by rw [ev_sz, ptD_len]; simp; omega
    show wR (if (ptD pt).length + [D.int i].length ≤ PySem.sizeLine then Res.ok (D.tup (ptD pt ++ [D.int i])) A else .no) _
    rw [if_pos h2', wR_ok, wR_nil, hi, ← ptD_app]
    refine h.mono fun r A' ⟨er, k'⟩ => ?_
    subst er
    rw [wT_seq]
    cases o with
    | none =>
      refine wT_if ?_
      show wR (Res.ok (D.bl false) A') _
      rw [wR_ok, truth_bl, wR_some, if_neg (by decide), wT_skip]
      dsimp only
      rw [wT_skip]
      exact h1 rfl A' k'
    | some q =>
      refine wT_if ?_
      show wR (Res.ok (D.bl true) A') _
      rw [wR_ok, truth_bl, wR_some, if_pos rfl, wT_seq]
      refine wT_retR ?_
      rw [wR_var (d := .tup (ptD q)) rfl]
      exact h2 q rfl A' k'
  by_cases hw : w = "then"
  · rw [if_pos (decide_eq_true hw), wR_v7]
    rw [if_pos hw] at hj
    exact fin k hj
  · rw [if_neg (by simp [hw]), wR_op, wR_v7, wR_int, opB_add, wR_ok]
    rw [if_neg hw] at hj
    exact fin (k + 1) hj
def lkDct : Ex := .dct (.cons (.str "then") (.cons (.sl (.var 0) (.cons (.int 1) .nil) .nil) (.cons (.str "if") (.cons (.sl (.var 0) (.cons (.int 2) .nil) .nil) (.cons (.str "while") (.cons (.sl (.var 0) (.cons (.int 2) .nil) .nil) .nil))))))
/-- up to the parts -/
theorem lk_pre {cl : Cl0} {A : AH} {xs ps : List D} {w : String} {kvs : List (D × D)} {l a pt : D} {P : PX} (h0 : L2.atI xs 0 = some (.str w)) (hw : w ≠ "set") (hd : ev cl lkDct [some (.tup xs), some l, some a, some pt, some (.str w), none, none, none, none] A = .ok (.ref A.length) (A ++ [.dct kvs]))
    (hg : (dget kvs (.str w)).getD (.tup []) = .tup ps) (h : wT (sx cl N (lkR) [some (.tup xs), some l, some a, some pt, some (.str w), some (.tup ps), none, none, none] (A ++ [.dct kvs])) P) :
    wT (sx cl N fn_26.body [some (.tup xs), some l, some a, some pt, none, none, none, none, none] A) P := by
  show wT (sx cl N (.seq (.set 4 (.ix (.var 0) (.int 0))) (.seq (.ite (.cmp .eq (.var 4) (.str "set")) _ .skip) (.seq (.set 5 (.mth "get" lkDct (.cons (.var 4) (.cons (.tup .nil) .nil)))) (lkR)))) _ A) P
  rw [wT_seq]
  refine wT_setR ?_
  rw [wR_tix (x := .str w) rfl h0]
  show wT (sx cl N _ [some (.tup xs), some l, some a, some pt, some (.str w), none, none, none, none] A) _
  rw [wT_seq, wT_word rfl, if_neg hw, wT_skip]
  dsimp only
  rw [wT_seq]
  refine wT_setR ?_
  rw [wR_mth]
  refine wR_eq hd ?_
  rw [mkM_dct new_at, wR_some, wR_cons, wR_v4, wR_cons, wR_tup, wR_nil, wR_ifok (sz1 (by simp)), wR_nil]
  refine wR_eq (get_dctv (.tup ps) new_at rfl hg) ?_
  exact h
theorem lk_rest {n : Nat} {A : AH} {pd : D} {ar : Int} {pt : List Nat} {w : String} {ps ks : List D} {inn : Int} {P : PX}
    (hi : wR (ev (callF pg N n) lkI [some pd, some (.ref lv), some (.int ar), some (.tup (ptD pt)), some (.str w), some (.tup ps), none, none, none] A) (fun r A' => r = .int inn ∧ A' = A))
    (hr : evw (callF pg N n) lkG (lkF pd lv ar pt w ps inn none none) A = .ok ⟨ks, [], none⟩ A)
    (h : wT (forL (asgT (.nm 7)) [] (fun F' A' => sx (callF pg N n) N lkB F' A') ks (lkF pd lv ar pt w ps inn none none) A) { P with nx := fun F A => P.rt .non A }) :
    wT (sx (callF pg N n) N (lkR) [some pd, some (.ref lv), some (.int ar), some (.tup (ptD pt)), some (.str w), some (.tup ps), none, none, none] A) P := by
  rw [lkR, wT_seq]
  apply wT_setR
  apply hi.mono
  intro r A' hh
  rw [hh.1, hh.2]
  clear hh hi
  have e : fset [some pd, some (.ref lv), some (.int ar), some (.tup (ptD pt)), some (.str w), some (.tup ps), none, none, none] 6 (.int inn) = lkF pd lv ar pt w ps inn none none := rfl
  rw [e]
  dsimp only
  rw [wT_seq]
  apply wT_for
  apply wR_eq hr
  refine ⟨rfl, ?_⟩
  dsimp only
  apply h.mono
  · intro F A h
    dsimp only
    rw [wT_seq]
    apply wT_retR
    rw [wR_non]
    exact h
  · exact fun _ _ h => h
  · exact fun _ _ h => h
  · exact fun _ _ h => h
  · exact fun _ _ _ h => h
theorem lk_inn {n : Nat} {A : AH} {xs : List D} {e : Xp} {ar : Int} {pt : List Nat} {w : String} {ps : List D} (hw : w ≠ "then" ∧ w ≠ "skip") (he : L2.atI xs 1 = some (eD e)) (hn : eh e < n) (hL : A[lv]? = some (.dct (lvD L))) :
    wR (ev (callF pg N n) lkI [some (.tup xs), some (.ref lv), some (.int ar), some (.tup (ptD pt)), some (.str w), some (.tup ps), none, none, none] A) (fun r A' => r = .int (max ar (lvl L e)) ∧ A' = A) := by
  have hm : opC A .mem (.str w) (.tup [.str "then", .str "skip"]) = some false := by
    show (if flatD (.str w) && [D.str "then", D.str "skip"].all flatD then some ([D.str "then", D.str "skip"].any fun z => flatEq z (.str w)) else none) = _
    have h1 : flatEq (.str "then") (.str w) = false := by simp [flatEq, Ne.symm hw.1]
    have h2 : flatEq (.str "skip") (.str w) = false := by simp [flatEq, Ne.symm hw.2]
    simp [flatD, h1, h2]
  rw [lkI, wR_ite, wR_cmp, wR_v4, wR_tup, wR_cons, wR_str, wR_cons, wR_str, wR_nil, wR_ifok (sz1 (by simp)), hm]
  show wR (ofO (some (D.bl false)) A) _
  rw [wR_some, truth_bl, wR_some, if_neg (by decide), wR_bi, wR_cons, wR_v2, wR_cons, wR_cl, wR_cons, wR_tix (x := eD e) rfl he, wR_cons, wR_v1, wR_nil]
  refine (ll_spec hL e n hn).mono fun r A' ⟨er, eA⟩ => ?_
  subst er; rw [eA, wR_nil, max_eq, wR_ok]
  exact ⟨rfl, rfl⟩
def LS (N lv : Nat) (L : En) (p : Pr) (n : Nat) : Prop := ∀ (ar : Int) (pt : List Nat) (A : AH), pt.length + ph p ≤ 800 → A[lv]? = some (.dct (lvD L)) →
    wR (callF pg N n "_law_leak" [pD p, .ref lv, .int ar, .tup (ptD pt)] A) (fun r A' => r = lkD (leak L p ar pt) ∧ Kp A A')
theorem lk_two {n : Nat} {A A1 : AH} {pd : D} {p q : Pr} {ar inn : Int} {pt : List Nat} {w : String} {P : PX} {i j : Nat} (hp : pt.length + 1 + max (ph p) (ph q) ≤ 800) (ihp : LS N lv L p n) (ihq : LS N lv L q n) (hA : A[lv]? = some (.dct (lvD L))) (hi : (if w = "then" then (0 : Int) else 0 + 1) = (i : Int)) (hj : (if w = "then" then (1 : Int) else 1 + 1) = (j : Int))
    (k1 : ∀ r A', leak L p inn (pt ++ [i]) = some r → Kp A A' → P.rt (.tup (ptD r)) A') (k2 : ∀ r A', leak L p inn (pt ++ [i]) = none → leak L q inn (pt ++ [j]) = some r → Kp A A' → P.rt (.tup (ptD r)) A') (k3 : ∀ F A', leak L p inn (pt ++ [i]) = none → leak L q inn (pt ++ [j]) = none → Kp A A' → P.nx F A') :
    wT (forL (asgT (.nm 7)) [] (fun F' A' => sx (callF pg N n) N lkB F' A') [.int 0, .int 1] (lkF pd lv ar pt w [pD p, pD q] inn none none) A) P := by
  refine forT_cons (F' := lkF pd lv ar pt w [pD p, pD q] inn (some (.int 0)) none) rfl ?_
  refine lk_turn (j := i) (by omega) rfl hi (ihp inn (pt ++ [i]) A (by rw [List.length_append]; simp; omega) hA) (fun e0 A2 m2 => ?_) fun r e0 A2 m2 => k1 r A2 e0 m2
  refine forT_cons (F' := lkF pd lv ar pt w [pD p, pD q] inn (some (.int 1)) (some .non)) rfl ?_
  refine lk_turn (j := j) (by omega) rfl hj (ihq inn (pt ++ [j]) A2 (by rw [List.length_append]; simp; omega) (m2 _ _ hA)) (fun e1 A3 m3 => ?_) fun r e1 A3 m3 => k2 r A3 e0 e1 (m2.trans m3)
  dsimp only
  apply forT_nil
  exact k3 _ A3 e0 e1 (m2.trans m3)
theorem lk_one {n : Nat} {A A1 : AH} {pd : D} {p : Pr} {ar inn : Int} {pt : List Nat} {w : String} {P : PX} {i : Nat} (hp : pt.length + 1 + ph p ≤ 800) (ihp : LS N lv L p n) (hA : A[lv]? = some (.dct (lvD L))) (hi : (if w = "then" then (0 : Int) else 0 + 1) = (i : Int))
    (k1 : ∀ r A', leak L p inn (pt ++ [i]) = some r → Kp A A' → P.rt (.tup (ptD r)) A') (k3 : ∀ F A', leak L p inn (pt ++ [i]) = none → Kp A A' → P.nx F A') :
    wT (forL (asgT (.nm 7)) [] (fun F' A' => sx (callF pg N n) N lkB F' A') [.int 0] (lkF pd lv ar pt w [pD p] inn none none) A) P := by
  refine forT_cons (F' := lkF pd lv ar pt w [pD p] inn (some (.int 0)) none) rfl ?_
  refine lk_turn (j := i) (by omega) rfl hi (ihp inn (pt ++ [i]) A (by rw [List.length_append]; simp; omega) hA) (fun e0 A2 m2 => ?_) fun r e0 A2 m2 => k1 r A2 e0 m2
  dsimp only
  apply forT_nil
  exact k3 _ A2 e0 m2
theorem lleak_spec : ∀ (p : Pr) (n : Nat), ph p ≤ 50 → ph p < n → LS N lv L p n
  | p, 0, _, h => by omega
  | .skip, n + 1, hb, h => fun ar pt A hp hL => by
    refine wR_of ?_
    rw [wE_call (fd := fn_26) rfl rfl]
    refine lk_pre (w := "skip") (ps := []) (kvs := [(.str "then", .tup []), (.str "if", .tup []), (.str "while", .tup [])]) rfl (by decide) (by kernel_rfl) (by kernel_rfl) ?_
    refine wT_of_eq (d := .non) (A := A ++ [.dct [(.str "then", .tup []), (.str "if", .tup []), (.str "while", .tup [])]]) (by kernel_rfl) ?_
    exact ⟨rfl, Kp.refl.app⟩
  | .set x e, n + 1, hb, h => fun ar pt A hp hL => by
    have h : eh e + 1 < n + 1 := h
    refine wR_of ?_
    rw [wE_call (fd := fn_26) rfl rfl]
    show wT (sx _ N fn_26.body [some (pD (.set x e)), some (.ref lv), some (.int ar), some (.tup (ptD pt)), none, none, none, none, none] A) _
    rw [fn_26, wT_seq]
    refine wT_setR ?_
    rw [wR_tix (x := .str "set") rfl rfl]
    show wT (sx _ N _ [some (pD (.set x e)), some (.ref lv), some (.int ar), some (.tup (ptD pt)), some (.str "set"), none, none, none, none] A) _
    rw [wT_seq, wT_word rfl, if_pos rfl, wT_seq]
    refine wT_retR ?_
    rw [wR_ite, wR_cmp, wR_bi, wR_cons, wR_v2, wR_cons, wR_cl, wR_cons, wR_tix (x := eD e) rfl rfl, wR_cons, wR_v1, wR_nil]
    refine (ll_spec hL e n (by omega)).mono fun r A' ⟨er, eA⟩ => ?_
    subst er; rw [eA, wR_nil, max_eq, wR_ok, wR_ix, wR_v1, wR_tix (x := .str x.s) rfl rfl, ix_lv hL, wR_some, gt_ok, wR_some, truth_bl, wR_some]
    by_cases hc : L x < max ar (lvl L e)
    · rw [if_pos (decide_eq_true hc), wR_v3]
      exact ⟨by unfold leak; rw [if_pos hc]; rfl, .refl⟩
    · rw [if_neg (by simp [hc]), wR_non]
      exact ⟨by unfold leak; rw [if_neg hc]; rfl, .refl⟩
  | .thn p q, n + 1, hb, h => fun ar pt A hp hL => by
    have hpt : pt.length ≤ 800 := Nat.le_trans (Nat.le_add_right _ _) hp
    have h : max (ph p) (ph q) + 1 < n + 1 := h
    have hb : max (ph p) (ph q) + 1 ≤ 50 := hb
    have ihp := lleak_spec p n (by omega) (by omega)
    have ihq := lleak_spec q n (by omega) (by omega)
    refine wR_of ?_
    rw [wE_call (fd := fn_26) rfl rfl]
    refine lk_pre (w := "then") (ps := [pD p, pD q]) (kvs := [(.str "then", .tup [pD p, pD q]), (.str "if", .tup [pD q]), (.str "while", .tup [pD q])]) rfl (by decide) (by kernel_rfl) (by kernel_rfl) ?_
    have k1 : Kp A (A ++ [.dct [(.str "then", .tup [pD p, pD q]), (.str "if", .tup [pD q]), (.str "while", .tup [pD q])]]) := Kp.refl.app
    refine lk_rest (inn := ar) (ks := [.int 0, .int 1]) (wR_eq (a := .int ar) (by kernel_rfl) ⟨rfl, rfl⟩) (by kernel_rfl) ?_
    refine lk_two (i := 0) (j := 1) (A1 := A) (ar := ar) (by have : pt.length + ph _ ≤ 800 := hp; unfold ph at this; omega) ihp ihq (k1 _ _ hL) (by simp) (by simp) (fun r A' e k => ?_) (fun r A' e e2 k => ?_) fun F A' e e2 k => ?_
    · exact ⟨by unfold leak; rw [e]; rfl, k1.trans k⟩
    · exact ⟨by unfold leak; rw [e, e2]; rfl, k1.trans k⟩
    · exact ⟨by unfold leak; rw [e, e2]; rfl, k1.trans k⟩
  | .iff e p q, n + 1, hb, h => fun ar pt A hp hL => by
    have hpt : pt.length ≤ 800 := Nat.le_trans (Nat.le_add_right _ _) hp
    have h : max (eh e) (max (ph p) (ph q)) + 1 < n + 1 := h
    have hb : max (eh e) (max (ph p) (ph q)) + 1 ≤ 50 := hb
    have ihp := lleak_spec p n (by omega) (by omega)
    have ihq := lleak_spec q n (by omega) (by omega)
    refine wR_of ?_
    rw [wE_call (fd := fn_26) rfl rfl]
    refine lk_pre (w := "if") (ps := [pD p, pD q]) (kvs := [(.str "then", .tup [eD e, pD p, pD q]), (.str "if", .tup [pD p, pD q]), (.str "while", .tup [pD p, pD q])]) rfl (by decide) (by kernel_rfl) (by kernel_rfl) ?_
    have k1 : Kp A (A ++ [.dct [(.str "then", .tup [eD e, pD p, pD q]), (.str "if", .tup [pD p, pD q]), (.str "while", .tup [pD p, pD q])]]) := Kp.refl.app
    refine lk_rest (inn := max ar (lvl L e)) (ks := [.int 0, .int 1]) (lk_inn (by decide) rfl (by omega) (k1 _ _ hL)) (by kernel_rfl) ?_
    refine lk_two (i := 1) (j := 2) (A1 := A) (ar := ar) (by have : pt.length + ph _ ≤ 800 := hp; unfold ph at this; omega) ihp ihq (k1 _ _ hL) (by simp) (by simp) (fun r A' e k => ?_) (fun r A' e e2 k => ?_) fun F A' e e2 k => ?_
    · exact ⟨by unfold leak; rw [e]; rfl, k1.trans k⟩
    · exact ⟨by unfold leak; rw [e, e2]; rfl, k1.trans k⟩
    · exact ⟨by unfold leak; rw [e, e2]; rfl, k1.trans k⟩
  | .whl e p, n + 1, hb, h => fun ar pt A hp hL => by
    have hpt : pt.length ≤ 800 := Nat.le_trans (Nat.le_add_right _ _) hp
    have h : max (eh e) (ph p) + 1 < n + 1 := h
    have hb : max (eh e) (ph p) + 1 ≤ 50 := hb
    have ihp := lleak_spec p n (by omega) (by omega)
    refine wR_of ?_
    rw [wE_call (fd := fn_26) rfl rfl]
    refine lk_pre (w := "while") (ps := [pD p]) (kvs := [(.str "then", .tup [eD e, pD p]), (.str "if", .tup [pD p]), (.str "while", .tup [pD p])]) rfl (by decide) (by kernel_rfl) (by kernel_rfl) ?_
    have k1 : Kp A (A ++ [.dct [(.str "then", .tup [eD e, pD p]), (.str "if", .tup [pD p]), (.str "while", .tup [pD p])]]) := Kp.refl.app
    refine lk_rest (inn := max ar (lvl L e)) (ks := [.int 0]) (lk_inn (by decide) rfl (by omega) (k1 _ _ hL)) (by kernel_rfl) ?_
    refine lk_one (i := 1) (A1 := A) (ar := ar) (by have : pt.length + ph _ ≤ 800 := hp; unfold ph at this; omega) ihp (k1 _ _ hL) (by simp) (fun r A' e k => ?_) fun F A' e k => ?_
    · exact ⟨by unfold leak; rw [e]; rfl, k1.trans k⟩
    · exact ⟨by unfold leak; rw [e]; rfl, k1.trans k⟩
end
end K29

/-! ## K29E -/
/-! K29E: least levels. -/
namespace K29
open Ev
theorem set_self {A : AH} {a : Nat} {o : AO} (h : A[a]? = some o) : A.set a o = A := by
  apply List.ext_getElem?
  intro i
  by_cases e : a = i
  · subst e
    rw [set_at h, h]
  · rw [List.getElem?_set_ne e]
section
variable {N : Nat}
def RS (N : Nat) (p : Pr) (n : Nat) : Prop := ∀ (lv : Nat) (ar : Int) (L : En) (A : AH), A[lv]? = some (.dct (lvD L)) → wR (callF pg N n "raise_levels" [pD p, .ref lv, .int ar] A) (fun _ A' => A' = A.set lv (.dct (lvD (rise p L ar))))
theorem rs_word {cl : Cl0} {A : AH} {xs : List D} {w : String} {l a : D} {P : PX} (h0 : L2.atI xs 0 = some (.str w)) (h : wT (sx cl N (drp 1 fn_12.body) [some (.tup xs), some l, some a, some (.str w), none, none, none] A) P) :
    wT (sx cl N fn_12.body [some (.tup xs), some l, some a, none, none, none, none] A) P := by
  show wT (sx cl N (.seq (.set 3 (.ix (.var 0) (.int 0))) (drp 1 fn_12.body)) _ A) P
  rw [wT_seq]
  apply wT_setR
  rw [wR_tix (x := .str w) rfl h0]
  exact h
abbrev rsF (xs : List D) (lv : Nat) (ar : Int) (w : String) (a b c : Option D) : Fr := [some (.tup xs), some (.ref lv), some (.int ar), some (.str w), a, b, c]
/-- if and while: the inner level, the parts -/
theorem rs_inn {n : Nat} {A : AH} {xs ps : List D} {w : String} {lv : Nat} {ar : Int} {e : Xp} {L : En} {P : PX} (hw : w = "if" ∨ w = "while") (he : L2.atI xs 1 = some (eD e)) (hn : eh e < n) (hb : eh e ≤ 100) (hL : A[lv]? = some (.dct (lvD L)))
    (hs : evw (callF pg N n) (.wk (.sl (.var 0) (.cons (.int 2) .nil) .nil)) (rsF xs lv ar w none (some (.int (max ar (lvl L e)))) none) A = .ok ⟨ps, [], none⟩ A)
    (h : wT (forL (asgT (.nm 6)) [] (fun F' A' => sx (callF pg N n) N (.seq (.ex (.call "raise_levels" (.cons (.var 6) (.cons (.var 1) (.cons (.var 5) .nil))))) .skip) F' A') ps (rsF xs lv ar w none (some (.int (max ar (lvl L e)))) none) A) P) :
    wT (sx (callF pg N n) N (drp 1 fn_12.body) (rsF xs lv ar w none none none) A) P := by
  have h1 : ¬ w = "set" := by rcases hw with rfl | rfl <;> decide
  have h2 : ¬ w = "then" := by rcases hw with rfl | rfl <;> decide
  have hm : opC A .mem (.str w) (.tup [.str "if", .str "while"]) = some true := by
    rcases hw with rfl | rfl <;> kernel_rfl
  show wT (sx (callF pg N n) N (.seq (.ite (.cmp .eq (.var 3) (.str "set")) _ (.seq (.ite (.cmp .eq (.var 3) (.str "then")) _ (.seq (.ite (.cmp .mem (.var 3) (.tup (.cons (.str "if") (.cons (.str "while") .nil)))) (.seq (.set 5 (.bi "max" (.cons (.var 2) (.cons (.call "expression_level" (.cons (.ix (.var 0) (.int 1)) (.cons (.var 1) (.cons (.tup .nil) .nil)))) .nil)))) (.seq (.for (.nm 6) (.wk (.sl (.var 0) (.cons (.int 2) .nil) .nil)) (.seq (.ex (.call "raise_levels" (.cons (.var 6) (.cons (.var 1) (.cons (.var 5) .nil))))) .skip)) .skip)) .skip) .skip)) .skip)) .skip) _ A) P
  rw [wT_seq, wT_word rfl, if_neg h1, wT_seq, wT_word rfl, if_neg h2, wT_seq]
  apply wT_if
  rw [wR_cmp, wR_v3, wR_tup, wR_cons, wR_str, wR_cons, wR_str, wR_nil, wR_ifok (sz1 (by simp)), hm]
  show wR (ofO (some (D.bl true)) A) _
  rw [wR_some, truth_bl, wR_some, if_pos rfl, wT_seq]
  apply wT_setR
  rw [wR_bi, wR_cons, wR_v2, wR_cons, wR_cl, wR_cons, wR_tix (x := eD e) rfl he, wR_cons, wR_v1, wR_cons, wR_tup, wR_nil, wR_ifok (sz1 (by simp)), wR_nil]
  apply (xl_spec hL e n [] hn (by simp; omega)).mono
  intro r A' hh
  rw [hh.1, hh.2, wR_nil, max_eq, wR_ok]
  have ef : fset (rsF xs lv ar w none none none) 5 (.int (max ar (lvl L e))) = rsF xs lv ar w none (some (.int (max ar (lvl L e)))) none := rfl
  rw [ef]
  dsimp only
  rw [wT_seq]
  apply wT_for
  apply wR_eq hs
  refine ⟨rfl, ?_⟩
  dsimp only
  apply h.mono
  · intro F A h
    dsimp only
    rw [wT_skip]
    dsimp only
    rw [wT_skip]
    dsimp only
    rw [wT_skip]
    dsimp only
    rw [wT_skip]
    exact h
  · exact fun _ _ h => h
  · exact fun _ _ h => h
  · exact fun _ _ h => h
  · exact fun _ _ _ h => h
/-- one part -/
theorem rs_part {n : Nat} {A : AH} {xs ps : List D} {w : String} {lv : Nat} {ar inn : Int} {L : En} {p : Pr} {y : Option D} {P : PX} (ih : RS N p n) (hL : A[lv]? = some (.dct (lvD L)))
    (h : wT (forL (asgT (.nm 6)) [] (fun F' A' => sx (callF pg N n) N (.seq (.ex (.call "raise_levels" (.cons (.var 6) (.cons (.var 1) (.cons (.var 5) .nil))))) .skip) F' A') ps (rsF xs lv ar w none (some (.int inn)) (some (pD p))) (A.set lv (.dct (lvD (rise p L inn))))) P) :
    wT (forL (asgT (.nm 6)) [] (fun F' A' => sx (callF pg N n) N (.seq (.ex (.call "raise_levels" (.cons (.var 6) (.cons (.var 1) (.cons (.var 5) .nil))))) .skip) F' A') (pD p :: ps) (rsF xs lv ar w none (some (.int inn)) y) A) P := by
  apply forT_cons (F' := rsF xs lv ar w none (some (.int inn)) (some (pD p))) rfl
  rw [wT_seq, wT_ex]
  apply wE_cl
  rw [wR_cons, wR_v6, wR_cons, wR_v1, wR_cons, wR_v5, wR_nil]
  apply wE_of
  apply (ih lv inn L A hL).mono
  intro r A' e
  rw [e]
  dsimp only
  rw [wT_skip]
  exact h
theorem raise_spec : ∀ (p : Pr) (n : Nat), ph p ≤ 50 → ph p < n → RS N p n
  | p, 0, _, h => by omega
  | .skip, n + 1, hb, h => fun lv ar L A hL => by
    have e : callF pg N (n + 1) "raise_levels" [pD .skip, .ref lv, .int ar] A = .ok .non A := by kernel_rfl
    rw [e, wR_ok]
    exact (set_self hL).symm
  | .set x e, n + 1, hb, h => fun lv ar L A hL => by
    have h : eh e + 1 < n + 1 := h
    have hb : eh e + 1 ≤ 50 := hb
    apply wR_of
    rw [wE_call (fd := fn_12) rfl rfl]
    apply rs_word (xs := [.str "set", .str x.s, eD e]) (w := "set") rfl
    show wT (sx (callF pg N n) N (.seq (.ite (.cmp .eq (.var 3) (.str "set")) (.seq (.set 4 (.bi "max" (.cons (.var 2) (.cons (.call "expression_level" (.cons (.ix (.var 0) (.int 2)) (.cons (.var 1) (.cons (.tup .nil) .nil)))) .nil)))) (.seq (.sub (.var 1) (.ix (.var 0) (.int 1)) (.bi "max" (.cons (.ix (.var 1) (.ix (.var 0) (.int 1))) (.cons (.var 4) .nil)))) .skip)) _) .skip) (rsF [.str "set", .str x.s, eD e] lv ar "set" none none none) A) _
    rw [wT_seq, wT_word rfl, if_pos rfl, wT_seq]
    apply wT_setR
    rw [wR_bi, wR_cons, wR_v2, wR_cons, wR_cl, wR_cons, wR_tix (x := eD e) rfl rfl, wR_cons, wR_v1, wR_cons, wR_tup, wR_nil, wR_ifok (sz1 (by simp)), wR_nil]
    apply (xl_spec hL e n [] (by omega) (by simp; omega)).mono
    intro r A' hh
    rw [hh.1, hh.2, wR_nil, max_eq, wR_ok]
    have ef : fset (rsF [.str "set", .str x.s, eD e] lv ar "set" none none none) 4 (.int (max ar (lvl L e))) = rsF [.str "set", .str x.s, eD e] lv ar "set" (some (.int (max ar (lvl L e)))) none none := rfl
    rw [ef]
    dsimp only
    rw [wT_seq]
    apply wT_sub
    rw [wR_bi, wR_cons, wR_ix, wR_v1, wR_tix (x := .str x.s) rfl rfl, ix_lv hL, wR_some, wR_cons, wR_v4, wR_nil, max_eq, wR_ok, wR_v1, wR_tix (x := .str x.s) rfl rfl]
    refine ⟨_, set_lv hL x _, ?_⟩
    dsimp only
    rw [wT_skip]
    dsimp only
    rw [wT_skip]
    rfl
  | .thn p q, n + 1, hb, h => fun lv ar L A hL => by
    have h : max (ph p) (ph q) + 1 < n + 1 := h
    have hb : max (ph p) (ph q) + 1 ≤ 50 := hb
    have ihp := raise_spec p n (by omega) (by omega)
    have ihq := raise_spec q n (by omega) (by omega)
    apply wR_of
    rw [wE_call (fd := fn_12) rfl rfl]
    apply rs_word (xs := [.str "then", pD p, pD q]) (w := "then") rfl
    show wT (sx (callF pg N n) N (.seq (.ite (.cmp .eq (.var 3) (.str "set")) _ (.seq (.ite (.cmp .eq (.var 3) (.str "then")) (.seq (.ex (.call "raise_levels" (.cons (.ix (.var 0) (.int 1)) (.cons (.var 1) (.cons (.var 2) .nil))))) (.seq (.ex (.call "raise_levels" (.cons (.ix (.var 0) (.int 2)) (.cons (.var 1) (.cons (.var 2) .nil))))) .skip)) _) .skip)) .skip) (rsF [.str "then", pD p, pD q] lv ar "then" none none none) A) _
    rw [wT_seq, wT_word rfl, if_neg (by decide), wT_seq, wT_word rfl, if_pos rfl, wT_seq, wT_ex]
    apply wE_cl
    rw [wR_cons, wR_tix (x := pD p) rfl rfl, wR_cons, wR_v1, wR_cons, wR_v2, wR_nil]
    apply wE_of
    apply (ihp lv ar L A hL).mono
    intro r A' e
    rw [e]
    dsimp only
    rw [wT_seq, wT_ex]
    apply wE_cl
    rw [wR_cons, wR_tix (x := pD q) rfl rfl, wR_cons, wR_v1, wR_cons, wR_v2, wR_nil]
    apply wE_of
    apply (ihq lv ar _ _ (set_at hL)).mono
    intro r A' e
    rw [e]
    dsimp only
    rw [wT_skip]
    dsimp only
    rw [wT_skip]
    dsimp only
    rw [wT_skip]
    rw [List.set_set]
    rfl
  | .iff e p q, n + 1, hb, h => fun lv ar L A hL => by
    have h : max (eh e) (max (ph p) (ph q)) + 1 < n + 1 := h
    have hb : max (eh e) (max (ph p) (ph q)) + 1 ≤ 50 := hb
    have ihp := raise_spec p n (by omega) (by omega)
    have ihq := raise_spec q n (by omega) (by omega)
    apply wR_of
    rw [wE_call (fd := fn_12) rfl rfl]
    apply rs_word (xs := [.str "if", eD e, pD p, pD q]) (w := "if") rfl
    apply rs_inn (ps := [pD p, pD q]) (.inl rfl) rfl (by omega) (by omega) hL (by kernel_rfl)
    apply rs_part ihp hL
    apply rs_part ihq (set_at hL)
    apply forT_nil
    dsimp only
    rw [List.set_set]
    rfl
  | .whl e p, n + 1, hb, h => fun lv ar L A hL => by
    have h : max (eh e) (ph p) + 1 < n + 1 := h
    have hb : max (eh e) (ph p) + 1 ≤ 50 := hb
    have ihp := raise_spec p n (by omega) (by omega)
    apply wR_of
    rw [wE_call (fd := fn_12) rfl rfl]
    apply rs_word (xs := [.str "while", eD e, pD p]) (w := "while") rfl
    apply rs_inn (ps := [pD p]) (.inr rfl) rfl (by omega) (by omega) hL (by kernel_rfl)
    apply rs_part ihp hL
    apply forT_nil
    rfl
end
end K29

/-! ## K29F -/
/-! K29F: least levels, found. -/
namespace K29
open Ev
theorem eqv_int {i j : Int} : PySem.PyData.eqv (.int i) (.int j) = decide (i = j) := by
  have h := eq_int (A := []) (i := i) (j := j)
  have h2 : opC [] .eq (.int i) (.int j) = some (PySem.PyData.eqv (.int i) (.int j)) := by kernel_rfl
  rw [h2] at h
  exact Option.some.inj h
theorem eqH_lv {kb : List (D × D)} {k : D} {i j : Int} {r : List (D × D)} (h : dget kb k = some (.int j)) : eqH kb ((k, .int i) :: r) = match eqH kb r with | some b => some (decide (i = j) && b) | none => none := by
  show (match dget kb k with
    | none => some false
    | some w => match toPd (.int i), toPd w with
      | some p, some q => if PySem.SeqAt.shaped p && PySem.SeqAt.shaped q then (match eqH kb r with
        | some b => some (PySem.PyData.eqv p q && b)
        | none => none) else none
      | _, _ => none) = _
  rw [h]
  have hsh : (PySem.SeqAt.shaped (.int i) && PySem.SeqAt.shaped (.int j)) = true := rfl
  show (if PySem.SeqAt.shaped (.int i) && PySem.SeqAt.shaped (.int j) then (match eqH kb r with
        | some b => some (PySem.PyData.eqv (.int i) (.int j) && b)
        | none => none) else none) = _
  rw [if_pos hsh, eqv_int]
theorem eqK_lv (V U : En) : eqK (lvD V) (lvD U) = some (decide (V .a = U .a) && (decide (V .b = U .b) && (decide (V .c = U .c) && (decide (V .d = U .d) && true)))) := by
  show eqH (lvD U) (lvD V) = _
  rw [show lvD V = [(.str "a", .int (V .a)), (.str "b", .int (V .b)), (.str "c", .int (V .c)), (.str "d", .int (V .d))] from rfl]
  rw [eqH_lv (k := .str "a") (dget_lv U .a), eqH_lv (k := .str "b") (dget_lv U .b), eqH_lv (k := .str "c") (dget_lv U .c), eqH_lv (k := .str "d") (dget_lv U .d)]
  rfl
theorem ne_lv {A : AH} {a b : Nat} {V U : En} (h1 : A[a]? = some (.dct (lvD V))) (h2 : A[b]? = some (.dct (lvD U))) : ∃ r, opC A .ne (.ref a) (.ref b) = some r ∧ (r = true ↔ V ≠ U) := by
  have hd : ∀ {x : Nat} {W : En}, A[x]? = some (.dct (lvD W)) → dctO A (.ref x) = some (lvD W) := fun h => by simp [dctO, h]
  refine ⟨!(decide (V .a = U .a) && (decide (V .b = U .b) && (decide (V .c = U .c) && (decide (V .d = U .d) && true)))), ?_, ?_⟩
  · show (eqO A (.ref a) (.ref b)).map (!·) = _
    have : eqO A (.ref a) (.ref b) = eqK (lvD V) (lvD U) := by
      unfold eqO
      rw [hd h1, hd h2]
    rw [this, eqK_lv]
    rfl
  · constructor
    · intro h e
      subst e
      simp at h
    · intro h
      simp only [Bool.not_eq_true']
      cases e : (decide (V .a = U .a) && (decide (V .b = U .b) && (decide (V .c = U .c) && (decide (V .d = U .d) && true)))) with
      | false => rfl
      | true =>
        simp only [Bool.and_eq_true, decide_eq_true_eq, and_true] at e
        exact absurd (funext fun x => by cases x <;> simp [e]) h
theorem dict_eq {A : AH} {a : Nat} {kvs : List (D × D)} (h : A[a]? = some (.dct kvs)) : biF A "dict" [.ref a] = .ok (.ref A.length) (A ++ [.dct kvs]) := by
  show biDict A [.ref a] = _
  have : dctL A a = some kvs := by simp [dctL, h]
  simp only [biDict, this]
section
variable {N : Nat} {A : AH} {lv : Nat} {L : En}
/-- least_levels -/
theorem least_spec (hN : 20 ≤ N) (p : Pr) (n : Nat) (hp : ph p ≤ 50) (hn : ph p < n) (hL : A[lv]? = some (.dct (lvD L))) (h3 : bnd3 L) : wR (callF pg N (n + 1) "least_levels" [pD p, .ref lv] A)
    (fun r A' => ∃ f B, r = .ref f ∧ A'[f]? = some (.dct (lvD B)) ∧ A[f]? = none ∧ Kp A A' ∧ bnd3 B ∧ le L B ∧ rise p B 0 = B ∧ ∀ M, le L M → safe M p 0 → le B M) := by
  apply wR_of
  rw [wE_call (fd := fn_11) rfl rfl]
  show wT (sx _ N fn_11.body [some (pD p), some (.ref lv), none, none, none] A) _
  rw [fn_11, wT_seq]
  apply wT_setR
  rw [wR_bi, wR_cons, wR_v1, wR_nil, dict_eq hL, wR_ok]
  have ef : fset [some (pD p), some (.ref lv), none, none, none] 2 (.ref A.length) = [some (pD p), some (.ref lv), some (.ref A.length), none, none] := rfl
  rw [ef]
  dsimp only
  rw [wT_seq]
  apply wT_setR
  rw [wR_bl]
  have ef2 : fset [some (pD p), some (.ref lv), some (.ref A.length), none, none] 3 (.bl true) = [some (pD p), some (.ref lv), some (.ref A.length), some (.bl true), none] := rfl
  rw [ef2]
  dsimp only
  rw [wT_seq]
  apply wT_whl
  apply whlT (fun k F A' => ∃ M c bf, F = [some (pD p), some (.ref lv), some (.ref A.length), some (.bl c), bf] ∧ A'[A.length]? = some (.dct (lvD M)) ∧ Kp A A' ∧ bnd3 M ∧ le L M ∧ (∀ M', le L M' → safe M' p 0 → le M M') ∧
    (c = false → rise p M 0 = M ∧ k = 0) ∧ (c = true → k = (13 - tot M).toNat + 1)) ?_ N ((13 - tot L).toNat + 1)
  · have := tot_3 h3
    omega
  · exact ⟨L, true, none, rfl, new_at, Kp.refl.app, h3, .refl, fun M' h _ => h, fun h => (by cases h), fun _ => rfl⟩
  · rintro k F A' ⟨M, c, bf, rfl, hM, kp, m3, lm, least, c0, c1⟩
    rw [wR_tru, wR_v3, truth_bl, wR_some]
    cases c with
    | false =>
      rw [if_neg (by decide)]
      dsimp only
      rw [wT_seq]
      apply wT_retR
      rw [wR_v2]
      exact ⟨A.length, M, rfl, hM, new_none, kp, m3, lm, (c0 rfl).1, least⟩
    | true =>
      rw [if_pos rfl, wT_seq]
      apply wT_setR
      rw [wR_bi, wR_cons, wR_v2, wR_nil, dict_eq hM, wR_ok]
      have ef3 : fset [some (pD p), some (.ref lv), some (.ref A.length), some (.bl true), bf] 4 (.ref A'.length) = [some (pD p), some (.ref lv), some (.ref A.length), some (.bl true), some (.ref A'.length)] := rfl
      rw [ef3]
      dsimp only
      rw [wT_seq, wT_ex]
      apply wE_cl
      rw [wR_cons, wR_v0, wR_cons, wR_v2, wR_cons, wR_int, wR_nil]
      apply wE_of
      have hM2 : (A' ++ [AO.dct (lvD M)])[A.length]? = some (.dct (lvD M)) := app_at hM
      apply (raise_spec p n hp hn A.length 0 M _ hM2).mono
      intro r A2 e2
      rw [e2]
      generalize hM' : rise p M 0 = M'
      have hne : A.length ≠ A'.length := fun e => by
        rw [e] at hM
        rw [new_none] at hM
        cases hM
      have g1 : ((A' ++ [AO.dct (lvD M)]).set A.length (.dct (lvD M')))[A.length]? = some (.dct (lvD M')) := set_at hM2
      have g2 : ((A' ++ [AO.dct (lvD M)]).set A.length (.dct (lvD M')))[A'.length]? = some (.dct (lvD M)) := set_ne new_at hne
      have kp2 : Kp A ((A' ++ [AO.dct (lvD M)]).set A.length (.dct (lvD M'))) := kp.app.set new_none
      dsimp only
      generalize (A' ++ [AO.dct (lvD M)]).set A.length (.dct (lvD M')) = A3 at g1 g2 kp2
      rw [wT_seq]
      apply wT_setR
      obtain ⟨r, hr, hiff⟩ := ne_lv g1 g2
      rw [wR_cmp, wR_v2, wR_v4, hr]
      show wR (ofO (some (D.bl r)) A3) _
      rw [wR_some]
      have ef4 : fset [some (pD p), some (.ref lv), some (.ref A.length), some (.bl true), some (.ref A'.length)] 3 (.bl r) = [some (pD p), some (.ref lv), some (.ref A.length), some (.bl r), some (.ref A'.length)] := rfl
      rw [ef4]
      dsimp only
      rw [wT_skip]
      have up : le M M' := by rw [← hM']; exact rise_up p M 0
      have m3' : bnd3 M' := by rw [← hM']; exact rise_3 p M 0 m3 (by decide) (by decide)
      have lst' : ∀ X, le L X → safe X p 0 → le M' X := fun X h1 h2 => by rw [← hM']; exact rise_least p M 0 0 (least X h1 h2) (Int.le_refl 0) h2
      have hk := c1 rfl
      have t1 := tot_3 m3
      have t2 := tot_3 m3'
      cases r with
      | true =>
        have hne' := hiff.mp rfl
        have := tot_lt up hne'
        exact ⟨(13 - tot M').toNat + 1, by omega, M', true, _, rfl, g1, kp2, m3', lm.trans up, lst', fun h => (by cases h), fun _ => rfl⟩
      | false =>
        have e : M' = M := by
          by_cases z : M' = M
          · exact z
          · exact absurd (hiff.mpr z) (by decide)
        exact ⟨0, by omega, M', false, _, rfl, g1, kp2, m3', lm.trans up, lst', fun _ => ⟨by rw [e, hM', e], rfl⟩, fun h => by cases h⟩
end
end K29

/-! ## K29G -/
/-! K29G: runs with fuel. -/
namespace K29
open Ev
def runO (k : Nat) (f : Int) : AO := .ins "SecretRun" [("known", .ref k), ("fuel", .int f)]
structure St (A : AH) (s k : Nat) (V : En) (f : Int) : Prop where
  s : A[s]? = some (runO k f)
  k : A[k]? = some (.dct (lvD V))
theorem St.ne {A : AH} {s k : Nat} {V : En} {f : Int} (h : St A s k V f) : s ≠ k := fun e => by
  have h1 := h.s
  rw [e, h.k] at h1
  cases h1
theorem St.kp {A B : AH} {s k : Nat} {V : En} {f : Int} (h : St A s k V f) (kp : Kp A B) : St B s k V f := ⟨kp _ _ h.s, kp _ _ h.k⟩
def Fm (s k : Nat) (A A' : AH) : Prop := ∀ (i : Nat) (o : AO), i ≠ s → i ≠ k → A[i]? = some o → A'[i]? = some o
theorem Fm.refl {s k : Nat} {A : AH} : Fm s k A A := fun _ _ _ _ h => h
theorem Fm.trans {s k : Nat} {A B C : AH} (a : Fm s k A B) (b : Fm s k B C) : Fm s k A C := fun i o h1 h2 h => b i o h1 h2 (a i o h1 h2 h)
theorem Fm.kp {s k : Nat} {A B : AH} (a : Kp A B) : Fm s k A B := fun i o _ _ h => a i o h
theorem Fm.sets {s k : Nat} {A : AH} {o : AO} : Fm s k A (A.set s o) := fun i o' h1 h2 h => by rw [List.getElem?_set_ne (Ne.symm h1)]; exact h
theorem Fm.setk {s k : Nat} {A : AH} {o : AO} : Fm s k A (A.set k o) := fun i o' h1 h2 h => by rw [List.getElem?_set_ne (Ne.symm h2)]; exact h
section
variable {A : AH} {s k : Nat} {V : En} {f : Int}
theorem fuel_at (h : A[s]? = some (runO k f)) : fldD A "SecretRun" "fuel" (.ref s) = some (.int f) := by simp [fldD, h, runO, fget]
theorem known_at (h : A[s]? = some (runO k f)) : fldD A "SecretRun" "known" (.ref s) = some (.ref k) := by simp [fldD, h, runO, fget]
theorem fuel_set (h : A[s]? = some (runO k f)) (g : Int) : fstD A "SecretRun" "fuel" (.ref s) (.int g) = some (A.set s (runO k g)) := by simp [fstD, h, runO, fput]
theorem go_me (h : A[s]? = some (runO k f)) : isMe A "SecretRun" "go" (.ref s) = true := by simp [isMe, h, runO, fget]
end
section
variable {N : Nat} {s k : Nat}
def GoS (N s k : Nat) (f : Nat) : Prop := ∀ (p : Pr) (V : En) (A : AH) (n : Nat), pok p → Eok V → ph p ≤ 50 → f + 60 < n → St A s k V f →
  wE (callF pg N n "SecretRun.go" [.ref s, pD p] A) (fun r A' => r = .non ∧ ∃ V' f', Big p V V' ∧ f' < f ∧ St A' s k V' (f' : Nat) ∧ Fm s k A A') (fun x A' => x = ⟨"Tired", []⟩ ∧ Fm s k A A')
/-- self.go(x) -/
theorem go_call {n : Nat} {A : AH} {f : Nat} {V : En} {q : Pr} {F : Fr} {e : Ex} {P : D → AH → Prop} {X : Xc → AH → Prop} (hF : F[0]? = some (some (.ref s))) (he : wR (ev (callF pg N n) e F A) (fun d A' => d = pD q ∧ Kp A A')) (hg : GoS N s k f) (hq : pok q) (hV : Eok V) (hh : ph q ≤ 50) (hn : f + 60 < n) (hS : St A s k V f)
    (h : ∀ A' V' f', Big q V V' → f' < f → St A' s k V' (f' : Nat) → Fm s k A A' → P .non A') (hx : ∀ A', Fm s k A A' → X ⟨"Tired", []⟩ A') : wE (ev (callF pg N n) (.mc "SecretRun" "go" "SecretRun.go" (.var 0) (.cons e .nil)) F A) P X := by
  apply wE_mc
  rw [wR_var hF]
  refine ⟨go_me hS.s, ?_⟩
  rw [wR_cons]
  apply he.mono
  intro d A' hd
  rw [hd.1, wR_nil]
  have kp := hd.2
  apply (hg q V A' n hq hV hh hn (hS.kp kp)).mono
  · rintro r A2 ⟨er, V', f', b, lt, st, fm⟩
    rw [er]
    exact h A2 V' f' b lt st ((Fm.kp kp).trans fm)
  · rintro x A2 ⟨ex, fm⟩
    rw [ex]
    exact hx A2 ((Fm.kp kp).trans fm)
theorem tixR {cl : Cl0} {F : Fr} {A : AH} {i : Nat} {j : Int} {xs : List D} {d : D} (h : F[i]? = some (some (.tup xs))) (h2 : L2.atI xs j = some d) : wR (ev cl (.ix (.var i) (.int j)) F A) (fun d' A' => d' = d ∧ Kp A A') := by
  rw [wR_tix h h2]
  exact ⟨rfl, .refl⟩
/-- the value of the test -/
theorem test_R {n : Nat} {A : AH} {f : Int} {V : En} {F : Fr} {e : Xp} {xs : List D} {P : D → AH → Prop} (hF0 : F[0]? = some (some (.ref s))) (hF : F[1]? = some (some (.tup xs))) (hx : L2.atI xs 1 = some (eD e)) (hV : Eok V) (he : eok e) (hn : eh e + 1 < n) (hS : St A s k V f)
    (h : ∀ A', Kp A A' → P (.bl (decide (val V e ≠ 0))) A') : wR (ev (callF pg N n) (.cmp .ne (.call "reckoned" (.cons (.ix (.var 1) (.int 1)) (.cons (.fld (.var 0) "SecretRun" "known") .nil))) (.int 0)) F A) P := by
  rw [wR_cmp, wR_cl, wR_cons, wR_tix hF hx, wR_cons, wR_fld, wR_var hF0, known_at hS.s, wR_some, wR_nil]
  apply (rk_spec hV e n A hn he hS.k).mono
  intro r A' hh
  rw [hh.1, wR_int]
  have e2 : (opC A' .ne (.int (val V e)) (.int 0)).map D.bl = some (.bl (decide (val V e ≠ 0))) := by
    show ((opC A' .eq (.int (val V e)) (.int 0)).map (!·)).map D.bl = _
    rw [eq_int]
    simp
  rw [e2, wR_some]
  exact h A' hh.2
theorem go_spec : ∀ f : Nat, GoS N s k f := by
  intro f
  induction f using Nat.strongRecOn with
  | ind f ih =>
    intro p V A n hp hV hb hn hS
    obtain ⟨n, rfl⟩ : ∃ m, n = m + 1 := ⟨n - 1, by omega⟩
    rw [wE_call (fd := fn_14_1) rfl rfl]
    show wT (sx _ N fn_14_1.body [some (.ref s), some (pD p), none] A) _
    show wT (sx _ N (.seq (.ite (.cmp .eq (.fld (.var 0) "SecretRun" "fuel") (.int 0)) (.seq (.rs0 "Tired") .skip) .skip) (.seq (.fau (.var 0) "SecretRun" "fuel" .sub (.int 1)) (.seq (.set 2 (.ix (.var 1) (.int 0))) (drp 3 fn_14_1.body)))) _ A) _
    rw [wT_seq]
    apply wT_if
    rw [wR_cmp, wR_fld, wR_v0, fuel_at hS.s, wR_some, wR_int, eq_int]
    show wR (ofO (some (D.bl (decide ((f : Int) = 0)))) A) _
    rw [wR_some, truth_bl, wR_some]
    by_cases h0 : f = 0
    · subst h0
      rw [if_pos (by decide), wT_seq, wT_rs0]
      exact ⟨rfl, .refl⟩
    rw [if_neg (by simp; omega), wT_skip]
    dsimp only
    rw [wT_seq]
    apply wT_fau
    rw [wR_v0]
    refine ⟨_, fuel_at hS.s, ?_⟩
    rw [wR_int]
    obtain ⟨g, rfl⟩ : ∃ g, f = g + 1 := ⟨f - 1, by omega⟩
    have hg : ((g + 1 : Nat) : Int) - 1 = (g : Nat) := by omega
    refine ⟨.int (g : Nat), by show some (D.int (((g + 1 : Nat) : Int) - 1)) = _; rw [hg], _, fuel_set hS.s _, ?_⟩
    have hS1 : St (A.set s (runO k (g : Nat))) s k V (g : Nat) := ⟨set_at hS.s, set_ne hS.k hS.ne⟩
    have fm1 : Fm s k A (A.set s (runO k (g : Nat))) := Fm.sets
    generalize A.set s (runO k (g : Nat)) = A1 at hS1 fm1
    dsimp only
    rw [wT_seq]
    apply wT_setR
    have ihg := ih g (by omega)
    have setw : ∀ (w : String), fset [some (.ref s), some (pD p), none] 2 (.str w) = [some (.ref s), some (pD p), some (.str w)] := fun _ => rfl
    -- the words
    have words : ∀ {w : String} {P : PX}, wT (sx (callF pg N n) N (.seq (.ite (.cmp .eq (.var 2) (.str "set")) (.seq (.sub (.fld (.var 0) "SecretRun" "known") (.ix (.var 1) (.int 1)) (.call "reckoned" (.cons (.ix (.var 1) (.int 2)) (.cons (.fld (.var 0) "SecretRun" "known") .nil)))) .skip)
        (.seq (.ite (.cmp .eq (.var 2) (.str "then")) (.seq (.ex (.mc "SecretRun" "go" "SecretRun.go" (.var 0) (.cons (.ix (.var 1) (.int 1)) .nil))) (.seq (.ex (.mc "SecretRun" "go" "SecretRun.go" (.var 0) (.cons (.ix (.var 1) (.int 2)) .nil))) .skip))
        (.seq (.ite (.cmp .eq (.var 2) (.str "if")) (.seq (.ex (.mc "SecretRun" "go" "SecretRun.go" (.var 0) (.cons (.ite (.cmp .ne (.call "reckoned" (.cons (.ix (.var 1) (.int 1)) (.cons (.fld (.var 0) "SecretRun" "known") .nil))) (.int 0)) (.ix (.var 1) (.int 2)) (.ix (.var 1) (.int 3))) .nil))) .skip)
        (.seq (.ite (.and (.cmp .eq (.var 2) (.str "while")) (.cmp .ne (.call "reckoned" (.cons (.ix (.var 1) (.int 1)) (.cons (.fld (.var 0) "SecretRun" "known") .nil))) (.int 0))) (.seq (.ex (.mc "SecretRun" "go" "SecretRun.go" (.var 0) (.cons (.ix (.var 1) (.int 2)) .nil))) (.seq (.ex (.mc "SecretRun" "go" "SecretRun.go" (.var 0) (.cons (.var 1) .nil))) .skip)) .skip) .skip)) .skip)) .skip)) .skip)
        [some (.ref s), some (pD p), some (.str w)] A1) P → wT (sx (callF pg N n) N (drp 3 fn_14_1.body) [some (.ref s), some (pD p), some (.str w)] A1) P := fun h => h
    cases p with
    | skip =>
      rw [wR_tix (x := .str "skip") rfl rfl, setw]
      apply words
      rw [wT_seq, wT_word rfl, if_neg (by decide), wT_seq, wT_word rfl, if_neg (by decide), wT_seq, wT_word rfl, if_neg (by decide), wT_seq]
      apply wT_if
      rw [wR_and, wR_cmp, wR_v2, wR_str, eq_str]
      show wR (ofO (some (D.bl false)) A1) _
      rw [wR_some, truth_bl, wR_some, if_neg (by decide), truth_bl, wR_some, if_neg (by decide), wT_skip]
      dsimp only
      rw [wT_skip]
      dsimp only
      rw [wT_skip]
      dsimp only
      rw [wT_skip]
      dsimp only
      rw [wT_skip]
      exact ⟨rfl, V, g, .skip, by omega, hS1, fm1⟩
    | set x e =>
      have hb : eh e + 1 ≤ 50 := hb
      rw [wR_tix (x := .str "set") rfl rfl, setw]
      apply words
      rw [wT_seq, wT_word rfl, if_pos rfl, wT_seq]
      apply wT_sub
      rw [wR_cl, wR_cons, wR_tix (x := eD e) rfl rfl, wR_cons, wR_fld, wR_v0, known_at hS1.s, wR_some, wR_nil]
      apply (rk_spec hV e n A1 (by omega) hp hS1.k).mono
      intro r A2 hh
      rw [hh.1]
      have hS2 := hS1.kp hh.2
      have fm2 := fm1.trans (Fm.kp hh.2)
      rw [wR_fld, wR_v0, known_at hS2.s, wR_some, wR_tix (x := .str x.s) rfl rfl]
      refine ⟨_, set_lv hS2.k x _, ?_⟩
      dsimp only
      rw [wT_skip]
      dsimp only
      rw [wT_skip]
      exact ⟨rfl, _, g, .set, by omega, ⟨set_ne hS2.s hS2.ne.symm, set_at hS2.k⟩, fm2.trans Fm.setk⟩
    | thn p q =>
      have hb : max (ph p) (ph q) + 1 ≤ 50 := hb
      rw [wR_tix (x := .str "then") rfl rfl, setw]
      apply words
      rw [wT_seq, wT_word rfl, if_neg (by decide), wT_seq, wT_word rfl, if_pos rfl, wT_seq, wT_ex]
      refine go_call (q := p) (f := g) (V := V) rfl (tixR (d := pD p) rfl rfl) ihg hp.1 hV (by omega) (by omega) hS1 ?_ ?_
      · intro A2 V2 f2 b2 lt2 hS2 fm2
        dsimp only
        rw [wT_seq, wT_ex]
        refine go_call (q := q) (f := f2) (V := V2) rfl (tixR (d := pD q) rfl rfl) (ih f2 (by omega)) hp.2 (b2.ok hp.1 hV) (by omega) (by omega) hS2 ?_ ?_
        · intro A3 V3 f3 b3 lt3 hS3 fm3
          dsimp only
          rw [wT_skip]
          dsimp only
          rw [wT_skip]
          dsimp only
          rw [wT_skip]
          exact ⟨rfl, V3, f3, .thn b2 b3, by omega, hS3, (fm1.trans fm2).trans fm3⟩
        · intro A3 fm3
          exact ⟨rfl, (fm1.trans fm2).trans fm3⟩
      · intro A2 fm2
        exact ⟨rfl, fm1.trans fm2⟩
    | iff e p q =>
      have hb : max (eh e) (max (ph p) (ph q)) + 1 ≤ 50 := hb
      rw [wR_tix (x := .str "if") rfl rfl, setw]
      apply words
      rw [wT_seq, wT_word rfl, if_neg (by decide), wT_seq, wT_word rfl, if_neg (by decide), wT_seq, wT_word rfl, if_pos rfl, wT_seq, wT_ex]
      by_cases hc : val V e = 0
      · refine go_call (q := q) (f := g) (V := V) rfl ?_ ihg hp.2.2 hV (by omega) (by omega) hS1 ?_ ?_
        rotate_left
        · intro A2 V2 f2 b2 lt2 hS2 fm2
          dsimp only
          rw [wT_skip]
          dsimp only
          rw [wT_skip]
          dsimp only
          rw [wT_skip]
          dsimp only
          rw [wT_skip]
          exact ⟨rfl, V2, f2, .no hc b2, by omega, hS2, fm1.trans fm2⟩
        · intro A2 fm2
          exact ⟨rfl, fm1.trans fm2⟩
        · rw [wR_ite]
          apply test_R (xs := [.str "if", eD e, pD p, pD q]) rfl rfl rfl hV hp.1 (by omega) hS1
          intro A2 k2
          rw [truth_bl, wR_some, if_neg (by simp [hc]), wR_tix (x := pD q) rfl rfl]
          exact ⟨rfl, k2⟩
      · refine go_call (q := p) (f := g) (V := V) rfl ?_ ihg hp.2.1 hV (by omega) (by omega) hS1 ?_ ?_
        rotate_left
        · intro A2 V2 f2 b2 lt2 hS2 fm2
          dsimp only
          rw [wT_skip]
          dsimp only
          rw [wT_skip]
          dsimp only
          rw [wT_skip]
          dsimp only
          rw [wT_skip]
          exact ⟨rfl, V2, f2, .yes hc b2, by omega, hS2, fm1.trans fm2⟩
        · intro A2 fm2
          exact ⟨rfl, fm1.trans fm2⟩
        · rw [wR_ite]
          apply test_R (xs := [.str "if", eD e, pD p, pD q]) rfl rfl rfl hV hp.1 (by omega) hS1
          intro A2 k2
          rw [truth_bl, wR_some, if_pos (by simp [hc]), wR_tix (x := pD p) rfl rfl]
          exact ⟨rfl, k2⟩
    | whl e p =>
      have hb' : max (eh e) (ph p) + 1 ≤ 50 := hb
      rw [wR_tix (x := .str "while") rfl rfl, setw]
      apply words
      rw [wT_seq, wT_word rfl, if_neg (by decide), wT_seq, wT_word rfl, if_neg (by decide), wT_seq, wT_word rfl, if_neg (by decide), wT_seq]
      apply wT_if
      rw [wR_and, wR_cmp, wR_v2, wR_str, eq_str]
      show wR (ofO (some (D.bl true)) A1) _
      rw [wR_some, truth_bl, wR_some, if_pos rfl]
      apply test_R (xs := [.str "while", eD e, pD p]) rfl rfl rfl hV hp.1 (by omega) hS1
      intro A2 k2
      have hS2 := hS1.kp k2
      have fm2 := fm1.trans (Fm.kp k2)
      rw [truth_bl, wR_some]
      by_cases hc : val V e = 0
      · rw [if_neg (by simp [hc]), wT_skip]
        dsimp only
        rw [wT_skip]
        dsimp only
        rw [wT_skip]
        dsimp only
        rw [wT_skip]
        dsimp only
        rw [wT_skip]
        exact ⟨rfl, V, g, .fin hc, by omega, hS2, fm2⟩
      · rw [if_pos (by simp [hc]), wT_seq, wT_ex]
        refine go_call (q := p) (f := g) (V := V) rfl (tixR (d := pD p) rfl rfl) ihg hp.2 hV (by omega) (by omega) hS2 ?_ ?_
        · intro A3 V3 f3 b3 lt3 hS3 fm3
          dsimp only
          rw [wT_seq, wT_ex]
          refine go_call (q := .whl e p) (f := f3) (V := V3) rfl ?_ (ih f3 (by omega)) hp (b3.ok hp.2 hV) hb (by omega) hS3 ?_ ?_
          rotate_left
          · intro A4 V4 f4 b4 lt4 hS4 fm4
            dsimp only
            rw [wT_skip]
            dsimp only
            rw [wT_skip]
            dsimp only
            rw [wT_skip]
            dsimp only
            rw [wT_skip]
            dsimp only
            rw [wT_skip]
            exact ⟨rfl, V4, f4, .turn hc b3 b4, by omega, hS4, (fm2.trans fm3).trans fm4⟩
          · intro A4 fm4
            exact ⟨rfl, (fm2.trans fm3).trans fm4⟩
          · rw [wR_v1]
            exact ⟨rfl, .refl⟩
        · intro A3 fm3
          exact ⟨rfl, fm2.trans fm3⟩
end
end K29

/-! ## K29H -/
/-! K29H: run_secret. -/
namespace K29
open Ev
section
variable {N : Nat}
theorem ins_known {A : AH} {s : Nat} {v : D} (h : A[s]? = some (.ins "SecretRun" [])) : fstD A "SecretRun" "known" (.ref s) v = some (A.set s (.ins "SecretRun" [("known", v)])) := by simp [fstD, h, fput]
theorem ins_fuel {A : AH} {s : Nat} {u v : D} (h : A[s]? = some (.ins "SecretRun" [("known", u)])) : fstD A "SecretRun" "fuel" (.ref s) v = some (A.set s (.ins "SecretRun" [("known", u), ("fuel", v)])) := by simp [fstD, h, fput]
theorem init_spec {A : AH} {va n : Nat} {kvs : List (D × D)} {f : Int} (h : A[va]? = some (.dct kvs)) : wR (callF pg N (n + 1) "SecretRun.__init__" [.ref A.length, .ref va, .int f] (A ++ [.ins "SecretRun" []])) (fun r A' => r = .non ∧ Kp A A' ∧ ∃ k, A'[A.length]? = some (runO k f) ∧ A'[k]? = some (.dct kvs) ∧ A[k]? = none) := by
  apply wR_of
  rw [wE_call (fd := fn_14_0) rfl rfl]
  show wT (sx _ N fn_14_0.body [some (.ref A.length), some (.ref va), some (.int f)] (A ++ [.ins "SecretRun" []])) _
  rw [fn_14_0, wT_seq]
  apply wT_fst
  have h1 : (A ++ [AO.ins "SecretRun" []])[va]? = some (.dct kvs) := app_at h
  rw [wR_bi, wR_cons, wR_v1, wR_nil, dict_eq h1, wR_ok, wR_v0]
  have hs : ((A ++ [AO.ins "SecretRun" []]) ++ [.dct kvs])[A.length]? = some (.ins "SecretRun" []) := app_at new_at
  refine ⟨_, ins_known hs, ?_⟩
  have hl : (A ++ [AO.ins "SecretRun" []]).length = A.length + 1 := by simp
  have hk : ((A ++ [AO.ins "SecretRun" []]) ++ [AO.dct kvs])[(A ++ [AO.ins "SecretRun" []]).length]? = some (.dct kvs) := new_at
  have hne : A.length ≠ (A ++ [AO.ins "SecretRun" []]).length := by rw [hl]; omega
  have kp0 : Kp A ((A ++ [AO.ins "SecretRun" []]) ++ [AO.dct kvs]) := (Kp.refl.app).app
  dsimp only
  rw [wT_seq]
  apply wT_fst
  rw [wR_v2, wR_v0]
  refine ⟨_, ins_fuel (set_at hs), ?_⟩
  dsimp only
  rw [wT_skip]
  refine ⟨rfl, (kp0.set new_none).set new_none, (A ++ [AO.ins "SecretRun" []]).length, set_at (set_at hs), set_ne (set_ne hk hne) hne, ?_⟩
  rw [hl]
  simp
theorem Fm.kpNew {s k : Nat} {A B C : AH} (h : Kp A B) (f : Fm s k B C) (hs : A[s]? = none) (hk : A[k]? = none) : Kp A C := fun i o e => f i o (fun z => by rw [z, hs] at e; cases e) (fun z => by rw [z, hk] at e; cases e) (h i o e)
theorem run_spec {A : AH} {va n f : Nat} {V : En} {p : Pr} (hp : pok p) (hV : Eok V) (hb : ph p ≤ 50) (hn : f + 60 < n) (hA : A[va]? = some (.dct (lvD V))) :
    wR (callF pg N (n + 1) "run_secret" [pD p, .ref va, .int (f : Nat)] A) (fun r A' => Kp A A' ∧ (r = .non ∨ ∃ k V', r = .ref k ∧ A[k]? = none ∧ A'[k]? = some (.dct (lvD V')) ∧ Big p V V')) := by
  obtain ⟨n, rfl⟩ : ∃ m, n = m + 1 := ⟨n - 1, by omega⟩
  apply wR_of
  rw [wE_call (fd := fn_15) rfl rfl]
  show wT (sx _ N fn_15.body [some (pD p), some (.ref va), some (.int (f : Nat)), none] A) _
  rw [fn_15, wT_seq]
  apply wT_setR
  apply wR_mk
  rw [wR_cons, wR_v1, wR_cons, wR_v2, wR_nil]
  apply (init_spec hA).mono
  rintro r A1 ⟨er, kp, k, hs, hk, hnk⟩
  refine ⟨er, ?_⟩
  have ef : fset [some (pD p), some (.ref va), some (.int (f : Nat)), none] 3 (.ref A.length) = [some (pD p), some (.ref va), some (.int (f : Nat)), some (.ref A.length)] := rfl
  rw [ef]
  have hS : St A1 A.length k V (f : Nat) := ⟨hs, hk⟩
  dsimp only
  rw [wT_seq, wT_tr, wT_seq, wT_ex]
  apply wE_mc
  rw [wR_v3]
  refine ⟨go_me hs, ?_⟩
  rw [wR_cons, wR_v0, wR_nil]
  apply (go_spec f p V A1 (n + 1) hp hV hb hn hS).mono
  · rintro r A2 ⟨er, V', f', b, lt, st, fm⟩
    dsimp only
    rw [wT_skip]
    dsimp only
    rw [wT_seq]
    apply wT_retR
    rw [wR_fld, wR_v3, known_at st.s, wR_some]
    exact ⟨Fm.kpNew kp fm new_none hnk, .inr ⟨k, V', rfl, hnk, st.k, b⟩⟩
  · rintro x A2 ⟨ex, fm⟩
    rw [ex]
    dsimp only
    have e : trR "Tired" ["TypeProblem", "Tired"] none (.ret .non) (.exc ⟨"Tired", []⟩ [some (pD p), some (.ref va), some (.int (f : Nat)), some (.ref A.length)] A2) = .rt .non A2 := by kernel_rfl
    apply wT_of_eq e
    exact ⟨Fm.kpNew kp fm new_none hnk, .inl rfl⟩
end
end K29

/-! ## K29I -/
/-! K29I: seen_at. -/
namespace K29
open Ev
theorem s_inj : ∀ {x y : Nm}, x.s = y.s → x = y := by
  intro x y h
  cases x <;> cases y <;> first | rfl | (exfalso; revert h; decide)
def snP (L : En) (v : Int) (V : En) (xs : List Nm) : List (D × D) := (xs.filter fun x => decide (L x ≤ v)).map fun x => (D.str x.s, D.int (V x))
def sn (L : En) (v : Int) (V : En) : List (D × D) := snP L v V [.a, .b, .c, .d]
theorem sn_agree {L : En} {v : Int} {V U : En} (h : agree L v V U) : sn L v V = sn L v U := by
  unfold sn snP
  apply List.map_congr_left
  intro x hx
  have := (List.mem_filter.mp hx).2
  rw [h x (by simpa using this)]
theorem dput_new {acc : List (D × D)} {x : Nm} {v : D} (h : ∀ kv ∈ acc, ∃ y : Nm, kv.1 = .str y.s ∧ y ≠ x) : dput acc (.str x.s) v = acc ++ [(.str x.s, v)] := by
  unfold dput
  rw [if_neg]
  intro q
  obtain ⟨kv, hm, e⟩ := List.any_eq_true.mp q
  obtain ⟨y, e1, hne⟩ := h kv hm
  rw [e1] at e
  have : y.s = x.s := by simpa [keyEq] using e
  exact hne (s_inj this)
section
variable {N : Nat} {A : AH} {va lv : Nat} {V L : En} {v : Int}
theorem sn_loop {cl : Cl0} (hv : A[va]? = some (.lk (lvD V))) (hl : A[lv]? = some (.dct (lvD L))) {P : List (D × D) → AH → Prop} : ∀ (xs : List Nm) (acc : List (D × D)), xs.Nodup → (∀ kv ∈ acc, ∃ y : Nm, kv.1 = .str y.s ∧ y ∉ xs) → acc.length + xs.length ≤ 1000 → P (acc ++ snP L v V xs) A →
    wR (dcL (asgT (.nm 3)) [(va, .lk (lvD V))] (dcB cl (.cons (.cmp .le (.ix (.var 1) (.var 3)) (.var 2)) .nil) (.var 3) (.ix (.var 0) (.var 3))) [some (.ref va), some (.ref lv), some (.int v), none] (xs.map fun x => D.str x.s) acc A) P
  | [], acc, _, _, _, p => dcL_nil (by simp [gOk, hv]) (by simpa [snP] using p)
  | x :: xs, acc, nd, hk, hz, p => by
    rw [List.map_cons]
    apply dcL_cons (F' := [some (.ref va), some (.ref lv), some (.int v), some (.str x.s)]) (by simp [gOk, hv]) rfl
    rw [wR_dcB]
    have nd := List.nodup_cons.mp nd
    rw [List.length_cons] at hz
    have e1 : evc cl (.cons (.cmp .le (.ix (.var 1) (.var 3)) (.var 2)) .nil) [some (.ref va), some (.ref lv), some (.int v), some (.str x.s)] A = .ok (decide (L x ≤ v)) A := by
      show tru (bnd (bnd (Res.ok (D.ref lv) A) fun x1 A1 => bnd (Res.ok (D.str x.s) A1) fun y A2 => ofO (opI A2 x1 y) A2) fun x1 A1 => bnd (Res.ok (D.int v) A1) fun y A2 => ofO ((opC A2 .le x1 y).map .bl) A2) = _
      simp only [bnd]
      rw [ix_lv hl]
      rfl
    rw [e1, wR_ok]
    have hix : opI A (.ref va) (.str x.s) = some (.int (V x)) := by
      have : dctL A va = some (lvD V) := by simp [dctL, hv]
      simp [opI, this, keyOk, dget_lv]
    by_cases hc : L x ≤ v
    · rw [if_pos (decide_eq_true hc), wR_v3, wR_ix, wR_v0, wR_v3, hix, wR_some]
      refine ⟨by rw [ev_sz]; omega, rfl, ?_⟩
      rw [dput_new fun kv hm => let ⟨y, e, ny⟩ := hk kv hm; ⟨y, e, fun z => ny (by rw [z]; exact List.mem_cons_self)⟩]
      apply sn_loop hv hl xs _ nd.2
      · intro kv hm
        rcases List.mem_append.mp hm with hm | hm
        · obtain ⟨y, e, ny⟩ := hk kv hm
          exact ⟨y, e, fun z => ny (List.mem_cons_of_mem _ z)⟩
        · rw [List.mem_singleton.mp hm]
          exact ⟨x, rfl, nd.1⟩
      · simp; omega
      · have : snP L v V (x :: xs) = (D.str x.s, D.int (V x)) :: snP L v V xs := by simp [snP, hc]
        rw [this] at p
        simpa using p
    · rw [if_neg (by simp [hc])]
      apply sn_loop hv hl xs _ nd.2
      · intro kv hm
        obtain ⟨y, e, ny⟩ := hk kv hm
        exact ⟨y, e, fun z => ny (List.mem_cons_of_mem _ z)⟩
      · omega
      · have : snP L v V (x :: xs) = snP L v V xs := by simp [snP, hc]
        rw [this] at p
        exact p
theorem seen_spec {n : Nat} (hne : va ≠ lv) (hv : A[va]? = some (.dct (lvD V))) (hl : A[lv]? = some (.dct (lvD L))) : wR (callF pg N (n + 1) "seen_at" [.ref va, .ref lv, .int v] A) (fun r A' => r = .ref A.length ∧ A' = A ++ [.dct (sn L v V)]) := by
  rw [wR_call (fd := fn_16) rfl rfl]
  show wS (sx _ N fn_16.body [some (.ref va), some (.ref lv), some (.int v), none] A) _ _ _ _
  rw [fn_16, wS_seq, wS_ret, wR_dc, wR_wk, wR_v0]
  have hw : wkOf A (.ref va) = some ⟨[.a, .b, .c, .d].map fun x : Nm => D.str x.s, [(va, .lk (lvD V))], some va⟩ := by
    simp only [wkOf, hv]
    rfl
  rw [hw, wR_some]
  have hlock : lockA A (some va) = A.set va (.lk (lvD V)) := by simp only [lockA, hv]
  dsimp only
  rw [hlock]
  have hv1 : (A.set va (.lk (lvD V)))[va]? = some (.lk (lvD V)) := set_at hv
  have hl1 : (A.set va (.lk (lvD V)))[lv]? = some (.dct (lvD L)) := set_ne hl hne
  have hloop : dcL (asgT (.nm 3)) [(va, .lk (lvD V))] (dcB (callF pg N n) (.cons (.cmp .le (.ix (.var 1) (.var 3)) (.var 2)) .nil) (.var 3) (.ix (.var 0) (.var 3))) [some (.ref va), some (.ref lv), some (.int v), none] ([.a, .b, .c, .d].map fun x : Nm => D.str x.s) [] (A.set va (.lk (lvD V))) = .ok (sn L v V) (A.set va (.lk (lvD V))) := by
    obtain ⟨a, B, e, h1, h2⟩ := eq_of_wR (sn_loop (cl := callF pg N n) (v := v) hv1 hl1 (P := fun a B => a = sn L v V ∧ B = A.set va (.lk (lvD V))) [.a, .b, .c, .d] [] (by decide) (fun kv h => by cases h) (by decide) ⟨rfl, rfl⟩)
    rw [e, h1, h2]
  have hwipe : wipeF [some (.ref va), some (.ref lv), some (.int v), none] [3] = [some (.ref va), some (.ref lv), some (.int v), none] := rfl
  rw [hwipe, hloop]
  have hunl : unlR (some va) (bnd (Res.ok (sn L v V) (A.set va (.lk (lvD V)))) fun ds A2 => Res.ok (D.ref A2.length) (A2 ++ [.dct ds])) = .ok (.ref A.length) (A ++ [.dct (sn L v V)]) := by
    show Res.ok (D.ref (A.set va (.lk (lvD V))).length) (unlockA (A.set va (.lk (lvD V)) ++ [.dct (sn L v V)]) (some va)) = _
    have h1 : (A.set va (.lk (lvD V)) ++ [AO.dct (sn L v V)])[va]? = some (.lk (lvD V)) := app_at hv1
    have h2 : unlockA (A.set va (.lk (lvD V)) ++ [AO.dct (sn L v V)]) (some va) = (A.set va (.lk (lvD V)) ++ [AO.dct (sn L v V)]).set va (.dct (lvD V)) := by simp only [unlockA, h1]
    have hlt : va < (A.set va (.lk (lvD V))).length := (List.getElem?_eq_some_iff.mp hv1).1
    rw [h2, List.set_append_left _ _ hlt, List.set_set, set_self hv, List.length_set]
  rw [hunl, wR_ok]
  exact ⟨rfl, rfl⟩
end
end K29

/-! ## K29J -/
/-! K29J: two dicts of the same four values are the same. -/
namespace K29
open Ev
def ks4 : List D := [Nm.a, .b, .c, .d].map fun x : Nm => D.str x.s
theorem ks4_at {j : Nat} {d : D} (h : ks4[j]? = some d) : ∃ x : Nm, d = .str x.s := by
  unfold ks4 at h
  rw [List.getElem?_map] at h
  obtain ⟨x, _, e⟩ := Option.map_eq_some_iff.mp h
  exact ⟨x, e.symm⟩
theorem lk_kp {A B : AH} {b : Nat} {kvs : List (D × D)} (h : A[b]? = some (.dct kvs)) (k : Kp (A.set b (.lk kvs)) B) : Kp A (unlockA B (some b)) ∧ unlockA B (some b) = B.set b (.dct kvs) := by
  have hb : B[b]? = some (.lk kvs) := k _ _ (set_at h)
  have e : unlockA B (some b) = B.set b (.dct kvs) := by simp only [unlockA, hb]
  refine ⟨?_, e⟩
  rw [e]
  intro i o hi
  by_cases z : b = i
  · subst z
    rw [h] at hi
    cases hi
    exact set_at hb
  · rw [List.getElem?_set_ne z]
    exact k _ _ (by rw [List.getElem?_set_ne z]; exact hi)
theorem lk_dctL {A B : AH} {a b : Nat} {kvs ls : List (D × D)} (ha : A[a]? = some (.dct ls)) (hb : A[b]? = some (.dct kvs)) (k : Kp (A.set b (.lk kvs)) B) : dctL B a = some ls := by
  by_cases z : b = a
  · subst z
    rw [ha] at hb
    cases hb
    have := k _ _ (set_at (p := .lk kvs) ha)
    simp [dctL, this]
  · have := k a _ (by rw [List.getElem?_set_ne z]; exact ha)
    simp [dctL, this]
theorem sameI {N n : Nat} {A : AH} {i : Int} : wR (callF pg N (n + 4) "_law_same" [.int i, .int i] A) (fun r A' => r = .bl true ∧ Kp A A') := same_pl rfl rfl rfl (n + 4) (.int i) A rfl (by show 2 * 0 + 1 < n + 4; omega)
section
variable {N : Nat} {A : AH} {a b : Nat} {V : En}
theorem wk_dct {A : AH} {b : Nat} (hb : A[b]? = some (.dct (lvD V))) : wkOf A (.ref b) = some ⟨ks4, [(b, .lk (lvD V))], some b⟩ ∧ lockA A (some b) = A.set b (.lk (lvD V)) := by
  refine ⟨?_, ?_⟩
  · simp only [wkOf, hb]
    rfl
  · simp only [lockA, hb]
theorem same_dct {n : Nat} (ha : A[a]? = some (.dct (lvD V))) (hb : A[b]? = some (.dct (lvD V))) : wR (callF pg N (n + 5) "_law_same" [.ref a, .ref b] A) (fun r A' => r = .bl true ∧ Kp A A') := by
  rw [wR_call (fd := fn_22) rfl rfl]
  show wS (sx _ N fn_22.body [some (.ref a), some (.ref b), none] A) _ _ _ _
  have isa : ∀ (x : Nat) (t : String) (B : AH), B[x]? = some (.dct (lvD V)) → biF B "isinstance" [.ref x, .gl t] = ofO ((if tyNames.contains t then some ("dict" == t || ("dict" == "bool" && t == "int")) else none).map D.bl) B := fun x t B h => by
    show ofO ((isA B (.ref x) t).map D.bl) B = _
    have : tyName B (.ref x) = some "dict" := by simp [tyName, h]
    simp only [isA, this]
  have e1 : sx (callF pg N (n + 4)) N fn_22.body [some (.ref a), some (.ref b), none] A = sx (callF pg N (n + 4)) N (drp 1 fn_22.body) [some (.ref a), some (.ref b), none] A := by kernel_rfl
  rw [e1]
  show wS (sx _ N (.seq (.ite (.bi "isinstance" (.cons (.var 1) (.cons (.gl "bool") .nil))) _ .skip) (.seq (.ite (.bi "isinstance" (.cons (.var 1) (.cons (.gl "int") .nil))) _ .skip) (.seq (.ite (.bi "isinstance" (.cons (.var 1) (.cons (.gl "str") .nil))) _ .skip) (.seq (.ite (.bi "isinstance" (.cons (.var 1) (.cons (.gl "tuple") .nil))) _ .skip) (.seq (.ite (.bi "isinstance" (.cons (.var 1) (.cons (.gl "list") .nil))) _ .skip) (drp 6 fn_22.body)))))) _ A) _ _ _ _
  have tst : ∀ (t : String) (s1 s2 : Sm) {Pn Pb Pc : Fr → AH → Prop} {Pr : D → AH → Prop}, (if tyNames.contains t then some ("dict" == t || ("dict" == "bool" && t == "int")) else none) = some false → wS (sx (callF pg N (n + 4)) N s2 [some (.ref a), some (.ref b), none] A) Pn Pb Pc Pr →
      wS (sx (callF pg N (n + 4)) N (.seq (.ite (.bi "isinstance" (.cons (.var 1) (.cons (.gl t) .nil))) s1 .skip) s2) [some (.ref a), some (.ref b), none] A) Pn Pb Pc Pr := fun t s1 s2 {Pn Pb Pc Pr} ht h => by
    rw [wS_seq, wS_ite, wR_tru, wR_bi, wR_cons, wR_v1, wR_cons, wR_gl, wR_nil, isa b t A hb, ht]
    show wR (ofO (some (D.bl false)) A) _
    rw [wR_some, truth_bl, wR_some, if_neg (by decide), wS_skip]
    exact h
  apply tst "bool" _ _ (by decide)
  apply tst "int" _ _ (by decide)
  apply tst "str" _ _ (by decide)
  apply tst "tuple" _ _ (by decide)
  apply tst "list" _ _ (by decide)
  show wS (sx _ N (.seq (.ite (.or (.not (.bi "isinstance" (.cons (.var 0) (.cons (.gl "dict") .nil)))) (.cmp .ne (.bi "len" (.cons (.var 0) .nil)) (.bi "len" (.cons (.var 1) .nil)))) _ .skip) (.seq (.for (.nm 2) (.wk (.var 1)) (.seq (.ite (.or (.cmp .nmem (.var 2) (.var 0)) (.not (.call "_law_same" (.cons (.ix (.var 0) (.var 2)) (.cons (.ix (.var 1) (.var 2)) .nil))))) _ .skip) .skip)) (.seq (.for (.nm 2) (.wk (.var 0)) (.seq (.ite (.bi "isinstance" (.cons (.var 2) (.cons (.gl "bool") .nil))) _ .skip) .skip)) (.seq (.ret (.bl true)) .skip)))) _ A) _ _ _ _
  have hlen : ∀ {x : Nat} {B : AH}, B[x]? = some (.dct (lvD V)) → biF B "len" [.ref x] = .ok (.int 4) B := fun {x B} h => by
    show biLen B [.ref x] = _
    have : dctL B x = some (lvD V) := by simp [dctL, h]
    simp only [biLen, this]
    rfl
  rw [wS_seq, wS_ite, wR_tru, wR_or, wR_not, wR_bi, wR_cons, wR_v0, wR_cons, wR_gl, wR_nil, isa a "dict" A ha]
  apply wR_eq (a := .bl true) (A := A) (by kernel_rfl)
  show wR (ofO (some (D.bl false)) A) _
  rw [wR_some, truth_bl, wR_some, if_neg (by decide), wR_cmp, wR_bi, wR_cons, wR_v0, wR_nil, hlen ha, wR_ok, wR_bi, wR_cons, wR_v1, wR_nil, hlen hb, wR_ok]
  apply wR_eq (a := .bl false) (A := A) (by kernel_rfl)
  rw [truth_bl, wR_some, if_neg (by decide), wS_skip, wS_seq, wS_for, wR_wk, wR_v1, (wk_dct hb).1, wR_some]
  dsimp only
  rw [(wk_dct hb).2]
  apply wS_unl
  apply forL_ind (fun i F A' => Kp (A.set b (.lk (lvD V))) A' ∧ ∃ y, F = [some (.ref a), some (.ref b), y]) _ 0 _ _ ⟨.refl, none, rfl⟩
  · rintro j d F A' e ⟨k, y, rfl⟩
    refine ⟨by simp [gOk, k _ _ (set_at hb)], ?_⟩
    obtain ⟨x, rfl⟩ := ks4_at e
    refine ⟨[some (.ref a), some (.ref b), some (.str x.s)], rfl, ?_⟩
    have da := lk_dctL ha hb k
    have db := lk_dctL hb hb k
    have hi : ∀ {z : Nat}, dctL A' z = some (lvD V) → opI A' (.ref z) (.str x.s) = some (.int (V x)) := fun h => by simp [opI, h, keyOk, dget_lv]
    rw [wS_seq, wS_ite, wR_tru, wR_or, wR_cmp, wR_v2, wR_v0]
    have hm : opC A' .nmem (.str x.s) (.ref a) = some false := by
      show (memD A' (.str x.s) (.ref a)).map (!·) = _
      simp [memD, da, keyOk, dget_lv]
    rw [hm]
    show wR (ofO (some (D.bl false)) A') _
    rw [wR_some, truth_bl, wR_some, if_neg (by decide), wR_not, wR_cl, wR_cons, wR_ix, wR_v0, wR_v2, hi da, wR_some, wR_cons, wR_ix, wR_v1, wR_v2, hi db, wR_some, wR_nil]
    apply (sameI (n := n)).mono
    intro r A2 hh
    rw [hh.1]
    show wR (ofO (some (D.bl false)) A2) _
    rw [wR_some, truth_bl, wR_some, if_neg (by decide), wS_skip, wS_skip]
    exact ⟨k.trans hh.2, _, rfl⟩
  · rintro F A' ⟨k, y, rfl⟩
    refine ⟨by simp [gOk, k _ _ (set_at hb)], ?_⟩
    obtain ⟨k1, _⟩ := lk_kp hb k
    generalize unlockA A' (some b) = A2 at k1
    have ha2 := k1 _ _ ha
    rw [wS_seq, wS_for, wR_wk, wR_v0, (wk_dct ha2).1, wR_some]
    dsimp only
    rw [(wk_dct ha2).2]
    apply wS_unl
    apply forL_ind (fun i F A' => A' = A2.set a (.lk (lvD V)) ∧ ∃ y, F = [some (.ref a), some (.ref b), y]) _ 0 _ _ ⟨rfl, y, rfl⟩
    · rintro j d F A' e ⟨eA, y, rfl⟩
      subst eA
      refine ⟨by simp [gOk, set_at ha2], ?_⟩
      obtain ⟨x, rfl⟩ := ks4_at e
      refine ⟨[some (.ref a), some (.ref b), some (.str x.s)], rfl, ?_⟩
      rw [wS_seq, wS_ite, wR_tru]
      apply wR_eq (a := .bl false) (A := A2.set a (.lk (lvD V))) (by cases x <;> kernel_rfl)
      rw [truth_bl, wR_some, if_neg (by decide), wS_skip, wS_skip]
      exact ⟨rfl, _, rfl⟩
    · rintro F A' ⟨eA, y, rfl⟩
      subst eA
      refine ⟨by simp [gOk, set_at ha2], ?_⟩
      rw [wS_seq, wS_ret, wR_bl]
      exact ⟨rfl, k1.trans (lk_kp ha2 .refl).1⟩
end
end K29

/-! ## K29K -/
/-! K29K: the law's own runs. -/
namespace K29
open Ev
/-- all but the counter stands -/
structure Lf (lf : Nat) (l : Int) (A A' : AH) : Prop where
  kp : ∀ (i : Nat) (o : AO), i ≠ lf → A[i]? = some o → A'[i]? = some o
  at_ : ∃ l', A'[lf]? = some (.lst [.int l']) ∧ l' ≤ l
theorem Lf.trans {lf : Nat} {l : Int} {A B C : AH} (a : Lf lf l A B) (b : ∀ l', B[lf]? = some (.lst [.int l']) → Lf lf l' B C) : Lf lf l A C := by
  obtain ⟨l', h1, h2⟩ := a.at_
  have b := b l' h1
  obtain ⟨l2, h3, h4⟩ := b.at_
  exact ⟨fun i o n h => b.kp i o n (a.kp i o n h), l2, h3, Int.le_trans h4 h2⟩
section
variable {N : Nat} {lf : Nat}
def Post (lf : Nat) (l : Int) (p : Pr) (V : En) (A : AH) (r : D) (A' : AH) : Prop := Lf lf l A A' ∧ (r = .non ∨ ∃ k V', r = .ref k ∧ A'[k]? = some (.dct (lvD V')) ∧ Big p V V')
def RunS (N lf : Nat) (p : Pr) (n : Nat) : Prop := ∀ (va : Nat) (V : En) (l : Int) (A : AH), A[va]? = some (.dct (lvD V)) → A[lf]? = some (.lst [.int l]) → l ≤ 600 → wR (callF pg N n "_law_run" [pD p, .ref va, .ref lf] A) (Post lf l p V A)
theorem lst0 {A : AH} {l : Int} (h : A[lf]? = some (.lst [.int l])) : opI A (.ref lf) (.int 0) = some (.int l) := by rw [opI_lst h]; rfl
theorem lst0_set {A : AH} {l : Int} {v : D} (h : A[lf]? = some (.lst [.int l])) : opSet A (.ref lf) (.int 0) v = some (A.set lf (.lst [v])) := set_lst (i := 0) h (by simp)
/-- values that are none -/
theorem run_none {n : Nat} {pd : D} {l : Int} {A : AH} (hl : A[lf]? = some (.lst [.int l])) : wR (callF pg N (n + 1) "_law_run" [pd, .non, .ref lf] A) (fun r A' => r = .non ∧ A' = A) := by
  apply wR_of
  rw [wE_call (fd := fn_28) rfl rfl]
  show wT (sx _ N fn_28.body [some pd, some .non, some (.ref lf), none, none] A) _
  rw [fn_28, wT_seq]
  apply wT_if
  rw [wR_or, wR_cmp, wR_ix, wR_v2, wR_int, lst0 hl, wR_some, wR_int, eq_int]
  show wR (ofO (some (D.bl (decide (l = 0)))) A) _
  rw [wR_some, truth_bl, wR_some]
  by_cases h0 : l = 0
  · rw [if_pos (decide_eq_true h0), truth_bl, wR_some, if_pos (decide_eq_true h0), wT_seq]
    apply wT_retR
    rw [wR_non]
    exact ⟨rfl, rfl⟩
  · rw [if_neg (by simp [h0]), wR_cmp, wR_v1, wR_non]
    apply wR_eq (a := .bl true) (A := A) (by kernel_rfl)
    rw [truth_bl, wR_some, if_pos rfl, wT_seq]
    apply wT_retR
    rw [wR_non]
    exact ⟨rfl, rfl⟩
/-- the head of a run -/
theorem run_head {n : Nat} {xs : List D} {w : String} {va : Nat} {l : Int} {A : AH} {P : PX} (h0 : L2.atI xs 0 = some (.str w)) (hl : A[lf]? = some (.lst [.int l])) (hz : P.rt .non A) (h : wT (sx (callF pg N n) N (drp 3 fn_28.body) [some (.tup xs), some (.ref va), some (.ref lf), some (.str w), none] (A.set lf (.lst [.int (l - 1)]))) P) :
    wT (sx (callF pg N n) N fn_28.body [some (.tup xs), some (.ref va), some (.ref lf), none, none] A) P := by
  show wT (sx _ N (.seq (.ite (.or (.cmp .eq (.ix (.var 2) (.int 0)) (.int 0)) (.cmp .is (.var 1) .non)) (.seq (.ret .non) .skip) .skip) (.seq (.sub (.var 2) (.int 0) (.op .sub (.ix (.var 2) (.int 0)) (.int 1))) (.seq (.set 3 (.ix (.var 0) (.int 0))) (drp 3 fn_28.body)))) _ A) P
  rw [wT_seq]
  apply wT_if
  rw [wR_or, wR_cmp, wR_ix, wR_v2, wR_int, lst0 hl, wR_some, wR_int, eq_int]
  show wR (ofO (some (D.bl (decide (l = 0)))) A) _
  rw [wR_some, truth_bl, wR_some]
  by_cases h0' : l = 0
  · rw [if_pos (decide_eq_true h0'), truth_bl, wR_some, if_pos (decide_eq_true h0'), wT_seq]
    apply wT_retR
    rw [wR_non]
    exact hz
  · rw [if_neg (by simp [h0']), wR_cmp, wR_v1, wR_non]
    apply wR_eq (a := .bl false) (A := A) (by kernel_rfl)
    rw [truth_bl, wR_some, if_neg (by decide), wT_skip]
    dsimp only
    rw [wT_seq]
    apply wT_sub
    rw [wR_op, wR_ix, wR_v2, wR_int, lst0 hl, wR_some, wR_int]
    apply wR_eq (a := .int (l - 1)) (A := A) (by kernel_rfl)
    rw [wR_v2, wR_int]
    refine ⟨_, lst0_set hl, ?_⟩
    dsimp only
    rw [wT_seq]
    apply wT_setR
    rw [wR_tix (x := .str w) rfl h0]
    exact h
theorem lf_dec {A : AH} {l : Int} (hl : A[lf]? = some (.lst [.int l])) : Lf lf l A (A.set lf (.lst [.int (l - 1)])) := ⟨fun i o n h => by rw [List.getElem?_set_ne (Ne.symm n)]; exact h, l - 1, set_at hl, by omega⟩
theorem va_ne {A : AH} {va : Nat} {V : En} {l : Int} (h1 : A[va]? = some (.dct (lvD V))) (h2 : A[lf]? = some (.lst [.int l])) : va ≠ lf := fun e => by rw [e, h2] at h1; cases h1
theorem lrun_spec (hN : 700 ≤ N) : ∀ (p : Pr) (n : Nat), ph p + 1 < n → RunS N lf p n
  | p, 0, h => by omega
  | .set x e, n + 1, h => fun va V l A hv hl hl6 => by
    have h : eh e + 1 + 1 < n + 1 := h
    apply wR_of
    rw [wE_call (fd := fn_28) rfl rfl]
    refine run_head (w := "set") rfl hl ⟨⟨fun _ _ _ h => h, l, hl, Int.le_refl l⟩, .inl rfl⟩ ?_
    have d1 := lf_dec hl
    have hv1 := d1.kp va _ (va_ne hv hl) hv
    generalize A.set lf (.lst [.int (l - 1)]) = A1 at d1 hv1
    show wT (sx (callF pg N n) N (.seq (.ite (.cmp .eq (.var 3) (.str "set")) (.seq (.set 4 (.bi "dict" (.cons (.var 1) .nil))) (.seq (.sub (.var 4) (.ix (.var 0) (.int 1)) (.call "_law_value" (.cons (.ix (.var 0) (.int 2)) (.cons (.var 1) .nil)))) (.seq (.ret (.var 4)) .skip))) .skip) _) [some (.tup [.str "set", .str x.s, eD e]), some (.ref va), some (.ref lf), some (.str "set"), none] A1) _
    rw [wT_seq, wT_word rfl, if_pos rfl, wT_seq]
    apply wT_setR
    rw [wR_bi, wR_cons, wR_v1, wR_nil, dict_eq hv1, wR_ok]
    have ef : fset [some (.tup [.str "set", .str x.s, eD e]), some (.ref va), some (.ref lf), some (.str "set"), none] 4 (.ref A1.length) = [some (.tup [.str "set", .str x.s, eD e]), some (.ref va), some (.ref lf), some (.str "set"), some (.ref A1.length)] := rfl
    rw [ef]
    dsimp only
    rw [wT_seq]
    apply wT_sub
    rw [wR_cl, wR_cons, wR_tix (x := eD e) rfl rfl, wR_cons, wR_v1, wR_nil]
    have hv2 : (A1 ++ [AO.dct (lvD V)])[va]? = some (.dct (lvD V)) := app_at hv1
    apply (lval_spec e n (by omega) hv2).mono
    intro r A2 hh
    rw [hh.1, hh.2, wR_v4, wR_tix (x := .str x.s) rfl rfl]
    refine ⟨_, set_lv new_at x _, ?_⟩
    dsimp only
    rw [wT_seq]
    apply wT_retR
    rw [wR_v4]
    have kp : Kp A1 ((A1 ++ [AO.dct (lvD V)]).set A1.length (.dct (lvD (V.put x (val V e))))) := Kp.refl.app.set new_none
    refine ⟨⟨fun i o n h => kp i o (d1.kp i o n h), ?_⟩, .inr ⟨_, _, rfl, set_at new_at, .set⟩⟩
    obtain ⟨l', h1, h2⟩ := d1.at_
    exact ⟨l', kp _ _ h1, h2⟩
  | .skip, n + 1, h => fun va V l A hv hl hl6 => by
    apply wR_of
    rw [wE_call (fd := fn_28) rfl rfl]
    refine run_head (w := "skip") rfl hl ⟨⟨fun _ _ _ h => h, l, hl, Int.le_refl l⟩, .inl rfl⟩ ?_
    have d1 := lf_dec hl
    have hv1 := d1.kp va _ (va_ne hv hl) hv
    generalize A.set lf (.lst [.int (l - 1)]) = A1 at d1 hv1
    show wT (sx (callF pg N n) N (.seq (.ite (.cmp .eq (.var 3) (.str "set")) _ .skip) (.seq (.ite (.cmp .eq (.var 3) (.str "then")) _ .skip) (.seq (.ite (.cmp .eq (.var 3) (.str "if")) _ .skip) (.seq (.whl (.and (.cmp .eq (.var 3) (.str "while")) _) _) (.seq (.ret (.var 1)) .skip))))) [some (.tup [.str "skip"]), some (.ref va), some (.ref lf), some (.str "skip"), none] A1) _
    rw [wT_seq, wT_word rfl, if_neg (by decide), wT_skip]
    dsimp only
    rw [wT_seq, wT_word rfl, if_neg (by decide), wT_skip]
    dsimp only
    rw [wT_seq, wT_word rfl, if_neg (by decide), wT_skip]
    dsimp only
    rw [wT_seq]
    apply wT_whl
    apply whlT (fun k F A' => F = [some (.tup [.str "skip"]), some (.ref va), some (.ref lf), some (.str "skip"), none] ∧ A' = A1) ?_ N 0 _ _ (by omega) ⟨rfl, rfl⟩
    rintro k F A' ⟨eF, eA⟩
    rw [eF, eA, wR_tru, wR_and, wR_cmp, wR_v3, wR_str, eq_str]
    show wR (ofO (some (D.bl false)) A1) _
    rw [wR_some, truth_bl, wR_some, if_neg (by decide), truth_bl, wR_some, if_neg (by decide)]
    dsimp only
    rw [wT_seq]
    apply wT_retR
    rw [wR_v1]
    exact ⟨d1, .inr ⟨va, V, rfl, hv1, .skip⟩⟩
  | .thn p q, n + 1, h => fun va V l A hv hl hl6 => by
    have h : max (ph p) (ph q) + 1 + 1 < n + 1 := h
    have ihp := lrun_spec hN p n (by omega)
    have ihq := lrun_spec hN q n (by omega)
    apply wR_of
    rw [wE_call (fd := fn_28) rfl rfl]
    refine run_head (w := "then") rfl hl ⟨⟨fun _ _ _ h => h, l, hl, Int.le_refl l⟩, .inl rfl⟩ ?_
    have d1 := lf_dec hl
    have hv1 := d1.kp va _ (va_ne hv hl) hv
    have hl1 : (A.set lf (.lst [.int (l - 1)]))[lf]? = some (.lst [.int (l - 1)]) := set_at hl
    generalize A.set lf (.lst [.int (l - 1)]) = A1 at d1 hv1 hl1
    show wT (sx (callF pg N n) N (.seq (.ite (.cmp .eq (.var 3) (.str "set")) _ .skip) (.seq (.ite (.cmp .eq (.var 3) (.str "then")) (.seq (.ret (.call "_law_run" (.cons (.ix (.var 0) (.int 2)) (.cons (.call "_law_run" (.cons (.ix (.var 0) (.int 1)) (.cons (.var 1) (.cons (.var 2) .nil)))) (.cons (.var 2) .nil))))) .skip) .skip) _)) [some (.tup [.str "then", pD p, pD q]), some (.ref va), some (.ref lf), some (.str "then"), none] A1) _
    rw [wT_seq, wT_word rfl, if_neg (by decide), wT_skip]
    dsimp only
    rw [wT_seq, wT_word rfl, if_pos rfl, wT_seq]
    apply wT_retR
    rw [wR_cl, wR_cons, wR_tix (x := pD q) rfl rfl, wR_cons, wR_cl, wR_cons, wR_tix (x := pD p) rfl rfl, wR_cons, wR_v1, wR_cons, wR_v2, wR_nil]
    apply (ihp va V (l - 1) A1 hv1 hl1 (by omega)).mono
    rintro r A2 ⟨d2, hr⟩
    rw [wR_cons, wR_v2, wR_nil]
    obtain ⟨l2, hl2, le2⟩ := d2.at_
    have d12 : Lf lf l A A2 := ⟨fun i o n h => d2.kp i o n (d1.kp i o n h), l2, hl2, by omega⟩
    rcases hr with rfl | ⟨k, V1, rfl, hk, b1⟩
    · obtain ⟨m, rfl⟩ : ∃ m, n = m + 1 := ⟨n - 1, by omega⟩
      apply (run_none hl2).mono
      intro r A3 hh
      rw [hh.1, hh.2]
      exact ⟨d12, .inl rfl⟩
    · apply (ihq k V1 l2 A2 hk hl2 (by omega)).mono
      rintro r A3 ⟨d3, hr⟩
      refine ⟨d12.trans fun l' hl' => ?_, ?_⟩
      · rw [hl2] at hl'
        cases hl'
        exact d3
      · rcases hr with e | ⟨k2, V2, e, hk2, b2⟩
        · exact .inl e
        · exact .inr ⟨k2, V2, e, hk2, .thn b1 b2⟩
  | .iff e p q, n + 1, h => fun va V l A hv hl hl6 => by
    have h : max (eh e) (max (ph p) (ph q)) + 1 + 1 < n + 1 := h
    have ihp := lrun_spec hN p n (by omega)
    have ihq := lrun_spec hN q n (by omega)
    apply wR_of
    rw [wE_call (fd := fn_28) rfl rfl]
    refine run_head (w := "if") rfl hl ⟨⟨fun _ _ _ h => h, l, hl, Int.le_refl l⟩, .inl rfl⟩ ?_
    have d1 := lf_dec hl
    have hv1 := d1.kp va _ (va_ne hv hl) hv
    have hl1 : (A.set lf (.lst [.int (l - 1)]))[lf]? = some (.lst [.int (l - 1)]) := set_at hl
    generalize A.set lf (.lst [.int (l - 1)]) = A1 at d1 hv1 hl1
    show wT (sx (callF pg N n) N (.seq (.ite (.cmp .eq (.var 3) (.str "set")) _ .skip) (.seq (.ite (.cmp .eq (.var 3) (.str "then")) _ .skip) (.seq (.ite (.cmp .eq (.var 3) (.str "if")) (.seq (.ret (.call "_law_run" (.cons (.ix (.var 0) (.ite (.cmp .ne (.call "_law_value" (.cons (.ix (.var 0) (.int 1)) (.cons (.var 1) .nil))) (.int 0)) (.int 2) (.int 3))) (.cons (.var 1) (.cons (.var 2) .nil))))) .skip) .skip) _))) [some (.tup [.str "if", eD e, pD p, pD q]), some (.ref va), some (.ref lf), some (.str "if"), none] A1) _
    rw [wT_seq, wT_word rfl, if_neg (by decide), wT_skip]
    dsimp only
    rw [wT_seq, wT_word rfl, if_neg (by decide), wT_skip]
    dsimp only
    rw [wT_seq, wT_word rfl, if_pos rfl, wT_seq]
    apply wT_retR
    rw [wR_cl, wR_cons, wR_ix, wR_v0, wR_ite, wR_cmp, wR_cl, wR_cons, wR_tix (x := eD e) rfl rfl, wR_cons, wR_v1, wR_nil]
    apply (lval_spec e n (by omega) hv1).mono
    intro r A2 hh
    rw [hh.1, hh.2, wR_int]
    have e2 : (opC A1 .ne (.int (val V e)) (.int 0)).map D.bl = some (.bl (decide (val V e ≠ 0))) := by
      show ((opC A1 .eq (.int (val V e)) (.int 0)).map (!·)).map D.bl = _
      rw [eq_int]
      simp
    rw [e2, wR_some, truth_bl, wR_some]
    by_cases hc : val V e = 0
    · rw [if_neg (by simp [hc]), wR_int]
      show wR (ofO (some (pD q)) A1) _
      rw [wR_some, wR_cons, wR_v1, wR_cons, wR_v2, wR_nil]
      apply (ihq va V (l - 1) A1 hv1 hl1 (by omega)).mono
      rintro r A3 ⟨d3, hr⟩
      obtain ⟨l3, hl3, le3⟩ := d3.at_
      refine ⟨⟨fun i o n h => d3.kp i o n (d1.kp i o n h), l3, hl3, by omega⟩, ?_⟩
      rcases hr with e | ⟨k2, V2, e, hk2, b2⟩
      · exact .inl e
      · exact .inr ⟨k2, V2, e, hk2, .no hc b2⟩
    · rw [if_pos (by simp [hc]), wR_int]
      show wR (ofO (some (pD p)) A1) _
      rw [wR_some, wR_cons, wR_v1, wR_cons, wR_v2, wR_nil]
      apply (ihp va V (l - 1) A1 hv1 hl1 (by omega)).mono
      rintro r A3 ⟨d3, hr⟩
      obtain ⟨l3, hl3, le3⟩ := d3.at_
      refine ⟨⟨fun i o n h => d3.kp i o n (d1.kp i o n h), l3, hl3, by omega⟩, ?_⟩
      rcases hr with e | ⟨k2, V2, e, hk2, b2⟩
      · exact .inl e
      · exact .inr ⟨k2, V2, e, hk2, .yes hc b2⟩
  | .whl e p, n + 1, h => fun va V l A hv hl hl6 => by
    have h : max (eh e) (ph p) + 1 + 1 < n + 1 := h
    have ihp := lrun_spec hN p n (by omega)
    apply wR_of
    rw [wE_call (fd := fn_28) rfl rfl]
    refine run_head (w := "while") rfl hl ⟨⟨fun _ _ _ h => h, l, hl, Int.le_refl l⟩, .inl rfl⟩ ?_
    have d1 := lf_dec hl
    have hv1 := d1.kp va _ (va_ne hv hl) hv
    have hl1 : (A.set lf (.lst [.int (l - 1)]))[lf]? = some (.lst [.int (l - 1)]) := set_at hl
    have kp1 := d1.kp
    generalize A.set lf (.lst [.int (l - 1)]) = A1 at d1 hv1 hl1 kp1
    show wT (sx (callF pg N n) N (.seq (.ite (.cmp .eq (.var 3) (.str "set")) _ .skip) (.seq (.ite (.cmp .eq (.var 3) (.str "then")) _ .skip) (.seq (.ite (.cmp .eq (.var 3) (.str "if")) _ .skip) (.seq (.whl (.and (.cmp .eq (.var 3) (.str "while")) (.and (.cmp .isnt (.var 1) .non) (.cmp .ne (.call "_law_value" (.cons (.ix (.var 0) (.int 1)) (.cons (.var 1) .nil))) (.int 0))))
      (.seq (.set 1 (.call "_law_run" (.cons (.ix (.var 0) (.int 2)) (.cons (.var 1) (.cons (.var 2) .nil))))) (.seq (.sub (.var 2) (.int 0) (.op .sub (.ix (.var 2) (.int 0)) (.int 1))) (.seq (.ite (.cmp .lt (.ix (.var 2) (.int 0)) (.int 1)) (.seq (.ret .non) .skip) .skip) .skip)))) (.seq (.ret (.var 1)) .skip))))) [some (.tup [.str "while", eD e, pD p]), some (.ref va), some (.ref lf), some (.str "while"), none] A1) _
    rw [wT_seq, wT_word rfl, if_neg (by decide), wT_skip]
    dsimp only
    rw [wT_seq, wT_word rfl, if_neg (by decide), wT_skip]
    dsimp only
    rw [wT_seq, wT_word rfl, if_neg (by decide), wT_skip]
    dsimp only
    rw [wT_seq]
    apply wT_whl
    apply whlT (fun k F A' => ∃ l1 x, F = [some (.tup [.str "while", eD e, pD p]), some x, some (.ref lf), some (.str "while"), none] ∧ A'[lf]? = some (.lst [.int l1]) ∧ l1 ≤ l - 1 ∧ (∀ (i : Nat) (o : AO), i ≠ lf → A[i]? = some o → A'[i]? = some o) ∧ k = l1.toNat ∧
      (x = .non ∨ ∃ v1 V1, x = .ref v1 ∧ A'[v1]? = some (.dct (lvD V1)) ∧ ∀ V', Big (.whl e p) V1 V' → Big (.whl e p) V V')) ?_ N (l - 1).toNat _ _ (by omega) ⟨l - 1, .ref va, rfl, hl1, Int.le_refl _, kp1, rfl, .inr ⟨va, V, rfl, hv1, fun _ b => b⟩⟩
    rintro k F A2 ⟨l1, x, eF, hl2, le1, kp2, ek, hx⟩
    have lfA : Lf lf l A A2 := ⟨kp2, l1, hl2, by omega⟩
    rw [eF, wR_tru, wR_and, wR_cmp, wR_v3, wR_str, eq_str]
    show wR (ofO (some (D.bl true)) A2) _
    rw [wR_some, truth_bl, wR_some, if_pos rfl, wR_and, wR_cmp, wR_v1, wR_non]
    rcases hx with rfl | ⟨v1, V1, rfl, hv2, hb⟩
    · apply wR_eq (a := .bl false) (A := A2) (by kernel_rfl)
      rw [truth_bl, wR_some, if_neg (by decide), truth_bl, wR_some, if_neg (by decide)]
      dsimp only
      rw [wT_seq]
      apply wT_retR
      rw [wR_v1]
      exact ⟨lfA, .inl rfl⟩
    apply wR_eq (a := .bl true) (A := A2) (by kernel_rfl)
    rw [truth_bl, wR_some, if_pos rfl, wR_cmp, wR_cl, wR_cons, wR_tix (x := eD e) rfl rfl, wR_cons, wR_v1, wR_nil]
    apply (lval_spec e n (by omega) hv2).mono
    intro r A3 hh
    rw [hh.1, hh.2, wR_int]
    have e2 : (opC A2 .ne (.int (val V1 e)) (.int 0)).map D.bl = some (.bl (decide (val V1 e ≠ 0))) := by
      show ((opC A2 .eq (.int (val V1 e)) (.int 0)).map (!·)).map D.bl = _
      rw [eq_int]
      simp
    rw [e2, wR_some, truth_bl, wR_some]
    by_cases hc : val V1 e = 0
    · rw [if_neg (by simp [hc])]
      dsimp only
      rw [wT_seq]
      apply wT_retR
      rw [wR_v1]
      exact ⟨lfA, .inr ⟨v1, V1, rfl, hv2, hb _ (.fin hc)⟩⟩
    rw [if_pos (by simp [hc]), wT_seq]
    apply wT_setR
    rw [wR_cl, wR_cons, wR_tix (x := pD p) rfl rfl, wR_cons, wR_v1, wR_cons, wR_v2, wR_nil]
    apply (ihp v1 V1 l1 A2 hv2 hl2 (by omega)).mono
    rintro r A4 ⟨d4, hr⟩
    obtain ⟨l4, hl4, le4⟩ := d4.at_
    have ef : fset [some (.tup [.str "while", eD e, pD p]), some (.ref v1), some (.ref lf), some (.str "while"), none] 1 r = [some (.tup [.str "while", eD e, pD p]), some r, some (.ref lf), some (.str "while"), none] := rfl
    rw [ef]
    dsimp only
    rw [wT_seq]
    apply wT_sub
    rw [wR_op, wR_ix, wR_v2, wR_int, lst0 hl4, wR_some, wR_int]
    apply wR_eq (a := .int (l4 - 1)) (A := A4) (by kernel_rfl)
    rw [wR_v2, wR_int]
    refine ⟨_, lst0_set hl4, ?_⟩
    have d5 := lf_dec hl4
    have kp5 : ∀ (i : Nat) (o : AO), i ≠ lf → A[i]? = some o → (A4.set lf (.lst [.int (l4 - 1)]))[i]? = some o := fun i o n h => d5.kp i o n (d4.kp i o n (kp2 i o n h))
    have hl5 : (A4.set lf (.lst [.int (l4 - 1)]))[lf]? = some (.lst [.int (l4 - 1)]) := set_at hl4
    have up5 := d5.kp
    generalize A4.set lf (.lst [.int (l4 - 1)]) = A5 at kp5 hl5 up5
    dsimp only
    rw [wT_seq]
    apply wT_if
    rw [wR_cmp, wR_ix, wR_v2, wR_int, lst0 hl5, wR_some, wR_int, lt_int]
    show wR (ofO (some (D.bl (decide (l4 - 1 < 1)))) A5) _
    rw [wR_some, truth_bl, wR_some]
    by_cases h1 : l4 - 1 < 1
    · rw [if_pos (decide_eq_true h1), wT_seq]
      apply wT_retR
      rw [wR_non]
      exact ⟨⟨kp5, _, hl5, by omega⟩, .inl rfl⟩
    · rw [if_neg (by simp [h1]), wT_skip]
      dsimp only
      rw [wT_skip]
      refine ⟨(l4 - 1).toNat, by omega, l4 - 1, r, rfl, hl5, by omega, kp5, rfl, ?_⟩
      rcases hr with e | ⟨k2, V2, e, hk2, b2⟩
      · exact .inl e
      · exact .inr ⟨k2, V2, e, up5 _ _ (va_ne hk2 hl4) hk2, fun V' b => hb V' (.turn hc b2 b)⟩
end
end K29

/-! ## K29L -/
/-! K29L: drawing. -/
namespace K29
open Ev
def DE (cl : Cl0) (tp : Nat) (F : Fr) (e : Ex) (S : D → Prop) : Prop := ∀ A, TapeOk A tp → ∀ P : D → AH → Prop, (∀ d A', S d → Dr tp A A' → P d A') → wR (ev cl e F A) P
def DL (cl : Cl0) (tp : Nat) (F : Fr) (e : Ex) (S : List D → Prop) : Prop := ∀ A, TapeOk A tp → ∀ P : List D → AH → Prop, (∀ d A', S d → Dr tp A A' → P d A') → wR (evs cl e F A) P
section
variable {N n tp : Nat} {F : Fr} {cl : Cl0}
theorem DE.imp {e : Ex} {S T : D → Prop} (h : DE cl tp F e S) (k : ∀ d, S d → T d) : DE cl tp F e T := fun A t P p => h A t P fun d A' s => p d A' (k d s)
theorem DE.str {s : String} : DE cl tp F (.str s) (· = .str s) := fun A t P p => wR_str.mpr (p _ _ rfl (.refl t))
theorem DE.int {s : Int} : DE cl tp F (.int s) (· = .int s) := fun A t P p => wR_int.mpr (p _ _ rfl (.refl t))
theorem DL.nil : DL cl tp F .nil (· = []) := fun A t P p => wR_nil.mpr (p _ _ rfl (.refl t))
theorem DL.cons {a r : Ex} {S : D → Prop} {T : List D → Prop} (ha : DE cl tp F a S) (hr : DL cl tp F r T) : DL cl tp F (.cons a r) (fun ds => ∃ d r, ds = d :: r ∧ S d ∧ T r) := fun A t P p => by
  rw [wR_cons]
  refine ha A t _ fun d A1 s d1 => hr A1 d1.tape _ fun ds A2 s2 d2 => p _ _ ⟨d, ds, rfl, s, s2⟩ (d1.trans d2)
theorem DE.tup {es : Ex} {T : List D → Prop} (h : DL cl tp F es T) (hl : ∀ ds, T ds → ds.length ≤ 10) : DE cl tp F (.tup es) (fun d => ∃ ds, d = .tup ds ∧ T ds) := fun A t P p => by
  rw [wR_tup]
  refine h A t _ fun ds A' s d => ?_
  rw [wR_ifok (sz1 (by have := hl ds s; omega))]
  exact p _ _ ⟨ds, rfl, s⟩ d
theorem tup2 {a b : Ex} {S T : D → Prop} (ha : DE cl tp F a S) (hb : DE cl tp F b T) : DE cl tp F (.tup (.cons a (.cons b .nil))) (fun d => ∃ x y, d = .tup [x, y] ∧ S x ∧ T y) :=
  (DE.tup (DL.cons ha (DL.cons hb DL.nil)) fun ds ⟨d, r, e, _, d2, r2, e2, _, e3⟩ => by rw [e, e2, e3]; simp).imp fun d ⟨ds, e, x, r, e1, s, y, r2, e2, t, e3⟩ => ⟨x, y, by rw [e, e1, e2, e3], s, t⟩
theorem tup3 {a b c : Ex} {S T U : D → Prop} (ha : DE cl tp F a S) (hb : DE cl tp F b T) (hc : DE cl tp F c U) : DE cl tp F (.tup (.cons a (.cons b (.cons c .nil)))) (fun d => ∃ x y z, d = .tup [x, y, z] ∧ S x ∧ T y ∧ U z) :=
  (DE.tup (DL.cons ha (DL.cons hb (DL.cons hc DL.nil))) fun ds ⟨d, r, e, _, d2, r2, e2, _, d3, r3, e3, _, e4⟩ => by rw [e, e2, e3, e4]; simp).imp fun d ⟨ds, e, x, r, e1, s, y, r2, e2, t, z, r3, e3, u, e4⟩ => ⟨x, y, z, by rw [e, e1, e2, e3, e4], s, t, u⟩
theorem tup4 {a b c e : Ex} {S T U W : D → Prop} (ha : DE cl tp F a S) (hb : DE cl tp F b T) (hc : DE cl tp F c U) (he : DE cl tp F e W) : DE cl tp F (.tup (.cons a (.cons b (.cons c (.cons e .nil))))) (fun d => ∃ x y z w, d = .tup [x, y, z, w] ∧ S x ∧ T y ∧ U z ∧ W w) :=
  (DE.tup (DL.cons ha (DL.cons hb (DL.cons hc (DL.cons he DL.nil)))) fun ds ⟨d, r, e, _, d2, r2, e2, _, d3, r3, e3, _, d4, r4, e4, _, e5⟩ => by rw [e, e2, e3, e4, e5]; simp).imp fun d ⟨ds, e, x, r, e1, s, y, r2, e2, t, z, r3, e3, u, w, r4, e4, v, e5⟩ => ⟨x, y, z, w, by rw [e, e1, e2, e3, e4, e5], s, t, u, v⟩
theorem DE.take {m : Nat} {many : Int} (h0 : F[0]? = some (some (.ref tp))) (h1 : 0 < many) (h2 : many < 1073741824) : DE (callF pg N (m + 1)) tp F (.call "_law_take" (.cons (.var 0) (.cons (.int many) .nil))) (fun d => ∃ k : Int, d = .int k ∧ 0 ≤ k ∧ k < many) := fun A t P p => by
  rw [wR_cl, wR_cons, wR_var h0, wR_cons, wR_int, wR_nil]
  exact (take_spec rfl t h1 h2).mono fun r A' ⟨k, e, k0, k1, d⟩ => p _ _ ⟨k, e, k0, k1⟩ d
/-- one of four texts -/
theorem DE.pick {a b c d : String} {e : Ex} (h : DE cl tp F e (fun d => ∃ k : Int, d = .int k ∧ 0 ≤ k ∧ k < 4)) : DE cl tp F (.ix (.lst (.cons (.str a) (.cons (.str b) (.cons (.str c) (.cons (.str d) .nil))))) e) (fun x => x = .str a ∨ x = .str b ∨ x = .str c ∨ x = .str d) := fun A t P p => by
  rw [wR_ix]
  refine wR_eq (a := .ref A.length) (A := A ++ [.lst [.str a, .str b, .str c, .str d]]) (by
    show (if [D.str a, .str b, .str c, .str d].length ≤ PySem.sizeLine then Res.ok (D.ref A.length) (A ++ [.lst [.str a, .str b, .str c, .str d]]) else .no) = _
    rw [if_pos (sz1 (by simp))]) ?_
  have t1 : TapeOk (A ++ [.lst [.str a, .str b, .str c, .str d]]) tp := t.kp Kp.refl.app
  have hne : A.length ≠ tp := fun z => by
    obtain ⟨_, _, _, _, _, _, h1, _⟩ := t
    rw [← z, new_none] at h1
    cases h1
  refine h _ t1 _ fun x A2 ⟨k, ek, k0, k4⟩ d2 => ?_
  subst ek
  rw [opI_lst (d2.kp _ _ hne new_at)]
  have fin : ∀ z, (z = D.str a ∨ z = .str b ∨ z = .str c ∨ z = .str d) → wR (ofO (some z) A2) P := fun z hz => wR_some.mpr <| p z A2 hz ((Dr.of t Kp.refl.app).trans d2)
  have : k = 0 ∨ k = 1 ∨ k = 2 ∨ k = 3 := by omega
  rcases this with rfl | rfl | rfl | rfl
  · exact fin _ (.inl rfl)
  · exact fin _ (.inr (.inl rfl))
  · exact fin _ (.inr (.inr (.inl rfl)))
  · exact fin _ (.inr (.inr (.inr rfl)))
/-- a test of a drawn number -/
theorem DE.cond {c a b : Ex} {S : D → Prop} (hc : DE cl tp F c (fun d => ∃ r : Bool, d = .bl r)) (ha : DE cl tp F a S) (hb : DE cl tp F b S) : DE cl tp F (.ite c a b) S := fun A t P p => by
  rw [wR_ite]
  refine hc A t _ fun d A1 ⟨r, e⟩ d1 => ?_
  subst e
  rw [truth_bl, wR_some]
  cases r with
  | true => rw [if_pos rfl]; exact ha A1 d1.tape _ fun d A2 s d2 => p d A2 s (d1.trans d2)
  | false => rw [if_neg (by decide)]; exact hb A1 d1.tape _ fun d A2 s d2 => p d A2 s (d1.trans d2)
theorem DE.eq {e : Ex} {z : Int} (h : DE cl tp F e (fun d => ∃ k : Int, d = .int k)) : DE cl tp F (.cmp .eq e (.int z)) (fun d => ∃ r : Bool, d = .bl r) := fun A t P p => by
  rw [wR_cmp]
  refine h A t _ fun d A1 ⟨k, e⟩ d1 => ?_
  subst e
  rw [wR_int, eq_int]
  show wR (ofO (some (D.bl (decide (k = z)))) A1) _
  rw [wR_some]
  exact p _ _ ⟨_, rfl⟩ d1
theorem DE.gt {e : Ex} {z : Int} (h : DE cl tp F e (fun d => ∃ k : Int, d = .int k)) : DE cl tp F (.cmp .gt e (.int z)) (fun d => ∃ r : Bool, d = .bl r) := fun A t P p => by
  rw [wR_cmp]
  refine h A t _ fun d A1 ⟨k, e⟩ d1 => ?_
  subst e
  rw [wR_int, gt_int]
  show wR (ofO (some (D.bl (decide (z < k)))) A1) _
  rw [wR_some]
  exact p _ _ ⟨_, rfl⟩ d1
end
end K29
namespace K29
open Ev
section
variable {N tp : Nat}
theorem pickN {cl : Cl0} {F : Fr} {e : Ex} (h : DE cl tp F e (fun d => ∃ k : Int, d = .int k ∧ 0 ≤ k ∧ k < 4)) : DE cl tp F (.ix (.lst (.cons (.str "a") (.cons (.str "b") (.cons (.str "c") (.cons (.str "d") .nil))))) e) (fun x => ∃ y : Nm, x = .str y.s) := (DE.pick h).imp fun d h => by
  rcases h with rfl | rfl | rfl | rfl
  · exact ⟨.a, rfl⟩
  · exact ⟨.b, rfl⟩
  · exact ⟨.c, rfl⟩
  · exact ⟨.d, rfl⟩
theorem pickS {cl : Cl0} {F : Fr} {e : Ex} (h : DE cl tp F e (fun d => ∃ k : Int, d = .int k ∧ 0 ≤ k ∧ k < 4)) : DE cl tp F (.ix (.lst (.cons (.str "+") (.cons (.str "-") (.cons (.str "==") (.cons (.str "<") .nil))))) e) (fun x => ∃ y : Sg, x = .str y.s) := (DE.pick h).imp fun d h => by
  rcases h with rfl | rfl | rfl | rfl
  · exact ⟨.add, rfl⟩
  · exact ⟨.sub, rfl⟩
  · exact ⟨.eq, rfl⟩
  · exact ⟨.lt, rfl⟩
/-- a drawn expression of a depth -/
def XE (k : Nat) (d : D) : Prop := ∃ e, d = eD e ∧ eok e ∧ eh e ≤ k
def EE (N tp k n : Nat) : Prop := ∀ A, TapeOk A tp → wR (callF pg N n "_law_expression" [.ref tp, .int (k : Nat)] A) (fun r A' => XE k r ∧ Dr tp A A')
theorem leafX {m : Nat} {F : Fr} {k : Nat} (h0 : F[0]? = some (some (.ref tp))) : DE (callF pg N (m + 1)) tp F (.ite (.cmp .eq (.call "_law_take" (.cons (.var 0) (.cons (.int 3) .nil))) (.int 0)) (.tup (.cons (.str "int") (.cons (.call "_law_take" (.cons (.var 0) (.cons (.int 4) .nil))) .nil))) (.tup (.cons (.str "var") (.cons (.ix (.lst (.cons (.str "a") (.cons (.str "b") (.cons (.str "c") (.cons (.str "d") .nil))))) (.call "_law_take" (.cons (.var 0) (.cons (.int 4) .nil)))) .nil)))) (XE k) := by
  refine DE.cond (DE.eq ((DE.take h0 (by decide) (by decide)).imp fun d ⟨k, e, _⟩ => ⟨k, e⟩)) ?_ ?_
  · exact (tup2 DE.str (DE.take h0 (by decide) (by decide))).imp fun d ⟨x, y, e, e1, i, e2, i0, i1⟩ => ⟨.int i, by rw [e, e1, e2]; rfl, ⟨i0, by show i < 4294967296; omega⟩, Nat.zero_le _⟩
  · exact (tup2 DE.str (pickN (DE.take h0 (by decide) (by decide)))).imp fun d ⟨x, y, e, e1, i, e2⟩ => ⟨.var i, by rw [e, e1, e2]; rfl, trivial, Nat.zero_le _⟩
theorem expr_spec : ∀ (k n : Nat), k + 2 < n → EE N tp k n
  | k, 0, h => by omega
  | k, n + 1, h => fun A t => by
    obtain ⟨m, rfl⟩ : ∃ m, n = m + 1 := ⟨n - 1, by omega⟩
    rw [wR_call (fd := fn_23) rfl rfl]
    show wS (sx _ N fn_23.body [some (.ref tp), some (.int (k : Nat))] A) _ _ _ _
    rw [fn_23, wS_seq, wS_ite, wR_tru, wR_or, wR_cmp, wR_v1, wR_int, eq_int]
    show wR (ofO (some (D.bl (decide ((k : Int) = 0)))) A) _
    rw [wR_some, truth_bl, wR_some]
    have leaf : ∀ A1, Dr tp A A1 → wS (sx (callF pg N (m + 1)) N (.seq (.ret (.ite (.cmp .eq (.call "_law_take" (.cons (.var 0) (.cons (.int 3) .nil))) (.int 0)) (.tup (.cons (.str "int") (.cons (.call "_law_take" (.cons (.var 0) (.cons (.int 4) .nil))) .nil))) (.tup (.cons (.str "var") (.cons (.ix (.lst (.cons (.str "a") (.cons (.str "b") (.cons (.str "c") (.cons (.str "d") .nil))))) (.call "_law_take" (.cons (.var 0) (.cons (.int 4) .nil)))) .nil))))) .skip) [some (.ref tp), some (.int (k : Nat))] A1) (fun _ _ => False) (fun _ _ => False) (fun _ _ => False) (fun r A' => XE k r ∧ Dr tp A A') := fun A1 d1 => by
      rw [wS_seq, wS_ret]
      exact leafX rfl A1 d1.tape _ fun d A2 s d2 => ⟨s, d1.trans d2⟩
    have fall : ∀ {b : Sm} {A1 : AH} {Pn : Fr → AH → Prop}, wS (sx (callF pg N (m + 1)) N b [some (.ref tp), some (.int (k : Nat))] A1) (fun _ _ => False) (fun _ _ => False) (fun _ _ => False) (fun r A' => XE k r ∧ Dr tp A A') → wS (sx (callF pg N (m + 1)) N b [some (.ref tp), some (.int (k : Nat))] A1) Pn (fun _ _ => False) (fun _ _ => False) (fun r A' => XE k r ∧ Dr tp A A') := fun h => h.mono (fun _ _ z => z.elim) (fun _ _ z => z) (fun _ _ z => z) (fun _ _ z => z)
    by_cases h0 : (k : Int) = 0
    · rw [if_pos (decide_eq_true h0), truth_bl, wR_some, if_pos (decide_eq_true h0)]
      exact fall (leaf A (.refl t))
    rw [if_neg (by rw [decide_eq_false h0]; exact Bool.false_ne_true)]
    refine (DE.eq ((DE.take rfl (by decide) (by decide)).imp fun d ⟨k, e, _⟩ => ⟨k, e⟩)) A t _ fun d A1 ⟨r, e⟩ d1 => ?_
    subst e
    rw [truth_bl, wR_some]
    cases r with
    | true => rw [if_pos rfl]; exact fall (leaf A1 d1)
    | false =>
      rw [if_neg (by decide), wS_skip, wS_seq, wS_ret]
      obtain ⟨j, rfl⟩ : ∃ j, k = j + 1 := ⟨k - 1, by omega⟩
      have sub : DE (callF pg N (m + 1)) tp [some (.ref tp), some (.int ((j + 1 : Nat) : Int))] (.call "_law_expression" (.cons (.var 0) (.cons (.op .sub (.var 1) (.int 1)) .nil))) (XE j) := fun A2 t2 P p => by
        rw [wR_cl, wR_cons, wR_v0, wR_cons, wR_op, wR_v1, wR_int]
        have : opB A2 .sub (.int ((j + 1 : Nat) : Int)) (.int 1) = .ok (.int (j : Nat)) A2 := by
          show Res.ok (D.int (((j + 1 : Nat) : Int) - 1)) A2 = _
          rw [show ((j + 1 : Nat) : Int) - 1 = (j : Nat) by omega]
        rw [this, wR_ok, wR_nil]
        exact (expr_spec j (m + 1) (by omega) A2 t2).mono fun r A3 ⟨x, d⟩ => p r A3 x d
      refine (tup4 DE.str (pickS (DE.take rfl (by decide) (by decide))) sub sub) A1 d1.tape _ fun d A2 ⟨x, y, z, w, e, e1, ⟨s, e2⟩, ⟨a, ea, oa, ha⟩, ⟨b, eb, ob, hb⟩⟩ d2 => ?_
      refine ⟨⟨.op s a b, by rw [e, e1, e2, ea, eb]; rfl, ⟨oa, ob⟩, ?_⟩, d1.trans d2⟩
      show max (eh a) (eh b) + 1 ≤ j + 1
      omega
end
end K29

/-! ## K29M -/
/-! K29M: drawn programs. -/
namespace K29
open Ev
section
variable {N tp : Nat}
def XP (k : Nat) (d : D) : Prop := ∃ p, d = pD p ∧ pok p ∧ ph p ≤ 2 * k + 3
def EP (N tp k n : Nat) : Prop := ∀ A, TapeOk A tp → wR (callF pg N n "_law_program" [.ref tp, .int (k : Nat)] A) (fun r A' => XP k r ∧ Dr tp A A')
theorem exprD {n : Nat} {F : Fr} {j : Nat} (h0 : F[0]? = some (some (.ref tp))) (hn : j + 2 < n) : DE (callF pg N n) tp F (.call "_law_expression" (.cons (.var 0) (.cons (.int (j : Nat)) .nil))) (XE j) := fun A t P p => by
  rw [wR_cl, wR_cons, wR_var h0, wR_cons, wR_int, wR_nil]
  exact (expr_spec j n hn A t).mono fun r A' ⟨x, d⟩ => p r A' x d
theorem skipD {cl : Cl0} {F : Fr} : DE cl tp F (.tup (.cons (.str "skip") .nil)) (fun d => d = pD .skip) := (DE.tup (DL.cons DE.str DL.nil) fun ds ⟨d, r, e, _, e2⟩ => by rw [e, e2]; simp).imp fun d ⟨ds, e, x, r, e1, s, e2⟩ => by rw [e, e1, e2, s]; rfl
theorem leafP {m : Nat} {F : Fr} {k : Nat} (h0 : F[0]? = some (some (.ref tp))) (hm : 4 < m + 1) : DE (callF pg N (m + 1)) tp F (.ite (.cmp .gt (.call "_law_take" (.cons (.var 0) (.cons (.int 6) .nil))) (.int 0)) (.tup (.cons (.str "set") (.cons (.ix (.lst (.cons (.str "a") (.cons (.str "b") (.cons (.str "c") (.cons (.str "d") .nil))))) (.call "_law_take" (.cons (.var 0) (.cons (.int 4) .nil)))) (.cons (.call "_law_expression" (.cons (.var 0) (.cons (.int 2) .nil))) .nil)))) (.tup (.cons (.str "skip") .nil))) (XP k) := by
  refine DE.cond (DE.gt ((DE.take h0 (by decide) (by decide)).imp fun d ⟨k, e, _⟩ => ⟨k, e⟩)) ?_ ?_
  · exact (tup3 DE.str (pickN (DE.take h0 (by decide) (by decide))) (exprD (j := 2) h0 (by omega))).imp fun d ⟨x, y, z, e, e1, ⟨i, e2⟩, ⟨a, ea, oa, ha⟩⟩ => ⟨.set i a, by rw [e, e1, e2, ea]; rfl, oa, by show eh a + 1 ≤ _; omega⟩
  · exact skipD.imp fun d e => ⟨.skip, e, trivial, Nat.zero_le _⟩
theorem prog_spec : ∀ (k n : Nat), k + 6 < n → EP N tp k n
  | k, 0, h => by omega
  | k, n + 1, h => fun A t => by
    obtain ⟨m, rfl⟩ : ∃ m, n = m + 1 := ⟨n - 1, by omega⟩
    rw [wR_call (fd := fn_24) rfl rfl]
    show wS (sx _ N fn_24.body [some (.ref tp), some (.int (k : Nat)), none] A) _ _ _ _
    rw [fn_24, wS_seq, wS_ite, wR_tru, wR_or, wR_cmp, wR_v1, wR_int, eq_int]
    show wR (ofO (some (D.bl (decide ((k : Int) = 0)))) A) _
    rw [wR_some, truth_bl, wR_some]
    have rt : ∀ {F : Fr} {A1 : AH} {e : Ex} {rest : Sm} {Pn Pb Pc : Fr → AH → Prop}, Dr tp A A1 → DE (callF pg N (m + 1)) tp F e (XP k) → wS (sx (callF pg N (m + 1)) N (.seq (.ret e) rest) F A1) Pn Pb Pc (fun r A' => XP k r ∧ Dr tp A A') := fun d1 h => by
      rw [wS_seq, wS_ret]
      exact h _ d1.tape _ fun d A2 s d2 => ⟨s, d1.trans d2⟩
    by_cases h0 : (k : Int) = 0
    · rw [if_pos (decide_eq_true h0), truth_bl, wR_some, if_pos (decide_eq_true h0)]
      exact rt (.refl t) (leafP rfl (by omega))
    rw [if_neg (by rw [decide_eq_false h0]; exact Bool.false_ne_true)]
    refine (DE.eq ((DE.take rfl (by decide) (by decide)).imp fun d ⟨k, e, _⟩ => ⟨k, e⟩)) A t _ fun d A1 ⟨r, e⟩ d1 => ?_
    subst e
    rw [truth_bl, wR_some]
    cases r with
    | true => rw [if_pos rfl]; exact rt d1 (leafP rfl (by omega))
    | false =>
      rw [if_neg (by decide), wS_skip, wS_seq, wS_set]
      refine (DE.take rfl (by decide) (by decide)) A1 d1.tape _ fun d A2 ⟨pk, e, _, _⟩ d2 => ?_
      subst e
      have d2 := d1.trans d2
      obtain ⟨j, rfl⟩ : ∃ j, k = j + 1 := ⟨k - 1, by omega⟩
      show wS (sx _ N _ [some (.ref tp), some (.int ((j + 1 : Nat) : Int)), some (.int pk)] A2) _ _ _ _
      have sub : DE (callF pg N (m + 1)) tp [some (.ref tp), some (.int ((j + 1 : Nat) : Int)), some (.int pk)] (.call "_law_program" (.cons (.var 0) (.cons (.op .sub (.var 1) (.int 1)) .nil))) (XP j) := fun A2 t2 P p => by
        rw [wR_cl, wR_cons, wR_v0, wR_cons, wR_op, wR_v1, wR_int]
        have : opB A2 .sub (.int ((j + 1 : Nat) : Int)) (.int 1) = .ok (.int (j : Nat)) A2 := by
          show Res.ok (D.int (((j + 1 : Nat) : Int) - 1)) A2 = _
          rw [show ((j + 1 : Nat) : Int) - 1 = (j : Nat) by omega]
        rw [this, wR_ok, wR_nil]
        exact (prog_spec j (m + 1) (by omega) A2 t2).mono fun r A3 ⟨x, d⟩ => p r A3 x d
      have lt : ∀ {z : Int} {a b : Sm} {Pn Pb Pc : Fr → AH → Prop} {Pr : D → AH → Prop}, wS (sx (callF pg N (m + 1)) N a [some (.ref tp), some (.int ((j + 1 : Nat) : Int)), some (.int pk)] A2) (fun F A => wS (sx (callF pg N (m + 1)) N b F A) Pn Pb Pc Pr) Pb Pc Pr → wS (sx (callF pg N (m + 1)) N b [some (.ref tp), some (.int ((j + 1 : Nat) : Int)), some (.int pk)] A2) Pn Pb Pc Pr →
          wS (sx (callF pg N (m + 1)) N (.seq (.ite (.cmp .lt (.var 2) (.int z)) a .skip) b) [some (.ref tp), some (.int ((j + 1 : Nat) : Int)), some (.int pk)] A2) Pn Pb Pc Pr := fun {z a b Pn Pb Pc Pr} h1 h2 => by
        rw [wS_seq, wS_ite, wR_tru, wR_cmp, wR_v2, wR_int, lt_int]
        show wR (ofO (some (D.bl (decide (pk < z)))) A2) _
        rw [wR_some, truth_bl, wR_some]
        by_cases hz : pk < z
        · rw [if_pos (decide_eq_true hz)]; exact h1
        · rw [if_neg (by rw [decide_eq_false hz]; exact Bool.false_ne_true), wS_skip]; exact h2
      refine lt (rt d2 ?_) (lt (rt d2 ?_) (rt d2 ?_))
      · exact (tup3 DE.str sub sub).imp fun d ⟨x, y, z, e, e1, ⟨a, ea, oa, ha⟩, ⟨b, eb, ob, hb⟩⟩ => ⟨.thn a b, by rw [e, e1, ea, eb]; rfl, ⟨oa, ob⟩, by show max (ph a) (ph b) + 1 ≤ _; omega⟩
      · exact (tup4 DE.str (exprD (j := 1) rfl (by omega)) sub sub).imp fun d ⟨x, y, z, w, e, e1, ⟨c, ec, oc, hc⟩, ⟨a, ea, oa, ha⟩, ⟨b, eb, ob, hb⟩⟩ => ⟨.iff c a b, by rw [e, e1, ec, ea, eb]; rfl, ⟨oc, oa, ob⟩, by show max (eh c) (max (ph a) (ph b)) + 1 ≤ _; omega⟩
      · refine (tup3 DE.str (tup4 DE.str DE.str (tup2 DE.str DE.str) (tup2 DE.str (DE.take rfl (by decide) (by decide)))) (tup3 DE.str sub (tup3 DE.str DE.str (tup4 DE.str DE.str (tup2 DE.str DE.str) (tup2 DE.str DE.int))))).imp ?_
        rintro d ⟨x, y, z, e, e1, ⟨c1, c2, c3, c4, e2, e3, e4, ⟨v1, v2, e5, e6, e7⟩, ⟨i1, i2, e8, e9, i, e10, i0, i1'⟩⟩, ⟨t1, t2, t3, e11, e12, ⟨a, ea, oa, ha⟩, ⟨s1, s2, s3, e13, e14, e15, ⟨o1, o2, o3, o4, e16, e17, e18, ⟨w1, w2, e19, e20, e21⟩, ⟨n1, n2, e22, e23, e24⟩⟩⟩⟩⟩
        refine ⟨.whl (.op .lt (.var .d) (.int i)) (.thn a (.set .d (.op .add (.var .d) (.int 1)))), ?_, ⟨⟨trivial, i0, by show i < 4294967296; omega⟩, oa, trivial, by decide, by decide⟩, ?_⟩
        · subst e e1 e2 e3 e4 e5 e6 e7 e8 e9 e10 e11 e12 e13 e14 e15 e16 e17 e18 e19 e20 e21 e22 e23 e24 ea
          rfl
        · show max (max 0 0 + 1) (max (ph a) (max 0 0 + 1 + 1) + 1) + 1 ≤ _
          omega
end
end K29

/-! ## K29N -/
/-! K29N: runs that do not end. -/
namespace K29
open Ev
section
variable {N s k : Nat}
/-- a turn: fuel, word -/
theorem go_head {n : Nat} {A : AH} {f : Int} {xs : List D} {w : String} {P : PX} (hS : A[s]? = some (runO k f)) (h0 : L2.atI xs 0 = some (.str w)) (hz : f = 0 → P.ex ⟨"Tired", []⟩ [some (.ref s), some (.tup xs), none] A)
    (h : f ≠ 0 → wT (sx (callF pg N n) N (drp 3 fn_14_1.body) [some (.ref s), some (.tup xs), some (.str w)] (A.set s (runO k (f - 1)))) P) : wT (sx (callF pg N n) N fn_14_1.body [some (.ref s), some (.tup xs), none] A) P := by
  show wT (sx _ N (.seq (.ite (.cmp .eq (.fld (.var 0) "SecretRun" "fuel") (.int 0)) (.seq (.rs0 "Tired") .skip) .skip) (.seq (.fau (.var 0) "SecretRun" "fuel" .sub (.int 1)) (.seq (.set 2 (.ix (.var 1) (.int 0))) (drp 3 fn_14_1.body)))) _ A) _
  rw [wT_seq]
  apply wT_if
  rw [wR_cmp, wR_fld, wR_v0, fuel_at hS, wR_some, wR_int, eq_int]
  show wR (ofO (some (D.bl (decide (f = 0)))) A) _
  rw [wR_some, truth_bl, wR_some]
  by_cases h0' : f = 0
  · rw [if_pos (decide_eq_true h0'), wT_seq, wT_rs0]
    exact hz h0'
  · rw [if_neg (by rw [decide_eq_false h0']; exact Bool.false_ne_true), wT_skip]
    dsimp only
    rw [wT_seq]
    apply wT_fau
    rw [wR_v0]
    refine ⟨_, fuel_at hS, ?_⟩
    rw [wR_int]
    refine ⟨.int (f - 1), rfl, _, fuel_set hS _, ?_⟩
    dsimp only
    rw [wT_seq]
    apply wT_setR
    rw [wR_tix (x := .str w) rfl h0]
    exact h h0'
def goW : Sm := (.seq (.ite (.cmp .eq (.var 2) (.str "set")) (.seq (.sub (.fld (.var 0) "SecretRun" "known") (.ix (.var 1) (.int 1)) (.call "reckoned" (.cons (.ix (.var 1) (.int 2)) (.cons (.fld (.var 0) "SecretRun" "known") .nil)))) .skip)
        (.seq (.ite (.cmp .eq (.var 2) (.str "then")) (.seq (.ex (.mc "SecretRun" "go" "SecretRun.go" (.var 0) (.cons (.ix (.var 1) (.int 1)) .nil))) (.seq (.ex (.mc "SecretRun" "go" "SecretRun.go" (.var 0) (.cons (.ix (.var 1) (.int 2)) .nil))) .skip))
        (.seq (.ite (.cmp .eq (.var 2) (.str "if")) (.seq (.ex (.mc "SecretRun" "go" "SecretRun.go" (.var 0) (.cons (.ite (.cmp .ne (.call "reckoned" (.cons (.ix (.var 1) (.int 1)) (.cons (.fld (.var 0) "SecretRun" "known") .nil))) (.int 0)) (.ix (.var 1) (.int 2)) (.ix (.var 1) (.int 3))) .nil))) .skip)
        (.seq (.ite (.and (.cmp .eq (.var 2) (.str "while")) (.cmp .ne (.call "reckoned" (.cons (.ix (.var 1) (.int 1)) (.cons (.fld (.var 0) "SecretRun" "known") .nil))) (.int 0))) (.seq (.ex (.mc "SecretRun" "go" "SecretRun.go" (.var 0) (.cons (.ix (.var 1) (.int 2)) .nil))) (.seq (.ex (.mc "SecretRun" "go" "SecretRun.go" (.var 0) (.cons (.var 1) .nil))) .skip)) .skip) .skip)) .skip)) .skip)) .skip)
theorem goW_eq : drp 3 fn_14_1.body = goW := rfl
theorem go_skip {n : Nat} {A : AH} {f : Int} (hS : A[s]? = some (runO k f)) : wE (callF pg N (n + 1) "SecretRun.go" [.ref s, .tup [.str "skip"]] A) (fun r A' => A' = A.set s (runO k (f - 1)) ∧ f ≠ 0) (fun x A' => x = ⟨"Tired", []⟩) := by
  rw [wE_call (fd := fn_14_1) rfl rfl]
  refine go_head (w := "skip") hS rfl (fun _ => rfl) fun hf => ?_
  generalize A.set s (runO k (f - 1)) = A1
  rw [goW_eq, goW]
  rw [wT_seq, wT_word rfl, if_neg (by decide), wT_seq, wT_word rfl, if_neg (by decide), wT_seq, wT_word rfl, if_neg (by decide), wT_seq]
  apply wT_if
  rw [wR_and, wR_cmp, wR_v2, wR_str, eq_str]
  show wR (ofO (some (D.bl false)) A1) _
  rw [wR_some, truth_bl, wR_some, if_neg (by decide), truth_bl, wR_some, if_neg (by decide), wT_skip]
  dsimp only
  rw [wT_skip]
  dsimp only
  rw [wT_skip]
  dsimp only
  rw [wT_skip]
  dsimp only
  rw [wT_skip]
  exact ⟨rfl, hf⟩
abbrev loopD : D := .tup [.str "while", .tup [.str "int", .int 1], .tup [.str "skip"]]
theorem go_loop : ∀ (m f n : Nat) (A : AH), f ≤ 2 * m → m + 3 < n → A[s]? = some (runO k (f : Nat)) → wE (callF pg N n "SecretRun.go" [.ref s, loopD] A) (fun _ _ => False) (fun x _ => x = ⟨"Tired", []⟩)
  | m, f, 0, A, _, h, _ => by omega
  | m, f, n + 1, A, hf, hn, hS => by
    rw [wE_call (fd := fn_14_1) rfl rfl]
    refine go_head (w := "while") hS rfl (fun _ => rfl) fun h0 => ?_
    have hS1 : (A.set s (runO k ((f : Int) - 1)))[s]? = some (runO k ((f : Int) - 1)) := set_at hS
    generalize A.set s (runO k ((f : Int) - 1)) = A1 at hS1
    rw [goW_eq, goW]
    rw [wT_seq, wT_word rfl, if_neg (by decide), wT_seq, wT_word rfl, if_neg (by decide), wT_seq, wT_word rfl, if_neg (by decide), wT_seq]
    apply wT_if
    rw [wR_and, wR_cmp, wR_v2, wR_str, eq_str]
    show wR (ofO (some (D.bl true)) A1) _
    rw [wR_some, truth_bl, wR_some, if_pos rfl, wR_cmp, wR_cl, wR_cons, wR_tix (x := .tup [.str "int", .int 1]) rfl rfl, wR_cons, wR_fld, wR_v0, known_at hS1, wR_some, wR_nil]
    obtain ⟨n, rfl⟩ : ∃ j, n = j + 1 := ⟨n - 1, by omega⟩
    apply wR_eq (a := .int 1) (A := A1) (by kernel_rfl)
    rw [wR_int]
    apply wR_eq (a := .bl true) (A := A1) (by kernel_rfl)
    rw [truth_bl, wR_some, if_pos rfl, wT_seq, wT_ex]
    apply wE_mc
    rw [wR_v0]
    refine ⟨go_me hS1, ?_⟩
    rw [wR_cons, wR_tix (x := .tup [.str "skip"]) rfl rfl, wR_nil]
    apply (go_skip hS1).mono
    · rintro r A2 ⟨e, h1⟩
      have hS2 : A2[s]? = some (runO k ((f : Int) - 1 - 1)) := by rw [e]; exact set_at hS1
      dsimp only
      rw [wT_seq, wT_ex]
      apply wE_mc
      rw [wR_v0]
      refine ⟨go_me hS2, ?_⟩
      rw [wR_cons, wR_v1, wR_nil]
      have hg : (f : Int) - 1 - 1 = ((f - 2 : Nat) : Int) := by omega
      rw [hg] at hS2
      apply (go_loop (m - 1) (f - 2) (n + 1) A2 (by omega) (by omega) hS2).mono
      · exact fun _ _ z => z.elim
      · exact fun x A3 e => e
    · exact fun x A2 e => e
theorem loop_run {A : AH} {va n : Nat} (hn : 160 < n) (hA : A[va]? = some (.dct [])) : wR (callF pg N (n + 1) "run_secret" [loopD, .ref va, .int 300] A) (fun r A' => r = .non) := by
  obtain ⟨n, rfl⟩ : ∃ m, n = m + 1 := ⟨n - 1, by omega⟩
  apply wR_of
  rw [wE_call (fd := fn_15) rfl rfl]
  show wT (sx _ N fn_15.body [some loopD, some (.ref va), some (.int 300), none] A) _
  rw [fn_15, wT_seq]
  apply wT_setR
  apply wR_mk
  rw [wR_cons, wR_v1, wR_cons, wR_v2, wR_nil]
  apply (init_spec hA).mono
  rintro r A1 ⟨er, kp, k, hs, hk, hnk⟩
  refine ⟨er, ?_⟩
  have ef : fset [some loopD, some (.ref va), some (.int 300), none] 3 (.ref A.length) = [some loopD, some (.ref va), some (.int 300), some (.ref A.length)] := rfl
  rw [ef]
  dsimp only
  rw [wT_seq, wT_tr, wT_seq, wT_ex]
  apply wE_mc
  rw [wR_v3]
  refine ⟨go_me hs, ?_⟩
  rw [wR_cons, wR_v0, wR_nil]
  apply (go_loop 150 300 (n + 1) A1 (by decide) (by omega) hs).mono
  · exact fun _ _ z => z.elim
  · intro x A2 ex
    rw [ex]
    dsimp only
    have e : trR "Tired" ["TypeProblem", "Tired"] none (.ret .non) (.exc ⟨"Tired", []⟩ [some loopD, some (.ref va), some (.int 300), some (.ref A.length)] A2) = .rt .non A2 := by kernel_rfl
    apply wT_of_eq e
    rfl
theorem zero_run {A : AH} {va n : Nat} {kvs : List (D × D)} (hA : A[va]? = some (.dct kvs)) : wR (callF pg N (n + 2) "run_secret" [.tup [.str "skip"], .ref va, .int 0] A) (fun r A' => r = .non) := by
  apply wR_of
  rw [wE_call (fd := fn_15) rfl rfl]
  show wT (sx _ N fn_15.body [some (.tup [.str "skip"]), some (.ref va), some (.int 0), none] A) _
  rw [fn_15, wT_seq]
  apply wT_setR
  apply wR_mk
  rw [wR_cons, wR_v1, wR_cons, wR_v2, wR_nil]
  apply (init_spec hA).mono
  rintro r A1 ⟨er, kp, k, hs, hk, hnk⟩
  refine ⟨er, ?_⟩
  have ef : fset [some (.tup [.str "skip"]), some (.ref va), some (.int 0), none] 3 (.ref A.length) = [some (.tup [.str "skip"]), some (.ref va), some (.int 0), some (.ref A.length)] := rfl
  rw [ef]
  dsimp only
  rw [wT_seq, wT_tr, wT_seq, wT_ex]
  apply wE_mc
  rw [wR_v3]
  refine ⟨go_me hs, ?_⟩
  rw [wR_cons, wR_v0, wR_nil]
  apply (go_skip hs).mono
  · rintro _ _ ⟨_, z⟩
    exact absurd rfl z
  · intro x A2 ex
    rw [ex]
    dsimp only
    have e : trR "Tired" ["TypeProblem", "Tired"] none (.ret .non) (.exc ⟨"Tired", []⟩ [some (.tup [.str "skip"]), some (.ref va), some (.int 0), some (.ref A.length)] A2) = .rt .non A2 := by kernel_rfl
    apply wT_of_eq e
    rfl
end
end K29

/-! ## K29O -/
/-! K29O: rows over the four names. -/
namespace K29
open Ev
/-- nothing of the heap changes -/
theorem lcP {asg : D → Fr → Option Fr} {g : Guard} {body : Fr → AH → Res (Option D)} {F : Fr} {A : AH} (f : Nm → Option D) (hg : gOk A g = true) : ∀ (xs : List Nm) (acc : List D), (∀ x, ∃ F', asg (.str x.s) F = some F' ∧ body F' A = .ok (f x) A) → acc.length + xs.length ≤ 1000 →
    lcL asg g body F (xs.map fun x => D.str x.s) acc A = .ok (acc ++ xs.filterMap f) A
  | [], acc, _, _ => by unfold lcL; simp [hg]
  | x :: r, acc, h, hl => by
    obtain ⟨F', h1, h2⟩ := h x
    rw [List.length_cons] at hl
    have hz : acc.length < PySem.sizeLine := by rw [ev_sz]; omega
    rw [List.map_cons]
    unfold lcL
    simp only [h1, h2, bnd, hg, if_true, if_pos hz]
    cases e : f x with
    | some y =>
      simp only
      rw [lcP f hg r (acc ++ [y]) h (by rw [List.length_append]; simp; omega)]
      simp [e]
    | none =>
      simp only
      rw [lcP f hg r acc h (by omega)]
      simp [e]
theorem dict_pairs {A : AH} {a : Nat} {xs : List D} {kvs : List (D × D)} (h : A[a]? = some (.lst xs)) (hp : pairsOf xs = some kvs) (hl : kvs.length ≤ 1000) : biF A "dict" [.ref a] = .ok (.ref A.length) (A ++ [.dct (dmerge [] kvs)]) := by
  show biDict A [.ref a] = _
  have h1 : dctL A a = none := by simp [dctL, h]
  have h2 : (seqL A a).bind pairsOf = some kvs := by simp [seqL, h, hp]
  have h3 : kvs.length ≤ PySem.sizeLine := by rw [ev_sz]; omega
  simp only [biDict, h1, h2, if_pos h3]
theorem lv_tp {A : AH} {tp va : Nat} {V : En} (t : TapeOk A tp) (h : A[va]? = some (.dct (lvD V))) : va ≠ tp := fun e => by
  obtain ⟨c, i, l, s, z, cells, h1, _⟩ := t
  rw [← e, h] at h1
  have h2 := congrArg List.length (AO.dct.inj (Option.some.inj h1))
  have h3 : (4 : Nat) = 5 := h2
  exact absurd h3 (by decide)
theorem lst_tp {A : AH} {tp va : Nat} {xs : List D} (t : TapeOk A tp) (h : A[va]? = some (.lst xs)) : va ≠ tp := fun e => by
  obtain ⟨c, i, l, s, z, cells, h1, _⟩ := t
  rw [← e, h] at h1
  cases h1
theorem Dr.fresh {tp : Nat} {A B : AH} (d : Dr tp A B) {n : Nat} (h : B[n]? = none) : A[n]? = none := by
  cases e : A[n]? with
  | none => rfl
  | some o =>
    by_cases z : n = tp
    · obtain ⟨c, i, l, s, z', cells, h1, _⟩ := d.tape
      rw [← z, h] at h1
      cases h1
    · rw [d.kp n o z e] at h
      cases h
/-! ### == -/
theorem eqv_ints (p : List Nat) : PySem.PyData.eqvAll (p.map fun (i : Nat) => PySem.PyData.int i) (p.map fun (i : Nat) => PySem.PyData.int i) = true := by
  induction p with
  | nil => rfl
  | cons i r ih => simp only [List.map_cons, PySem.PyData.eqvAll, ih, Bool.and_true]; rw [eqv_int]; simp
theorem ne_lk {A : AH} (o : Option (List Nat)) : opC A .ne (lkD o) (lkD o) = some false := by
  cases o with
  | none => kernel_rfl
  | some p =>
    show (Ev.eqD A (.tup (ptD p)) (.tup (ptD p))).map (!·) = _
    have h1 : toP A (.tup (ptD p)) = some (.tuple (p.map fun (i : Nat) => PySem.PyData.int i)) := by
      show (toPds (ptD p)).map PySem.PyData.tuple = _
      unfold ptD
      rw [toPds_ints]; rfl
    have h2 : PySem.PyData.eqv (.tuple (p.map fun (i : Nat) => PySem.PyData.int i)) (.tuple (p.map fun (i : Nat) => PySem.PyData.int i)) = true := eqv_ints p
    simp only [Ev.eqD, h1, shaped_ints, Bool.and_self, if_true, h2]
    rfl
theorem is_lk {A : AH} (o : Option (List Nat)) : opC A .is (lkD o) .non = some o.isNone := by cases o <;> rfl
theorem isnt_lk {A : AH} (o : Option (List Nat)) : opC A .isnt (lkD o) .non = some o.isSome := by cases o <;> rfl
theorem ne_bl {A : AH} (r : Bool) : opC A .ne (.bl r) (.bl r) = some false := by cases r <;> kernel_rfl
theorem sn_eq (L : En) (v : Int) (V : En) : eqK (sn L v V) (sn L v V) = some true ∧ dmerge [] (sn L v V) = sn L v V ∧ (sn L v V).length ≤ 4 := by
  unfold sn snP
  have eh : ∀ {kb : List (D × D)} {k : D} {i : Int} {r : List (D × D)}, dget kb k = some (.int i) → eqH kb r = some true → eqH kb ((k, .int i) :: r) = some true := fun h1 h2 => by rw [eqH_lv h1, h2]; simp
  have e0 : ∀ {kb : List (D × D)}, eqH kb [] = some true := rfl
  have ek : ∀ {ka : List (D × D)}, eqH ka ka = some true → eqK ka ka = some true := fun h => by unfold eqK; rw [if_pos rfl]; exact h
  by_cases h1 : L .a ≤ v <;> by_cases h2 : L .b ≤ v <;> by_cases h3 : L .c ≤ v <;> by_cases h4 : L .d ≤ v <;>
    (simp only [List.filter, h1, h2, h3, h4, decide_true, decide_false, List.map_cons, List.map_nil]
     refine ⟨ek ?_, rfl, by simp⟩
     first
       | exact e0
       | exact eh rfl e0
       | exact eh rfl (eh rfl e0)
       | exact eh rfl (eh rfl (eh rfl e0))
       | exact eh rfl (eh rfl (eh rfl (eh rfl e0))))
theorem ne_sn {A : AH} {a b : Nat} {L : En} {v : Int} {V : En} (h1 : A[a]? = some (.dct (sn L v V))) (h2 : A[b]? = some (.dct (sn L v V))) : opC A .ne (.ref a) (.ref b) = some false := by
  show (eqO A (.ref a) (.ref b)).map (!·) = _
  have g1 : dctO A (.ref a) = some (sn L v V) := by simp [dctO, h1]
  have g2 : dctO A (.ref b) = some (sn L v V) := by simp [dctO, h2]
  simp only [eqO, g1, g2, (sn_eq L v V).1]
  rfl
/-! ### dicts of rows -/
abbrev rowE (c e : Ex) : Ex := .lc (.nm 12) (.wk (.var 2)) c e [12]
section
variable {cl : Cl0} {F : Fr} {nm tp : Nat} {A : AH}
theorem wk_nm (hn : A[nm]? = some (.lst ks4)) : wkOf A (.ref nm) = some ⟨ks4, [(nm, .lst ks4)], none⟩ := by simp [wkOf, hn]
/-- a row that changes nothing -/
theorem row_pure {c e : Ex} {P : D → AH → Prop} (f : Nm → Option D) (hF : F[2]? = some (some (.ref nm))) (hn : A[nm]? = some (.lst ks4))
    (h : ∀ x : Nm, lcB cl c e ((wipeF F [12]).set 12 (some (.str x.s))) A = .ok (f x) A) (p : P (.ref A.length) (A ++ [.lst ([Nm.a, .b, .c, .d].filterMap f)])) : wR (ev cl (rowE c e) F A) P := by
  rw [wR_lc, wR_wk, wR_var hF, wk_nm hn, wR_some]
  have e1 := lcP (asg := asgT (.nm 12)) (g := [(nm, .lst ks4)]) (body := lcB cl c e) (F := wipeF F [12]) f (gOk_one hn) [.a, .b, .c, .d] [] (fun x => ⟨_, rfl, h x⟩) (by decide)
  have e2 : ks4 = [Nm.a, .b, .c, .d].map fun x => D.str x.s := rfl
  dsimp only
  rw [e2, ← e2]
  have e3 : lcL (asgT (.nm 12)) [(nm, .lst ks4)] (lcB cl c e) (wipeF F [12]) ks4 [] (lockA A none) = .ok ([] ++ [Nm.a, .b, .c, .d].filterMap f) A := e1
  rw [e3]
  exact wR_ok.mpr p
theorem row_step {Q : Nm → Int → Prop} {e : Ex} {P : List D → AH → Prop} {A A1 : AH} {r acc : List D} {x : Nm} (t : TapeOk A tp) (hn : A[nm]? = some (.lst ks4)) (hl : 12 < F.length)
    (he : ∀ x A', Dr tp A A' → ∀ P' : D → AH → Prop, (∀ i A2, Q x i → Dr tp A' A2 → P' (.int i) A2) → wR (ev cl e ((wipeF F [12]).set 12 (some (.str x.s))) A') P')
    (d : Dr tp A A1) (hz : acc.length ≤ 10) (k : ∀ i A2, Q x i → Dr tp A A2 → wR (lcL (asgT (.nm 12)) [(nm, .lst ks4)] (lcB cl .nil (.tup (.cons (.var 12) (.cons e .nil)))) (wipeF F [12]) r (acc ++ [.tup [.str x.s, .int i]]) A2) P) :
    wR (lcL (asgT (.nm 12)) [(nm, .lst ks4)] (lcB cl .nil (.tup (.cons (.var 12) (.cons e .nil)))) (wipeF F [12]) (.str x.s :: r) acc A1) P := by
  apply lcL_cons (F' := (wipeF F [12]).set 12 (some (.str x.s))) (gOk_one (d.kp _ _ (lst_tp t hn) hn)) rfl
  rw [wR_lcB, wR_evc0, if_pos rfl, wR_tup, wR_cons, wR_var (d := .str x.s), wR_cons]
  · apply he x A1 d
    intro i A2 q d2
    rw [wR_nil, wR_ifok (sz1 (by simp))]
    exact ⟨by rw [ev_sz]; omega, k i A2 q (d.trans d2)⟩
  · have : (wipeF F [12]).length = F.length := by show (F.set 12 none).length = _; simp
    rw [List.getElem?_set_self (by omega)]
theorem row_draw {Q : Nm → Int → Prop} {e : Ex} {P : D → AH → Prop} (hF : F[2]? = some (some (.ref nm))) (hl : 12 < F.length) (t : TapeOk A tp) (hn : A[nm]? = some (.lst ks4))
    (he : ∀ x A', Dr tp A A' → ∀ P' : D → AH → Prop, (∀ i A2, Q x i → Dr tp A' A2 → P' (.int i) A2) → wR (ev cl e ((wipeF F [12]).set 12 (some (.str x.s))) A') P')
    (p : ∀ V a A', (∀ x, Q x (V x)) → Dr tp A A' → A[a]? = none → A'[a]? = some (.dct (lvD V)) → P (.ref a) A') : wR (ev cl (.bi "dict" (.cons (rowE .nil (.tup (.cons (.var 12) (.cons e .nil)))) .nil)) F A) P := by
  rw [wR_bi, wR_cons, wR_lc, wR_wk, wR_var hF, wk_nm hn, wR_some]
  show wR (bnd (lcL (asgT (.nm 12)) [(nm, .lst ks4)] (lcB cl .nil (.tup (.cons (.var 12) (.cons e .nil)))) (wipeF F [12]) [.str Nm.a.s, .str Nm.b.s, .str Nm.c.s, .str Nm.d.s] [] A) fun ds A2 => Res.ok (D.ref A2.length) (A2 ++ [.lst ds])) _
  rw [wR_bnd]
  apply row_step t hn hl he (.refl t) (by decide)
  intro ia A1 qa d1
  apply row_step t hn hl he d1 (by simp)
  intro ib A2 qb d2
  apply row_step t hn hl he d2 (by simp)
  intro ic A3 qc d3
  apply row_step t hn hl he d3 (by simp)
  intro id A4 qd d4
  apply lcL_nil (gOk_one (d4.kp _ _ (lst_tp t hn) hn))
  rw [wR_ok, wR_nil]
  rw [dict_pairs (kvs := [(.str "a", .int ia), (.str "b", .int ib), (.str "c", .int ic), (.str "d", .int id)]) new_at rfl (by simp), wR_ok]
  refine p (fun | .a => ia | .b => ib | .c => ic | .d => id) _ _ (fun x => by cases x <;> assumption) (d4.app.app) ?_ new_at
  exact Dr.fresh d4.app new_none
end
end K29

/-! ## K29P -/
/-! K29P: the law's turn. -/
namespace K29
open Ev
abbrev FR (s : D) (tp nm : Nat) (x3 x4 x5 x6 x7 x8 x9 x10 x11 x12 x13 x14 x15 x16 x17 : Option D) : Fr := [some s, some (.ref tp), some (.ref nm), x3, x4, x5, x6, x7, x8, x9, x10, x11, x12, x13, x14, x15, x16, x17]
section
variable {N : Nat}
theorem le_ok {A : AH} {i j : Int} : (opC A .le (.int i) (.int j)).map D.bl = some (D.bl (decide (i ≤ j))) := rfl
theorem seen_cmp {n : Nat} {F : Fr} {A : AH} {i j va ua bs : Nat} {v : Int} {V U B : En} {P : D → AH → Prop} (hi : F[i]? = some (some (.ref va))) (hj : F[j]? = some (some (.ref ua))) (h11 : F[11]? = some (some (.ref bs))) (h14 : F[14]? = some (some (.int v)))
    (hv : A[va]? = some (.dct (lvD V))) (hu : A[ua]? = some (.dct (lvD U))) (hb : A[bs]? = some (.dct (lvD B))) (n1 : va ≠ bs) (n2 : ua ≠ bs) (ag : agree B v V U) (p : ∀ A', Kp A A' → P (.bl false) A') :
    wR (ev (callF pg N (n + 1)) (.cmp .ne (.call "seen_at" (.cons (.var i) (.cons (.var 11) (.cons (.var 14) .nil)))) (.call "seen_at" (.cons (.var j) (.cons (.var 11) (.cons (.var 14) .nil))))) F A) P := by
  rw [wR_cmp, wR_cl, wR_cons, wR_var hi, wR_cons, wR_var h11, wR_cons, wR_var h14, wR_nil]
  apply (seen_spec n1 hv hb).mono
  rintro r A1 ⟨er, eA⟩
  have k1 : Kp A A1 := by rw [eA]; exact Kp.refl.app
  have hs1 : A1[A.length]? = some (.dct (sn B v V)) := by rw [eA]; exact new_at
  rw [er, wR_cl, wR_cons, wR_var hj, wR_cons, wR_var h11, wR_cons, wR_var h14, wR_nil]
  apply (seen_spec n2 (k1 _ _ hu) (k1 _ _ hb)).mono
  rintro r A2 ⟨er, eA⟩
  rw [← sn_agree ag] at eA
  have k2 : Kp A1 A2 := by rw [eA]; exact Kp.refl.app
  have hs2 : A2[A1.length]? = some (.dct (sn B v V)) := by rw [eA]; exact new_at
  rw [er, ne_sn (k2 _ _ hs1) hs2]
  show wR (ofO (some (D.bl false)) A2) _
  rw [wR_some]
  exact p A2 (k1.trans k2)
theorem isnt_ref {A : AH} {k : Nat} : (opC A .isnt (.ref k) .non).map D.bl = some (.bl true) := rfl
theorem isnt_non {A : AH} : (opC A .isnt .non .non).map D.bl = some (.bl false) := rfl
def lvB : Sm := match drp 2 fn_29.body with
  | .seq (.for _ _ b) _ => (match drp 12 b with
    | .seq (.for _ _ b) _ => b
    | _ => .skip)
  | _ => .skip
theorem pairs_of {V : En} : ∀ xs : List Nm, pairsOf (xs.map fun x => D.tup [.str x.s, .int (V x)]) = some (xs.map fun x => (D.str x.s, D.int (V x)))
  | [] => rfl
  | x :: r => by
    show (if keyOk (.str x.s) = true then (pairsOf (r.map fun x => D.tup [.str x.s, .int (V x)])).map ((.str x.s, .int (V x)) :: ·) else none) = _
    rw [if_pos (show keyOk (.str x.s) = true from rfl), pairs_of r]
    rfl
theorem fm_filter {α β : Type} (p : α → Bool) (g : α → β) (xs : List α) : xs.filterMap (fun x => if p x = true then some (g x) else none) = (xs.filter p).map g := by
  induction xs with
  | nil => rfl
  | cons x r ih =>
    by_cases h : p x = true
    · simp [h, ih]
    · simp [h, ih]
theorem lev_turn {s : D} {tp nm va bs : Nat} {A : AH} {p : Pr} {V B : En} {v : Int} {x3 x5 x6 x7 x9 x10 x12 x13 x15 x16 x17 : Option D} {Pn Pb Pc : Fr → AH → Prop} {Pr : D → AH → Prop}
    (t : TapeOk A tp) (hnm : A[nm]? = some (.lst ks4)) (hva : A[va]? = some (.dct (lvD V))) (hbs : A[bs]? = some (.dct (lvD B))) (hne : va ≠ bs) (hV : Eok V) (hp : pok p) (hb : ph p ≤ 11) (hs : safe B p 0)
    (k : ∀ x12 x15 x16 x17 A', Dr tp A A' → Pn (FR s tp nm x3 (some (pD p)) x5 x6 x7 (some (.ref va)) x9 x10 (some (.ref bs)) x12 x13 (some (.int v)) x15 x16 x17) A') :
    wS (sx (callF pg N 228) N lvB (FR s tp nm x3 (some (pD p)) x5 x6 x7 (some (.ref va)) x9 x10 (some (.ref bs)) x12 x13 (some (.int v)) x15 x16 x17) A) Pn Pb Pc Pr := by
  show wS (sx _ N (.seq (.set 15 (.bi "dict" (.cons (rowE .nil (.tup (.cons (.var 12) (.cons (.ite (.cmp .le (.ix (.var 11) (.var 12)) (.var 14)) (.ix (.var 8) (.var 12)) (.call "_law_take" (.cons (.var 1) (.cons (.int 5) .nil)))) .nil)))) .nil))) _) _ A) _ _ _ _
  rw [wS_seq, wS_set]
  apply row_draw (tp := tp) (nm := nm) (Q := fun x i => (B x ≤ v → V x = i) ∧ 0 ≤ i ∧ i < W32) rfl (by simp) t hnm
  · intro x A' d P' p'
    show wR (ev _ _ (FR s tp nm x3 (some (pD p)) x5 x6 x7 (some (.ref va)) x9 x10 (some (.ref bs)) (some (.str x.s)) x13 (some (.int v)) x15 x16 x17) A') _
    have hb' := d.kp _ _ (lv_tp t hbs) hbs
    have hv' := d.kp _ _ (lv_tp t hva) hva
    rw [wR_ite, wR_cmp, wR_ix, wR_var (d := .ref bs) rfl, wR_var (d := .str x.s) rfl, ix_lv hb', wR_some, wR_var (d := .int v) rfl, le_ok, wR_some, truth_bl, wR_some]
    by_cases hc : B x ≤ v
    · rw [if_pos (decide_eq_true hc), wR_ix, wR_var (d := .ref va) rfl, wR_var (d := .str x.s) rfl, ix_lv hv', wR_some]
      exact p' _ _ ⟨fun _ => rfl, hV x⟩ (.refl d.tape)
    · rw [if_neg (by simp [hc]), wR_cl, wR_cons, wR_var (d := .ref tp) rfl, wR_cons, wR_int, wR_nil]
      apply (take_spec rfl d.tape (by decide) (by decide)).mono
      rintro r A2 ⟨m, e, m0, m1, d2⟩
      rw [e]
      exact p' _ _ ⟨fun z => absurd z hc, m0, by show m < 4294967296; omega⟩ d2
  intro U ua A1 hU d1 hfr hua
  have hv1 := d1.kp _ _ (lv_tp t hva) hva
  have hb1 := d1.kp _ _ (lv_tp t hbs) hbs
  have hn1 := d1.kp _ _ (lst_tp t hnm) hnm
  have hub : ua ≠ bs := fun e => by rw [e, hbs] at hfr; cases hfr
  have ag : agree B v V U := fun x hx => (hU x).1 hx
  have hUo : Eok U := fun x => (hU x).2
  show wS (sx _ N (.seq (.asg (.tu (.cons (.nm 16) (.cons (.nm 17) .nil))) (.tup (.cons (.call "run_secret" (.cons (.var 4) (.cons (.var 8) (.cons (.int 160) .nil)))) (.cons (.call "run_secret" (.cons (.var 4) (.cons (.var 15) (.cons (.int 160) .nil)))) .nil)))) _) (FR s tp nm x3 (some (pD p)) x5 x6 x7 (some (.ref va)) x9 x10 (some (.ref bs)) x12 x13 (some (.int v)) (some (.ref ua)) x16 x17) A1) _ _ _ _
  rw [wS_seq, wS_asg, wR_tup, wR_cons, wR_cl, wR_cons, wR_var (d := pD p) rfl, wR_cons, wR_var (d := .ref va) rfl, wR_cons, wR_int, wR_nil]
  apply (run_spec (n := 227) (f := 160) hp hV (by omega) (by decide) hv1).mono
  rintro r1 A2 ⟨k2, hr1⟩
  rw [wR_cons, wR_cl, wR_cons, wR_var (d := pD p) rfl, wR_cons, wR_var (d := .ref ua) rfl, wR_cons, wR_int, wR_nil]
  apply (run_spec (n := 227) (f := 160) hp hUo (by omega) (by decide) (k2 _ _ hua)).mono
  rintro r2 A3 ⟨k3, hr2⟩
  rw [wR_nil, wR_ifok (sz1 (by simp))]
  refine ⟨_, rfl, ?_⟩
  show wS (sx _ N (.seq (.ite (.cmp .ne (.call "seen_at" (.cons (.var 8) (.cons (.var 11) (.cons (.var 14) .nil)))) (.call "seen_at" (.cons (.var 15) (.cons (.var 11) (.cons (.var 14) .nil))))) _ .skip) _) (FR s tp nm x3 (some (pD p)) x5 x6 x7 (some (.ref va)) x9 x10 (some (.ref bs)) x12 x13 (some (.int v)) (some (.ref ua)) (some r1) (some r2)) A3) _ _ _ _
  have k13 := k2.trans k3
  have hv3 := k13 _ _ hv1
  have hb3 := k13 _ _ hb1
  have hu3 := k13 _ _ hua
  rw [wS_seq, wS_ite, wR_tru]
  apply seen_cmp (va := va) (ua := ua) (bs := bs) (v := v) rfl rfl rfl rfl hv3 hu3 hb3 hne hub ag
  intro A4 k4
  rw [truth_bl, wR_some, if_neg (by decide), wS_skip]
  show wS (sx _ N (.seq (.ite (.and (.cmp .isnt (.var 16) .non) (.and (.cmp .isnt (.var 17) .non) (.cmp .ne (.call "seen_at" (.cons (.var 16) (.cons (.var 11) (.cons (.var 14) .nil)))) (.call "seen_at" (.cons (.var 17) (.cons (.var 11) (.cons (.var 14) .nil))))))) _ .skip) _) (FR s tp nm x3 (some (pD p)) x5 x6 x7 (some (.ref va)) x9 x10 (some (.ref bs)) x12 x13 (some (.int v)) (some (.ref ua)) (some r1) (some r2)) A4) _ _ _ _
  have hb4 := k4 _ _ hb3
  have hv4 := k4 _ _ hv3
  have d4 : Dr tp A A4 := d1.trans (.of d1.tape (k13.trans k4))
  have rest : ∀ A5, Kp A4 A5 → wS (sx (callF pg N 228) N (drp 4 lvB) (FR s tp nm x3 (some (pD p)) x5 x6 x7 (some (.ref va)) x9 x10 (some (.ref bs)) x12 x13 (some (.int v)) (some (.ref ua)) (some r1) (some r2)) A5) Pn Pb Pc Pr := by
    intro A5 k5
    show wS (sx _ N (.seq (.ite (.cmp .ne (.call "seen_at" (.cons (.var 8) (.cons (.var 11) (.cons (.var 14) .nil)))) (.bi "dict" (.cons (rowE (.cons (.cmp .le (.ix (.var 11) (.var 12)) (.var 14)) .nil) (.tup (.cons (.var 12) (.cons (.ix (.var 8) (.var 12)) .nil)))) .nil))) _ .skip) .skip) _ A5) _ _ _ _
    rw [wS_seq, wS_ite, wR_tru, wR_cmp, wR_cl, wR_cons, wR_var (d := .ref va) rfl, wR_cons, wR_var (d := .ref bs) rfl, wR_cons, wR_var (d := .int v) rfl, wR_nil]
    have hb5 := k5 _ _ hb4
    have hv5 := k5 _ _ hv4
    apply (seen_spec hne hv5 hb5).mono
    rintro r A6 ⟨er, eA⟩
    have k6 : Kp A5 A6 := by rw [eA]; exact Kp.refl.app
    have hs6 : A6[A5.length]? = some (.dct (sn B v V)) := by rw [eA]; exact new_at
    have hb6 := k6 _ _ hb5
    have hv6 := k6 _ _ hv5
    rw [er, wR_bi, wR_cons]
    have d6 : Dr tp A A6 := d4.trans (.of d4.tape (k5.trans k6))
    apply row_pure (fun x => if decide (B x ≤ v) = true then some (.tup [.str x.s, .int (V x)]) else none) rfl (d6.kp _ _ (lst_tp t hnm) hnm)
    · intro x
      show lcB (callF pg N 228) _ _ (FR s tp nm x3 (some (pD p)) x5 x6 x7 (some (.ref va)) x9 x10 (some (.ref bs)) (some (.str x.s)) x13 (some (.int v)) (some (.ref ua)) (some r1) (some r2)) A6 = _
      have e1 : evc (callF pg N 228) (.cons (.cmp .le (.ix (.var 11) (.var 12)) (.var 14)) .nil) (FR s tp nm x3 (some (pD p)) x5 x6 x7 (some (.ref va)) x9 x10 (some (.ref bs)) (some (.str x.s)) x13 (some (.int v)) (some (.ref ua)) (some r1) (some r2)) A6 = .ok (decide (B x ≤ v)) A6 := by
        show tru (bnd (bnd (Res.ok (D.ref bs) A6) fun x1 A1 => bnd (Res.ok (D.str x.s) A1) fun y A2 => ofO (opI A2 x1 y) A2) fun x1 A1 => bnd (Res.ok (D.int v) A1) fun y A2 => ofO ((opC A2 .le x1 y).map .bl) A2) = _
        simp only [bnd]
        rw [ix_lv hb6]
        rfl
      have e2 : ev (callF pg N 228) (.tup (.cons (.var 12) (.cons (.ix (.var 8) (.var 12)) .nil))) (FR s tp nm x3 (some (pD p)) x5 x6 x7 (some (.ref va)) x9 x10 (some (.ref bs)) (some (.str x.s)) x13 (some (.int v)) (some (.ref ua)) (some r1) (some r2)) A6 = .ok (.tup [.str x.s, .int (V x)]) A6 := by
        have e2w : wR (ev (callF pg N 228) (.tup (.cons (.var 12) (.cons (.ix (.var 8) (.var 12)) .nil))) (FR s tp nm x3 (some (pD p)) x5 x6 x7 (some (.ref va)) x9 x10 (some (.ref bs)) (some (.str x.s)) x13 (some (.int v)) (some (.ref ua)) (some r1) (some r2)) A6) (fun d A' => d = .tup [.str x.s, .int (V x)] ∧ A' = A6) := by
          rw [wR_tup, wR_cons, wR_var (d := .str x.s) rfl, wR_cons, wR_ix, wR_var (d := .ref va) rfl, wR_var (d := .str x.s) rfl, ix_lv hv6, wR_some, wR_nil, wR_ifok (sz1 (by simp))]
          exact ⟨rfl, rfl⟩
        obtain ⟨a, A', e, h1, h2⟩ := eq_of_wR e2w
        rw [e, h1, h2]
      unfold lcB
      rw [e1]
      by_cases hc : B x ≤ v
      · simp only [bnd, decide_eq_true hc, if_true, e2]; rfl
      · simp only [bnd, decide_eq_false hc]; rfl
    · rw [fm_filter, wR_nil, dict_pairs (kvs := sn B v V) new_at (pairs_of _) (by have := (sn_eq B v V).2.2; omega), wR_ok, (sn_eq B v V).2.1]
      rw [ne_sn (app_at (app_at hs6)) new_at]
      show wR (ofO (some (D.bl false)) _) _
      rw [wR_some, truth_bl, wR_some, if_neg (by decide), wS_skip, wS_skip]
      exact k _ _ _ _ _ (d6.app.app)
  rw [wS_seq, wS_ite, wR_tru, wR_and, wR_cmp, wR_var (d := r1) rfl, wR_non]
  rcases hr1 with rfl | ⟨k1, V1, rfl, hk1, hr1, b1⟩
  · rw [isnt_non, wR_some, truth_bl, wR_some, if_neg (by decide), truth_bl, wR_some, if_neg (by decide), wS_skip]
    exact rest A4 .refl
  rw [isnt_ref, wR_some, truth_bl, wR_some, if_pos rfl, wR_and, wR_cmp, wR_var (d := r2) rfl, wR_non]
  rcases hr2 with rfl | ⟨k2', V2, rfl, hk2, hr2, b2⟩
  · rw [isnt_non, wR_some, truth_bl, wR_some, if_neg (by decide), truth_bl, wR_some, if_neg (by decide), wS_skip]
    exact rest A4 .refl
  rw [isnt_ref, wR_some, truth_bl, wR_some, if_pos rfl]
  apply seen_cmp (va := k1) (ua := k2') (bs := bs) (v := v) rfl rfl rfl rfl (k4 _ _ (k3 _ _ hr1)) (k4 _ _ hr2) hb4
  · intro e; rw [e, hb1] at hk1; cases hk1
  · intro e; rw [e, k2 _ _ hb1] at hk2; cases hk2
  · exact nonint b1 hs ag b2
  intro A5 k5
  rw [truth_bl, wR_some, if_neg (by decide), wS_skip]
  exact rest A5 k5
end
end K29

/-! ## K29Q -/
/-! K29Q: the law. -/
namespace K29
open Ev
section
variable {N : Nat}
def lowB : Sm := match drp 2 fn_29.body with
  | .seq (.for _ _ b) _ => (match drp 11 b with
    | .seq (.for _ _ b) _ => b
    | _ => .skip)
  | _ => .skip
theorem low_turn {s : D} {tp nm va lv bs : Nat} {A : AH} {p : Pr} {V L B : En} {x : Nm} {x3 x6 x7 x8 x9 x10 x13 x14 x15 x16 x17 : Option D} {Pn Pb Pc : Fr → AH → Prop} {Pr : D → AH → Prop}
    (hlv : A[lv]? = some (.dct (lvD L))) (hbs : A[bs]? = some (.dct (lvD B))) (hb : ph p ≤ 11) (hup : le L B) (hle : ∀ M, le L M → safe M p 0 → le B M)
    (k : ∀ x13 A', Kp A A' → Pn (FR s tp nm x3 (some (pD p)) (some (.ref lv)) x6 x7 x8 x9 x10 (some (.ref bs)) (some (.str x.s)) x13 x14 x15 x16 x17) A') :
    wS (sx (callF pg N 228) N lowB (FR s tp nm x3 (some (pD p)) (some (.ref lv)) x6 x7 x8 x9 x10 (some (.ref bs)) (some (.str x.s)) x13 x14 x15 x16 x17) A) Pn Pb Pc Pr := by
  show wS (sx _ N (.seq (.set 13 (.bi "dict" (.cons (.var 11) .nil))) (.seq (.sub (.var 13) (.var 12) (.op .sub (.ix (.var 11) (.var 12)) (.int 1))) (.seq (.ite (.and (.cmp .gt (.ix (.var 11) (.var 12)) (.ix (.var 5) (.var 12))) (.cmp .is (.call "_law_leak" (.cons (.var 4) (.cons (.var 13) (.cons (.int 0) (.cons (.tup .nil) .nil))))) .non)) _ .skip) .skip))) _ A) _ _ _ _
  rw [wS_seq, wS_set, wR_bi, wR_cons, wR_var (d := .ref bs) rfl, wR_nil, dict_eq hbs, wR_ok]
  have k1 : Kp A (A ++ [AO.dct (lvD B)]) := Kp.refl.app
  have hb1 := k1 _ _ hbs
  have hl1 := k1 _ _ hlv
  have hn1 : (A ++ [AO.dct (lvD B)])[A.length]? = some (.dct (lvD B)) := new_at
  have k2 : Kp A ((A ++ [AO.dct (lvD B)]).set A.length (.dct (lvD (B.put x (B x - 1))))) := k1.set new_none
  have hw2 : ((A ++ [AO.dct (lvD B)]).set A.length (.dct (lvD (B.put x (B x - 1)))))[A.length]? = some (.dct (lvD (B.put x (B x - 1)))) := set_at hn1
  have es := set_lv hn1 x (B x - 1)
  rw [wS_seq, wS_sub, wR_op, wR_ix, wR_var (d := .ref bs) rfl, wR_var (d := .str x.s) rfl, ix_lv hb1, wR_some, wR_int]
  show wR (Res.ok (D.int (B x - 1)) (A ++ [AO.dct (lvD B)])) _
  rw [wR_ok, wR_var (d := .ref A.length) rfl, wR_var (d := .str x.s) rfl]
  refine ⟨_, es, ?_⟩
  generalize (A ++ [AO.dct (lvD B)]).set A.length (.dct (lvD (B.put x (B x - 1)))) = A2 at k2 hw2
  generalize A.length = w at hw2
  show wS (sx _ N _ (FR s tp nm x3 (some (pD p)) (some (.ref lv)) x6 x7 x8 x9 x10 (some (.ref bs)) (some (.str x.s)) (some (.ref w)) x14 x15 x16 x17) A2) _ _ _ _
  have hb2 := k2 _ _ hbs
  have hl2 := k2 _ _ hlv
  rw [wS_seq, wS_ite, wR_tru, wR_and, wR_cmp, wR_ix, wR_var (d := .ref bs) rfl, wR_var (d := .str x.s) rfl, ix_lv hb2, wR_some, wR_ix, wR_var (d := .ref lv) rfl, wR_var (d := .str x.s) rfl, ix_lv hl2, wR_some, gt_ok, wR_some, truth_bl, wR_some]
  by_cases hc : L x < B x
  · rw [if_pos (decide_eq_true hc), wR_cmp, wR_cl, wR_cons, wR_var (d := pD p) rfl, wR_cons, wR_var (d := .ref w) rfl, wR_cons, wR_int, wR_cons, wR_tup, wR_nil, wR_ifok (sz1 (by simp)), wR_nil]
    have hl : LS N w (B.put x (B x - 1)) p 228 := lleak_spec p 228 (by omega) (by omega)
    apply (hl 0 [] A2 (by simp; omega) hw2).mono
    rintro r A3 ⟨er, k3⟩
    rw [er, wR_non, is_lk]
    have hns : leak (B.put x (B x - 1)) p 0 [] ≠ none := fun e => by
      have h1 := hle _ (fun y => by
        unfold En.put
        split
        · rename_i e; rw [e]; omega
        · exact hup y) ((leak_safe _ _ _ _).mp e) x
      unfold En.put at h1
      simp at h1
      omega
    cases e : leak (B.put x (B x - 1)) p 0 [] with
    | none => exact absurd e hns
    | some q =>
      show wR (ofO (some (D.bl false)) A3) _
      rw [wR_some, truth_bl, wR_some, if_neg (by decide), wS_skip, wS_skip]
      exact k _ _ (k2.trans k3)
  · rw [if_neg (by simp [hc]), truth_bl, wR_some, decide_eq_false hc, if_neg (by decide), wS_skip, wS_skip]
    exact k _ _ k2
def turnB : Sm := match drp 2 fn_29.body with
  | .seq (.for _ _ b) _ => b
  | _ => .skip
theorem wkR {j : Int} (h : small j = true) : wkRng [.int j] = some ⟨rngD 0 j, [], none⟩ := by
  unfold wkRng
  simp only [h, if_true]
theorem law_turn (hN : 700 ≤ N) {s : D} {tp nm : Nat} {A : AH} {x3 x4 x5 x6 x7 x8 x9 x10 x11 x12 x13 x14 x15 x16 x17 : Option D} {Pn Pb Pc : Fr → AH → Prop} {Pr : D → AH → Prop}
    (t : TapeOk A tp) (hnm : A[nm]? = some (.lst ks4))
    (k : ∀ x4 x5 x6 x7 x8 x9 x10 x11 x12 x13 x14 x15 x16 x17 A', Dr tp A A' → Pn (FR s tp nm x3 x4 x5 x6 x7 x8 x9 x10 x11 x12 x13 x14 x15 x16 x17) A') :
    wS (sx (callF pg N 228) N turnB (FR s tp nm x3 x4 x5 x6 x7 x8 x9 x10 x11 x12 x13 x14 x15 x16 x17) A) Pn Pb Pc Pr := by
  show wS (sx _ N (.seq (.set 4 (.call "_law_program" (.cons (.var 1) (.cons (.int 4) .nil)))) _) _ A) _ _ _ _
  rw [wS_seq, wS_set, wR_cl, wR_cons, wR_var (d := .ref tp) rfl, wR_cons, wR_int, wR_nil]
  apply (prog_spec 4 228 (by decide) A t).mono
  rintro r A1 ⟨⟨p, er, hp, hb⟩, d1⟩
  have hb : ph p ≤ 11 := hb
  rw [er]
  have hn1 := d1.kp _ _ (lst_tp t hnm) hnm
  show wS (sx _ N (.seq (.set 5 (.bi "dict" (.cons (rowE .nil (.tup (.cons (.var 12) (.cons (.call "_law_take" (.cons (.var 1) (.cons (.int 4) .nil))) .nil)))) .nil))) _) (FR s tp nm x3 (some (pD p)) x5 x6 x7 x8 x9 x10 x11 x12 x13 x14 x15 x16 x17) A1) _ _ _ _
  have drw : ∀ (F : Fr) (A' : AH), F[1]? = some (some (.ref tp)) → TapeOk A' tp → ∀ P' : D → AH → Prop, (∀ i A2, (0 ≤ i ∧ i < 4) → Dr tp A' A2 → P' (.int i) A2) → wR (ev (callF pg N 228) (.call "_law_take" (.cons (.var 1) (.cons (.int 4) .nil))) F A') P' := by
    intro F A' h1 t' P' p'
    rw [wR_cl, wR_cons, wR_var h1, wR_cons, wR_int, wR_nil]
    apply (take_spec rfl t' (by decide) (by decide)).mono
    rintro r A2 ⟨m, e, m0, m1, d2⟩
    rw [e]
    exact p' _ _ ⟨m0, m1⟩ d2
  rw [wS_seq, wS_set]
  apply row_draw (tp := tp) (nm := nm) (Q := fun _ i => 0 ≤ i ∧ i < 4) rfl (by simp) d1.tape hn1
  · intro x A' d P' p'
    exact drw _ A' rfl d.tape P' p'
  intro L lv A2 hL d2 _ hlv
  have h3 : bnd3 L := fun x => ⟨(hL x).1, by have := (hL x).2; omega⟩
  have hn2 := d2.kp _ _ (lst_tp d1.tape hn1) hn1
  have d2 := d1.trans d2
  show wS (sx _ N (.seq (.set 6 (.call "_law_leak" (.cons (.var 4) (.cons (.var 5) (.cons (.int 0) (.cons (.tup .nil) .nil)))))) _) (FR s tp nm x3 (some (pD p)) (some (.ref lv)) x6 x7 x8 x9 x10 x11 x12 x13 x14 x15 x16 x17) A2) _ _ _ _
  rw [wS_seq, wS_set, wR_cl, wR_cons, wR_var (d := pD p) rfl, wR_cons, wR_var (d := .ref lv) rfl, wR_cons, wR_int, wR_cons, wR_tup, wR_nil, wR_ifok (sz1 (by simp)), wR_nil]
  have hl : ∀ {w : Nat} {M : En}, LS N w M p 228 := lleak_spec p 228 (by omega) (by omega)
  apply (hl 0 [] A2 (by simp; omega) hlv).mono
  rintro r A3 ⟨er, k3⟩
  rw [er]
  have hlv3 := k3 _ _ hlv
  have d3 : Dr tp A A3 := d2.trans (.of d2.tape k3)
  show wS (sx _ N (.seq (.set 7 (.call "keeps_secrets" (.cons (.var 4) (.cons (.var 5) .nil)))) _) (FR s tp nm x3 (some (pD p)) (some (.ref lv)) (some (lkD (leak L p 0 []))) x7 x8 x9 x10 x11 x12 x13 x14 x15 x16 x17) A3) _ _ _ _
  generalize hlk : leak L p 0 [] = lk
  rw [wS_seq, wS_set, wR_cl, wR_cons, wR_var (d := pD p) rfl, wR_cons, wR_var (d := .ref lv) rfl, wR_nil]
  apply (keeps_spec hlv3 p 227 (by omega) (by omega)).mono
  rintro r A3' ⟨er, eA⟩
  rw [er, eA, hlk]
  show wS (sx _ N (.seq (.ite (.or (.cmp .ne (.var 7) (.var 6)) (.cmp .ne (.cmp .is (.var 7) .non) (.cmp .is (.var 6) .non))) _ .skip) _) (FR s tp nm x3 (some (pD p)) (some (.ref lv)) (some (lkD lk)) (some (lkD lk)) x8 x9 x10 x11 x12 x13 x14 x15 x16 x17) A3) _ _ _ _
  rw [wS_seq, wS_ite, wR_tru, wR_or, wR_cmp, wR_var (d := lkD lk) rfl, wR_var (d := lkD lk) rfl, ne_lk]
  show wR (ofO (some (D.bl false)) A3) _
  rw [wR_some, truth_bl, wR_some, if_neg (by decide), wR_cmp, wR_cmp, wR_var (d := lkD lk) rfl, wR_non, is_lk]
  show wR (ofO (some (D.bl lk.isNone)) A3) _
  rw [wR_some, wR_cmp, wR_var (d := lkD lk) rfl, wR_non, is_lk]
  show wR (ofO (some (D.bl lk.isNone)) A3) _
  rw [wR_some, ne_bl]
  show wR (ofO (some (D.bl false)) A3) _
  rw [wR_some, truth_bl, wR_some, if_neg (by decide), wS_skip]
  show wS (sx _ N (.seq (.set 8 (.bi "dict" (.cons (rowE .nil (.tup (.cons (.var 12) (.cons (.call "_law_take" (.cons (.var 1) (.cons (.int 4) .nil))) .nil)))) .nil))) _) (FR s tp nm x3 (some (pD p)) (some (.ref lv)) (some (lkD lk)) (some (lkD lk)) x8 x9 x10 x11 x12 x13 x14 x15 x16 x17) A3) _ _ _ _
  have hn3 := k3 _ _ hn2
  rw [wS_seq, wS_set]
  apply row_draw (tp := tp) (nm := nm) (Q := fun _ i => 0 ≤ i ∧ i < 4) rfl (by simp) d3.tape hn3
  · intro x A' d P' p'
    exact drw _ A' rfl d.tape P' p'
  intro V va A4 hV d4 _ hva
  have hV : Eok V := fun x => ⟨(hV x).1, by show V x < 4294967296; have := (hV x).2; omega⟩
  have hlv4 := d4.kp _ _ (lv_tp d3.tape hlv3) hlv3
  have hn4 := d4.kp _ _ (lst_tp d3.tape hn3) hn3
  have d4 := d3.trans d4
  show wS (sx _ N (.seq (.set 9 (.call "run_secret" (.cons (.var 4) (.cons (.var 8) (.cons (.int 160) .nil))))) _) (FR s tp nm x3 (some (pD p)) (some (.ref lv)) (some (lkD lk)) (some (lkD lk)) (some (.ref va)) x9 x10 x11 x12 x13 x14 x15 x16 x17) A4) _ _ _ _
  rw [wS_seq, wS_set, wR_cl, wR_cons, wR_var (d := pD p) rfl, wR_cons, wR_var (d := .ref va) rfl, wR_cons, wR_int, wR_nil]
  apply (run_spec (n := 227) (f := 160) hp hV (by omega) (by decide) hva).mono
  rintro r1 A5 ⟨k5, hr1⟩
  show wS (sx _ N (.seq (.set 10 (.call "_law_run" (.cons (.var 4) (.cons (.var 8) (.cons (.lst (.cons (.int 600) .nil)) .nil))))) _) (FR s tp nm x3 (some (pD p)) (some (.ref lv)) (some (lkD lk)) (some (lkD lk)) (some (.ref va)) (some r1) x10 x11 x12 x13 x14 x15 x16 x17) A5) _ _ _ _
  have hva5 := k5 _ _ hva
  have ka : Kp A5 (A5 ++ [AO.lst [.int 600]]) := Kp.refl.app
  rw [wS_seq, wS_set, wR_cl, wR_cons, wR_var (d := pD p) rfl, wR_cons, wR_var (d := .ref va) rfl, wR_cons]
  apply wR_eq (a := .ref A5.length) (A := A5 ++ [AO.lst [.int 600]]) (by kernel_rfl)
  rw [wR_nil]
  have hrun : RunS N A5.length p 228 := lrun_spec hN p 228 (by omega)
  apply (hrun va V 600 _ (ka _ _ hva5) new_at (by decide)).mono
  rintro r2 A6 ⟨lf, hr2⟩
  have k6 : Kp A5 A6 := fun i o e => lf.kp i o (fun z => by rw [z, new_none] at e; cases e) (ka _ _ e)
  have k46 := k5.trans k6
  show wS (sx _ N (.seq (.ite (.and (.cmp .isnt (.var 9) .non) (.and (.cmp .isnt (.var 10) .non) (.not (.call "_law_same" (.cons (.var 9) (.cons (.var 10) .nil)))))) _ .skip) _) (FR s tp nm x3 (some (pD p)) (some (.ref lv)) (some (lkD lk)) (some (lkD lk)) (some (.ref va)) (some r1) (some r2) x11 x12 x13 x14 x15 x16 x17) A6) _ _ _ _
  have rest : ∀ A7, Kp A6 A7 → wS (sx (callF pg N 228) N (drp 9 turnB) (FR s tp nm x3 (some (pD p)) (some (.ref lv)) (some (lkD lk)) (some (lkD lk)) (some (.ref va)) (some r1) (some r2) x11 x12 x13 x14 x15 x16 x17) A7) Pn Pb Pc Pr := by
    intro A7 k7
    have k7 := k46.trans k7
    have d7 : Dr tp A A7 := d4.trans (.of d4.tape k7)
    have hlv7 := k7 _ _ hlv4
    have hva7 := k7 _ _ hva
    have hn7 := k7 _ _ hn4
    show wS (sx _ N (.seq (.set 11 (.call "least_levels" (.cons (.var 4) (.cons (.var 5) .nil)))) (.seq (.ite (.or (.cmp .isnt (.call "_law_leak" (.cons (.var 4) (.cons (.var 11) (.cons (.int 0) (.cons (.tup .nil) .nil))))) .non) (.bi "any" (.cons (rowE .nil (.cmp .lt (.ix (.var 11) (.var 12)) (.ix (.var 5) (.var 12)))) .nil))) _ .skip) (drp 11 turnB))) _ A7) _ _ _ _
    rw [wS_seq, wS_set, wR_cl, wR_cons, wR_var (d := pD p) rfl, wR_cons, wR_var (d := .ref lv) rfl, wR_nil]
    apply (least_spec (by omega) p 227 (by omega) (by omega) hlv7 h3).mono
    rintro r A8 ⟨bs, B, er, hbs, hfr, k8, b3, hup, hfix, hleast⟩
    rw [er]
    have hsafe : safe B p 0 := rise_fix p B 0 hfix
    have hne : va ≠ bs := fun e => by rw [← e, hva7] at hfr; cases hfr
    have hlv8 := k8 _ _ hlv7
    have hn8 := k8 _ _ hn7
    show wS (sx _ N _ (FR s tp nm x3 (some (pD p)) (some (.ref lv)) (some (lkD lk)) (some (lkD lk)) (some (.ref va)) (some r1) (some r2) (some (.ref bs)) x12 x13 x14 x15 x16 x17) A8) _ _ _ _
    rw [wS_seq, wS_ite, wR_tru, wR_or, wR_cmp, wR_cl, wR_cons, wR_var (d := pD p) rfl, wR_cons, wR_var (d := .ref bs) rfl, wR_cons, wR_int, wR_cons, wR_tup, wR_nil, wR_ifok (sz1 (by simp)), wR_nil]
    apply (hl 0 [] A8 (by simp; omega) hbs).mono
    rintro r A9 ⟨er, k9⟩
    rw [er, wR_non, isnt_lk, (leak_safe B p 0 []).mpr hsafe]
    show wR (ofO (some (D.bl false)) A9) _
    have hlv9 := k9 _ _ hlv8
    have hbs9 := k9 _ _ hbs
    rw [wR_some, truth_bl, wR_some, if_neg (by decide), wR_bi, wR_cons]
    apply row_pure (fun x => some (.bl false)) rfl (k9 _ _ hn8)
    · intro x
      have e2 : ev (callF pg N 228) (.cmp .lt (.ix (.var 11) (.var 12)) (.ix (.var 5) (.var 12))) (FR s tp nm x3 (some (pD p)) (some (.ref lv)) (some (lkD lk)) (some (lkD lk)) (some (.ref va)) (some r1) (some r2) (some (.ref bs)) (some (.str x.s)) x13 x14 x15 x16 x17) A9 = .ok (.bl false) A9 := by
        have e2w : wR (ev (callF pg N 228) (.cmp .lt (.ix (.var 11) (.var 12)) (.ix (.var 5) (.var 12))) (FR s tp nm x3 (some (pD p)) (some (.ref lv)) (some (lkD lk)) (some (lkD lk)) (some (.ref va)) (some r1) (some r2) (some (.ref bs)) (some (.str x.s)) x13 x14 x15 x16 x17) A9) (fun d A' => d = .bl false ∧ A' = A9) := by
          rw [wR_cmp, wR_ix, wR_var (d := .ref bs) rfl, wR_var (d := .str x.s) rfl, ix_lv hbs9, wR_some, wR_ix, wR_var (d := .ref lv) rfl, wR_var (d := .str x.s) rfl, ix_lv hlv9, wR_some, lt_int, decide_eq_false (by have := hup x; omega)]
          show wR (ofO (some (D.bl false)) A9) _
          rw [wR_some]
          exact ⟨rfl, rfl⟩
        obtain ⟨a, A', e, h1, h2⟩ := eq_of_wR e2w
        rw [e, h1, h2]
      show lcB (callF pg N 228) _ _ (FR s tp nm x3 (some (pD p)) (some (.ref lv)) (some (lkD lk)) (some (lkD lk)) (some (.ref va)) (some r1) (some r2) (some (.ref bs)) (some (.str x.s)) x13 x14 x15 x16 x17) A9 = _
      unfold lcB
      show nox (bnd (ev (callF pg N 228) (.cmp .lt (.ix (.var 11) (.var 12)) (.ix (.var 5) (.var 12))) (FR s tp nm x3 (some (pD p)) (some (.ref lv)) (some (lkD lk)) (some (lkD lk)) (some (.ref va)) (some r1) (some r2) (some (.ref bs)) (some (.str x.s)) x13 x14 x15 x16 x17) A9) fun y A3 => .ok (some y) A3) = _
      rw [e2]
      rfl
    have hany : biF (A9 ++ [AO.lst ([Nm.a, .b, .c, .d].filterMap fun x => some (D.bl false))]) "any" [.ref A9.length] = .ok (.bl false) (A9 ++ [AO.lst ([Nm.a, .b, .c, .d].filterMap fun x => some (D.bl false))]) := by
      show biAny _ [.ref A9.length] = _
      have h1 : seqL (A9 ++ [AO.lst ([Nm.a, .b, .c, .d].filterMap fun x => some (D.bl false))]) A9.length = some [.bl false, .bl false, .bl false, .bl false] := by simp [seqL]
      simp only [biAny, h1]
      rfl
    rw [wR_nil, hany, wR_ok, truth_bl, wR_some, if_neg (by decide), wS_skip]
    have k79 : Kp A7 (A9 ++ [AO.lst ([Nm.a, .b, .c, .d].filterMap fun x => some (D.bl false))]) := (k8.trans k9).app
    have hbs10 : (A9 ++ [AO.lst ([Nm.a, .b, .c, .d].filterMap fun x => some (D.bl false))])[bs]? = some (.dct (lvD B)) := app_at hbs9
    generalize A9 ++ [AO.lst ([Nm.a, .b, .c, .d].filterMap fun x => some (D.bl false))] = A10 at k79 hbs10
    have hn10 := k79 _ _ hn7
    have hlv10 := k79 _ _ hlv7
    show wS (sx _ N (.seq (.for (.nm 12) (.wk (.var 2)) lowB) (.seq (.for (.nm 14) (.rng (.cons (.int 4) .nil)) lvB) .skip)) _ A10) _ _ _ _
    rw [wS_seq, wS_for, wR_wk, wR_var (d := .ref nm) rfl, wk_nm hn10, wR_some]
    show wS (forL (asgT (.nm 12)) [(nm, .lst ks4)] _ ks4 _ A10) _ _ _ _
    apply forL_ind (fun i F A' => Kp A10 A' ∧ ∃ y12 y13, F = FR s tp nm x3 (some (pD p)) (some (.ref lv)) (some (lkD lk)) (some (lkD lk)) (some (.ref va)) (some r1) (some r2) (some (.ref bs)) y12 y13 x14 x15 x16 x17) _ 0 _ _ ⟨.refl, _, _, rfl⟩
    · rintro j d F A' e ⟨kk, y12, y13, rfl⟩
      refine ⟨gOk_one (kk _ _ hn10), ?_⟩
      obtain ⟨x, rfl⟩ := ks4_at e
      refine ⟨FR s tp nm x3 (some (pD p)) (some (.ref lv)) (some (lkD lk)) (some (lkD lk)) (some (.ref va)) (some r1) (some r2) (some (.ref bs)) (some (.str x.s)) y13 x14 x15 x16 x17, rfl, ?_⟩
      apply low_turn (V := V) (va := va) (kk _ _ hlv10) (kk _ _ hbs10) hb hup hleast
      intro z13 A'' kk'
      exact ⟨kk.trans kk', _, _, rfl⟩
    · rintro F A' ⟨kk, y12, y13, rfl⟩
      refine ⟨gOk_one (kk _ _ hn10), ?_⟩
      have k11 := k79.trans kk
      have d11 : Dr tp A A' := d7.trans (.of d7.tape k11)
      have hn11 := k11 _ _ hn7
      have hva11 := k11 _ _ hva7
      have hbs11 := kk _ _ hbs10
      generalize A' = A11 at k11 d11 hn11 hva11 hbs11
      rw [wS_seq, wS_for, wR_rng, wR_cons, wR_int, wR_nil, wkR (by decide), wR_some]
      show wS (forL (asgT (.nm 14)) [] _ (rngD 0 4) _ A11) _ _ _ _
      apply forL_ind (fun i F A' => Dr tp A11 A' ∧ ∃ y12 y14 y15 y16 y17, F = FR s tp nm x3 (some (pD p)) (some (.ref lv)) (some (lkD lk)) (some (lkD lk)) (some (.ref va)) (some r1) (some r2) (some (.ref bs)) y12 y13 y14 y15 y16 y17) _ 0 _ _ ⟨.refl d11.tape, _, _, _, _, _, rfl⟩
      · rintro j d F A' e ⟨dd, y12, y14, y15, y16, y17, rfl⟩
        refine ⟨rfl, ?_⟩
        have : ∃ v : Int, d = .int v := by
          unfold rngD at e
          rw [List.getElem?_map] at e
          obtain ⟨v, _, e⟩ := Option.map_eq_some_iff.mp e
          exact ⟨_, e.symm⟩
        obtain ⟨v, rfl⟩ := this
        refine ⟨FR s tp nm x3 (some (pD p)) (some (.ref lv)) (some (lkD lk)) (some (lkD lk)) (some (.ref va)) (some r1) (some r2) (some (.ref bs)) y12 y13 (some (.int v)) y15 y16 y17, rfl, ?_⟩
        apply lev_turn dd.tape (dd.kp _ _ (lst_tp d11.tape hn11) hn11) (dd.kp _ _ (lv_tp d11.tape hva11) hva11) (dd.kp _ _ (lv_tp d11.tape hbs11) hbs11) hne hV hp hb hsafe
        intro z12 z15 z16 z17 A'' dd'
        exact ⟨dd.trans dd', _, _, _, _, _, rfl⟩
      · rintro F A' ⟨dd, y12, y14, y15, y16, y17, rfl⟩
        refine ⟨rfl, ?_⟩
        rw [wS_skip]
        exact k _ _ _ _ _ _ _ _ _ _ _ _ _ _ A' (d11.trans dd)
  rw [wS_seq, wS_ite, wR_tru, wR_and, wR_cmp, wR_var (d := r1) rfl, wR_non]
  rcases hr1 with rfl | ⟨k1, V1, rfl, hk1, hr1, b1⟩
  · rw [isnt_non, wR_some, truth_bl, wR_some, if_neg (by decide), truth_bl, wR_some, if_neg (by decide), wS_skip]
    exact rest A6 .refl
  rw [isnt_ref, wR_some, truth_bl, wR_some, if_pos rfl, wR_and, wR_cmp, wR_var (d := r2) rfl, wR_non]
  rcases hr2 with rfl | ⟨k2', V2, rfl, hr2, b2⟩
  · rw [isnt_non, wR_some, truth_bl, wR_some, if_neg (by decide), truth_bl, wR_some, if_neg (by decide), wS_skip]
    exact rest A6 .refl
  rw [isnt_ref, wR_some, truth_bl, wR_some, if_pos rfl, wR_not, wR_cl, wR_cons, wR_var (d := .ref k1) rfl, wR_cons, wR_var (d := .ref k2') rfl, wR_nil]
  have e12 := b1.det b2
  subst e12
  apply (same_dct (n := 223) (k6 _ _ hr1) hr2).mono
  rintro r A7 ⟨er, k7⟩
  rw [er]
  show wR (ofO (some (D.bl false)) A7) _
  rw [wR_some, truth_bl, wR_some, if_neg (by decide), wS_skip]
  exact rest A7 k7
theorem law_end (N : Nat) (hN : 700 ≤ N) (ns : List Int) (h : ns.length ≤ 63) : ∃ A1, callF pg N 229 "law" [.frl (ns.map .int)] [] = .ok (.bl true) A1 := by
  have key : wR (callF pg N 229 "law" [.frl (ns.map .int)] []) (fun r A' => r = .bl true) := by
    rw [wR_call (fd := fn_29) rfl rfl]
    show wS (sx _ N (.seq (.set 1 (.call "_law_tape" (.cons (.var 0) .nil))) _) [some (.frl (ns.map .int)), none, none, none, none, none, none, none, none, none, none, none, none, none, none, none, none, none] []) _ _ _ _
    rw [wS_seq, wS_set, wR_cl, wR_cons, wR_v0, wR_nil]
    apply (tape_spec rfl h).mono
    rintro r A ⟨tp, er, t⟩
    rw [er]
    show wS (sx _ N (.seq (.set 2 (.lst (.cons (.str "a") (.cons (.str "b") (.cons (.str "c") (.cons (.str "d") .nil)))))) _) [some (.frl (ns.map .int)), some (.ref tp), none, none, none, none, none, none, none, none, none, none, none, none, none, none, none, none] A) _ _ _ _
    rw [wS_seq, wS_set]
    apply wR_eq (a := .ref A.length) (A := A ++ [AO.lst ks4]) (by kernel_rfl)
    have t1 : TapeOk (A ++ [AO.lst ks4]) tp := t.kp Kp.refl.app
    have hnm : (A ++ [AO.lst ks4])[A.length]? = some (.lst ks4) := new_at
    generalize A ++ [AO.lst ks4] = A1 at t1 hnm
    generalize A.length = nm at hnm
    show wS (sx _ N (.seq (.for (.nm 3) (.rng (.cons (.int 5) .nil)) turnB) (.seq (.ret (.and (.cmp .is (.call "run_secret" (.cons (.tup (.cons (.str "while") (.cons (.tup (.cons (.str "int") (.cons (.int 1) .nil))) (.cons (.tup (.cons (.str "skip") .nil)) .nil)))) (.cons (.dct .nil) (.cons (.int 300) .nil)))) .non) (.cmp .is (.call "run_secret" (.cons (.tup (.cons (.str "skip") .nil)) (.cons (.dct (.cons (.str "a") (.cons (.int 1) .nil))) (.cons (.int 0) .nil)))) .non))) .skip)) (FR (.frl (ns.map .int)) tp nm none none none none none none none none none none none none none none none) A1) _ _ _ _
    rw [wS_seq, wS_for, wR_rng, wR_cons, wR_int, wR_nil, wkR (by decide), wR_some]
    show wS (forL (asgT (.nm 3)) [] _ (rngD 0 5) _ A1) _ _ _ _
    apply forL_ind (fun i F A' => Dr tp A1 A' ∧ ∃ x3 x4 x5 x6 x7 x8 x9 x10 x11 x12 x13 x14 x15 x16 x17, F = FR (.frl (ns.map .int)) tp nm x3 x4 x5 x6 x7 x8 x9 x10 x11 x12 x13 x14 x15 x16 x17) _ 0 _ _ ⟨.refl t1, none, none, none, none, none, none, none, none, none, none, none, none, none, none, none, rfl⟩
    · rintro j d F A' e ⟨dd, x3, x4, x5, x6, x7, x8, x9, x10, x11, x12, x13, x14, x15, x16, x17, rfl⟩
      refine ⟨rfl, FR (.frl (ns.map .int)) tp nm (some d) x4 x5 x6 x7 x8 x9 x10 x11 x12 x13 x14 x15 x16 x17, rfl, ?_⟩
      apply law_turn hN dd.tape (dd.kp _ _ (lst_tp t1 hnm) hnm)
      intro y4 y5 y6 y7 y8 y9 y10 y11 y12 y13 y14 y15 y16 y17 A2 d2
      exact ⟨dd.trans d2, _, _, _, _, _, _, _, _, _, _, _, _, _, _, _, rfl⟩
    · rintro F A' ⟨dd, x3, x4, x5, x6, x7, x8, x9, x10, x11, x12, x13, x14, x15, x16, x17, rfl⟩
      refine ⟨rfl, ?_⟩
      rw [wS_seq, wS_ret, wR_and, wR_cmp, wR_cl, wR_cons]
      apply wR_eq (a := loopD) (A := A') (by kernel_rfl)
      rw [wR_cons]
      apply wR_eq (a := .ref A'.length) (A := A' ++ [AO.dct []]) (by kernel_rfl)
      rw [wR_cons, wR_int, wR_nil]
      apply (loop_run (n := 227) (by decide) new_at).mono
      intro r A3 er
      rw [er, wR_non]
      show wR (ofO (some (D.bl true)) A3) _
      rw [wR_some, truth_bl, wR_some, if_pos rfl, wR_cmp, wR_cl, wR_cons]
      apply wR_eq (a := .tup [.str "skip"]) (A := A3) (by kernel_rfl)
      rw [wR_cons]
      apply wR_eq (a := .ref A3.length) (A := A3 ++ [AO.dct [(.str "a", .int 1)]]) (by kernel_rfl)
      rw [wR_cons, wR_int, wR_nil]
      apply (zero_run (n := 226) new_at).mono
      intro r A4 er
      rw [er, wR_non]
      show wR (ofO (some (D.bl true)) A4) _
      rw [wR_some]
  obtain ⟨a, A', e, rfl⟩ := eq_of_wR key
  exact ⟨A', e⟩
end
end K29

/-! ## K29Head -/
namespace K29
abbrev ROOM : Nat := 231
abbrev CALLS : Nat := 229
abbrev TURNS : Nat := 1000
open PySem PySem.Spec PyProof.Rows L2
/-! ### the head: facts by names, the run -/
def top (i : Nat) : Stmt := PySem.Challenge.pw_effecthouse_k29_whole_secrets.main.body.getD i (.Pass ⟨0, 0, 0, 0⟩)
def inCls (s : Stmt) (j : Nat) : Stmt := match s with
  | .ClassDef _ _ _ b _ _ _ _ _ _ _ => b.getD j (.Pass ⟨0, 0, 0, 0⟩)
  | _ => .Pass ⟨0, 0, 0, 0⟩
abbrev st_6 : Stmt := top 6
def d_6 : He.DefD := ⟨("reckon", none), "reckon", "reckon", defArgs st_6, defBody st_6, defScope st_6, [], []⟩
abbrev st_8 : Stmt := top 8
def d_8 : He.DefD := ⟨("expression_level", none), "expression_level", "expression_level", defArgs st_8, defBody st_8, defScope st_8, [], []⟩
abbrev st_9 : Stmt := top 9
def d_9 : He.DefD := ⟨("check", none), "check", "check", defArgs st_9, defBody st_9, defScope st_9, [], []⟩
abbrev st_10 : Stmt := top 10
def d_10 : He.DefD := ⟨("keeps_secrets", none), "keeps_secrets", "keeps_secrets", defArgs st_10, defBody st_10, defScope st_10, [], []⟩
abbrev st_11 : Stmt := top 11
def d_11 : He.DefD := ⟨("least_levels", none), "least_levels", "least_levels", defArgs st_11, defBody st_11, defScope st_11, [], []⟩
abbrev st_12 : Stmt := top 12
def d_12 : He.DefD := ⟨("raise_levels", none), "raise_levels", "raise_levels", defArgs st_12, defBody st_12, defScope st_12, [], []⟩
abbrev st_13 : Stmt := top 13
def d_13 : He.DefD := ⟨("reckoned", none), "reckoned", "reckoned", defArgs st_13, defBody st_13, defScope st_13, [], []⟩
abbrev st_14_0 : Stmt := inCls (top 14) 0
def d_14_0 : He.DefD := ⟨("SecretRun", some "__init__"), "__init__", "SecretRun.__init__", defArgs st_14_0, defBody st_14_0, defScope st_14_0, [], []⟩
abbrev st_14_1 : Stmt := inCls (top 14) 1
def d_14_1 : He.DefD := ⟨("SecretRun", some "go"), "go", "SecretRun.go", defArgs st_14_1, defBody st_14_1, defScope st_14_1, [], []⟩
abbrev st_15 : Stmt := top 15
def d_15 : He.DefD := ⟨("run_secret", none), "run_secret", "run_secret", defArgs st_15, defBody st_15, defScope st_15, [], []⟩
abbrev st_16 : Stmt := top 16
def d_16 : He.DefD := ⟨("seen_at", none), "seen_at", "seen_at", defArgs st_16, defBody st_16, defScope st_16, [], []⟩
abbrev st_18 : Stmt := top 18
def d_18 : He.DefD := ⟨("_law_tape", none), "_law_tape", "_law_tape", defArgs st_18, defBody st_18, defScope st_18, [], []⟩
abbrev st_19 : Stmt := top 19
def d_19 : He.DefD := ⟨("_law_take", none), "_law_take", "_law_take", defArgs st_19, defBody st_19, defScope st_19, [], []⟩
abbrev st_20 : Stmt := top 20
def d_20 : He.DefD := ⟨("_law_is_integer", none), "_law_is_integer", "_law_is_integer", defArgs st_20, defBody st_20, defScope st_20, [], []⟩
abbrev st_21 : Stmt := top 21
def d_21 : He.DefD := ⟨("_law_same_items", none), "_law_same_items", "_law_same_items", defArgs st_21, defBody st_21, defScope st_21, [], []⟩
abbrev st_22 : Stmt := top 22
def d_22 : He.DefD := ⟨("_law_same", none), "_law_same", "_law_same", defArgs st_22, defBody st_22, defScope st_22, [], []⟩
abbrev st_23 : Stmt := top 23
def d_23 : He.DefD := ⟨("_law_expression", none), "_law_expression", "_law_expression", defArgs st_23, defBody st_23, defScope st_23, [], []⟩
abbrev st_24 : Stmt := top 24
def d_24 : He.DefD := ⟨("_law_program", none), "_law_program", "_law_program", defArgs st_24, defBody st_24, defScope st_24, [], []⟩
abbrev st_25 : Stmt := top 25
def d_25 : He.DefD := ⟨("_law_level", none), "_law_level", "_law_level", defArgs st_25, defBody st_25, defScope st_25, [], []⟩
abbrev st_26 : Stmt := top 26
def d_26 : He.DefD := ⟨("_law_leak", none), "_law_leak", "_law_leak", defArgs st_26, defBody st_26, defScope st_26, [], []⟩
abbrev st_27 : Stmt := top 27
def d_27 : He.DefD := ⟨("_law_value", none), "_law_value", "_law_value", defArgs st_27, defBody st_27, defScope st_27, [], []⟩
abbrev st_28 : Stmt := top 28
def d_28 : He.DefD := ⟨("_law_run", none), "_law_run", "_law_run", defArgs st_28, defBody st_28, defScope st_28, [], []⟩
abbrev st_29 : Stmt := top 29
def d_29 : He.DefD := ⟨("law", none), "law", "law", defArgs st_29, defBody st_29, defScope st_29, [], []⟩
def fn : List He.DefD := ([d_6, d_8, d_9, d_10, d_11, d_12, d_13, d_14_0, d_14_1, d_15, d_16, d_18, d_19, d_20, d_21, d_22, d_23, d_24, d_25, d_26, d_27, d_28, d_29] : List He.DefD)
def fa : List He.Fa := ([.glo "reckon", .glo "expression_level", .glo "check", .glo "keeps_secrets", .glo "least_levels", .glo "raise_levels", .glo "reckoned", .glo "SecretRun", .cls "SecretRun", .meth "SecretRun" "__init__", .mkr "SecretRun", .meth "SecretRun" "go", .glo "run_secret", .glo "seen_at", .glo "_law_tape", .glo "_law_take", .glo "_law_is_integer", .glo "_law_same_items", .glo "_law_same", .glo "_law_expression", .glo "_law_program", .glo "_law_level", .glo "_law_leak", .glo "_law_value", .glo "_law_run", .glo "law", .free "len", .free "abs", .free "isinstance", .free "sum"] : List He.Fa) ++ ([.free "sorted", .free "max", .free "any", .free "all", .free "tuple", .free "list", .free "dict", .free "int", .free "enumerate", .free "zip", .free "range", .free "bool", .free "str", .int "WHOLE" 4294967296, .noat "SecretRun" "known", .noat "SecretRun" "fuel", .glo "Tired", .exc "Tired", .glo "TypeProblem", .exm "TypeProblem" "TypeProblem" true, .exm "TypeProblem" "Tired" false, .exm "Tired" "TypeProblem" false, .exm "Tired" "Tired" true, .free "super"] : List He.Fa)
abbrev R : PySem.W.OpenRow := PySem.W.OpenLaw.row PySem.Challenge.rw_effecthouse_k29_whole_secrets
def qP : Nat → Pos := fun n => match n with
  | 0 => ⟨6, 17, 6, 21⟩
  | 1 => ⟨6, 23, 6, 27⟩
  | 2 => ⟨6, 29, 6, 33⟩
  | 3 => ⟨7, 8, 7, 13⟩
  | 4 => ⟨7, 8, 7, 15⟩
  | 5 => ⟨7, 8, 7, 24⟩
  | 6 => ⟨7, 25, 7, 50⟩
  | 7 => ⟨7, 8, 7, 51⟩
  | 8 => ⟨7, 8, 7, 51⟩
  | 9 => ⟨8, 8, 8, 12⟩
  | 10 => ⟨8, 8, 8, 17⟩
  | 11 => ⟨8, 20, 8, 24⟩
  | 12 => ⟨8, 8, 8, 24⟩
  | 13 => ⟨9, 8, 9, 12⟩
  | 14 => ⟨9, 8, 9, 17⟩
  | 15 => ⟨9, 20, 9, 24⟩
  | 16 => ⟨9, 8, 9, 24⟩
  | _ => ⟨0, 0, 0, 0⟩
def msgP : Str := "the program has no type"
def fileP : Str := PySem.Challenge.pw_effecthouse_k29_whole_secrets.main.file
abbrev hk : PySem.W.Hook := Ev.hookE 4 fa fn fileP (Ev.prVal qP msgP)
def ob (s : PySem.W.SharedT) : Ev.AlE := Ev.obsE 4 fa fn fileP (HandSHeadRun.getT s)
theorem ob_eq (s : PySem.W.SharedT) : ob s = hk.obs s.abs := Ev.obsE_eq (HandSHeadRun.getT_eq s)
def loose : List PySem.Str := (["HouseError", "TypeProblem", "Tired", "WHOLE", "reckon", "expression_level", "check", "keeps_secrets", "least_levels", "raise_levels", "reckoned", "SecretRun", "run_secret", "seen_at", "_law_tape", "_law_take", "_law_is_integer", "_law_same_items", "_law_same", "_law_expression", "_law_program", "_law_level", "_law_leak", "_law_value", "_law_run"] : List PySem.Str)
theorem run (w : World) : HandSHeadRun.RunEq R (PySem.W.view R.prog [29]) hk ob 3000 loose w := by
  intro os
  kernel_rfl
/-! ### each def is the evaluator's -/
def tb : Ev.Tb := { fns := (["reckon", "expression_level", "check", "keeps_secrets", "least_levels", "raise_levels", "reckoned", "run_secret", "seen_at", "_law_tape", "_law_take", "_law_is_integer", "_law_same_items", "_law_same", "_law_expression", "_law_program", "_law_level", "_law_leak", "_law_value", "_law_run", "law"] : List String), csts := [("WHOLE", .int 4294967296)], flds := [("SecretRun", "known"), ("SecretRun", "fuel")], mks := [("SecretRun", "SecretRun.__init__")], meths := [("SecretRun", "go", "SecretRun.go")], xos := ["Tired"], xcs := ["TypeProblem", "Tired"], xpb := true }
section
variable {K : PySem.W.Frag} {h : Heap} {mg : Str → Option Value}
def t_6 : Ev.FT := ⟨"reckon", 3, ns_6, d_6, none⟩
theorem b_6 : Ev.rowB pg (if Ev.isInit t_6 then tb.leaf else tb) t_6 = true := by decide +kernel
theorem ro_6 (X : K.In h) (G : h.Ns mainGlobals mg) (c : He.SaysD fa fn K) : Ev.RowOk K mg pg tb t_6 := by
  obtain ⟨fd, F⟩ := c.def_ 0 (d := d_6) rfl
  exact ⟨⟨_, fd, _, _, He.glo_ok X G (c.fact 0 (f := .glo "reckon") rfl), F, F.bindsN fun _ _ _ _ _ _ us hl => match us, hl with | [_, _, _], _ => rfl⟩, ⟨rfl, rfl, rfl, by decide +kernel, rfl, by decide +kernel, by decide +kernel⟩, b_6⟩
def t_8 : Ev.FT := ⟨"expression_level", 3, ns_8, d_8, none⟩
theorem b_8 : Ev.rowB pg (if Ev.isInit t_8 then tb.leaf else tb) t_8 = true := by decide +kernel
theorem ro_8 (X : K.In h) (G : h.Ns mainGlobals mg) (c : He.SaysD fa fn K) : Ev.RowOk K mg pg tb t_8 := by
  obtain ⟨fd, F⟩ := c.def_ 1 (d := d_8) rfl
  exact ⟨⟨_, fd, _, _, He.glo_ok X G (c.fact 1 (f := .glo "expression_level") rfl), F, F.bindsN fun _ _ _ _ _ _ us hl => match us, hl with | [_, _, _], _ => rfl⟩, ⟨rfl, rfl, rfl, by decide +kernel, rfl, by decide +kernel, by decide +kernel⟩, b_8⟩
def t_9 : Ev.FT := ⟨"check", 4, ns_9, d_9, none⟩
theorem b_9 : Ev.rowB pg (if Ev.isInit t_9 then tb.leaf else tb) t_9 = true := by decide +kernel
theorem ro_9 (X : K.In h) (G : h.Ns mainGlobals mg) (c : He.SaysD fa fn K) : Ev.RowOk K mg pg tb t_9 := by
  obtain ⟨fd, F⟩ := c.def_ 2 (d := d_9) rfl
  exact ⟨⟨_, fd, _, _, He.glo_ok X G (c.fact 2 (f := .glo "check") rfl), F, F.bindsN fun _ _ _ _ _ _ us hl => match us, hl with | [_, _, _, _], _ => rfl⟩, ⟨rfl, rfl, rfl, by decide +kernel, rfl, by decide +kernel, by decide +kernel⟩, b_9⟩
def t_10 : Ev.FT := ⟨"keeps_secrets", 2, ns_10, d_10, none⟩
theorem b_10 : Ev.rowB pg (if Ev.isInit t_10 then tb.leaf else tb) t_10 = true := by decide +kernel
theorem ro_10 (X : K.In h) (G : h.Ns mainGlobals mg) (c : He.SaysD fa fn K) : Ev.RowOk K mg pg tb t_10 := by
  obtain ⟨fd, F⟩ := c.def_ 3 (d := d_10) rfl
  exact ⟨⟨_, fd, _, _, He.glo_ok X G (c.fact 3 (f := .glo "keeps_secrets") rfl), F, F.bindsN fun _ _ _ _ _ _ us hl => match us, hl with | [_, _], _ => rfl⟩, ⟨rfl, rfl, rfl, by decide +kernel, rfl, by decide +kernel, by decide +kernel⟩, b_10⟩
def t_11 : Ev.FT := ⟨"least_levels", 2, ns_11, d_11, none⟩
theorem b_11 : Ev.rowB pg (if Ev.isInit t_11 then tb.leaf else tb) t_11 = true := by decide +kernel
theorem ro_11 (X : K.In h) (G : h.Ns mainGlobals mg) (c : He.SaysD fa fn K) : Ev.RowOk K mg pg tb t_11 := by
  obtain ⟨fd, F⟩ := c.def_ 4 (d := d_11) rfl
  exact ⟨⟨_, fd, _, _, He.glo_ok X G (c.fact 4 (f := .glo "least_levels") rfl), F, F.bindsN fun _ _ _ _ _ _ us hl => match us, hl with | [_, _], _ => rfl⟩, ⟨rfl, rfl, rfl, by decide +kernel, rfl, by decide +kernel, by decide +kernel⟩, b_11⟩
def t_12 : Ev.FT := ⟨"raise_levels", 3, ns_12, d_12, none⟩
theorem b_12 : Ev.rowB pg (if Ev.isInit t_12 then tb.leaf else tb) t_12 = true := by decide +kernel
theorem ro_12 (X : K.In h) (G : h.Ns mainGlobals mg) (c : He.SaysD fa fn K) : Ev.RowOk K mg pg tb t_12 := by
  obtain ⟨fd, F⟩ := c.def_ 5 (d := d_12) rfl
  exact ⟨⟨_, fd, _, _, He.glo_ok X G (c.fact 5 (f := .glo "raise_levels") rfl), F, F.bindsN fun _ _ _ _ _ _ us hl => match us, hl with | [_, _, _], _ => rfl⟩, ⟨rfl, rfl, rfl, by decide +kernel, rfl, by decide +kernel, by decide +kernel⟩, b_12⟩
def t_13 : Ev.FT := ⟨"reckoned", 2, ns_13, d_13, none⟩
theorem b_13 : Ev.rowB pg (if Ev.isInit t_13 then tb.leaf else tb) t_13 = true := by decide +kernel
theorem ro_13 (X : K.In h) (G : h.Ns mainGlobals mg) (c : He.SaysD fa fn K) : Ev.RowOk K mg pg tb t_13 := by
  obtain ⟨fd, F⟩ := c.def_ 6 (d := d_13) rfl
  exact ⟨⟨_, fd, _, _, He.glo_ok X G (c.fact 6 (f := .glo "reckoned") rfl), F, F.bindsN fun _ _ _ _ _ _ us hl => match us, hl with | [_, _], _ => rfl⟩, ⟨rfl, rfl, rfl, by decide +kernel, rfl, by decide +kernel, by decide +kernel⟩, b_13⟩
def t_14_0 : Ev.FT := ⟨"SecretRun.__init__", 3, ns_14_0, d_14_0, some ("SecretRun", "__init__")⟩
theorem b_14_0 : Ev.rowB pg (if Ev.isInit t_14_0 then tb.leaf else tb) t_14_0 = true := by decide +kernel
theorem ro_14_0 (X : K.In h) (G : h.Ns mainGlobals mg) (c : He.SaysD fa fn K) : Ev.RowOk K mg pg tb t_14_0 := by
  obtain ⟨fd, F⟩ := c.def_ 7 (d := d_14_0) rfl
  exact ⟨⟨_, fd, _, _, ⟨_, He.glo_ok X G (c.fact 7 (f := .glo "SecretRun") rfl), He.cls_ok (c.fact 8 (f := .cls "SecretRun") rfl), He.meth_ok (c.fact 9 (f := .meth "SecretRun" "__init__") rfl), fun _ => He.mkr_ok (c.fact 10 (f := .mkr "SecretRun") rfl)⟩, F, F.bindsN fun _ _ _ _ _ _ us hl => match us, hl with | [_, _, _], _ => rfl⟩, ⟨rfl, rfl, rfl, by decide +kernel, rfl, by decide +kernel, by decide +kernel⟩, b_14_0⟩
def t_14_1 : Ev.FT := ⟨"SecretRun.go", 2, ns_14_1, d_14_1, some ("SecretRun", "go")⟩
theorem b_14_1 : Ev.rowB pg (if Ev.isInit t_14_1 then tb.leaf else tb) t_14_1 = true := by decide +kernel
theorem ro_14_1 (X : K.In h) (G : h.Ns mainGlobals mg) (c : He.SaysD fa fn K) : Ev.RowOk K mg pg tb t_14_1 := by
  obtain ⟨fd, F⟩ := c.def_ 8 (d := d_14_1) rfl
  exact ⟨⟨_, fd, _, _, ⟨_, He.glo_ok X G (c.fact 7 (f := .glo "SecretRun") rfl), He.cls_ok (c.fact 8 (f := .cls "SecretRun") rfl), He.meth_ok (c.fact 11 (f := .meth "SecretRun" "go") rfl), fun z => absurd z (by decide)⟩, F, F.bindsN fun _ _ _ _ _ _ us hl => match us, hl with | [_, _], _ => rfl⟩, ⟨rfl, rfl, rfl, by decide +kernel, rfl, by decide +kernel, by decide +kernel⟩, b_14_1⟩
def t_15 : Ev.FT := ⟨"run_secret", 3, ns_15, d_15, none⟩
theorem b_15 : Ev.rowB pg (if Ev.isInit t_15 then tb.leaf else tb) t_15 = true := by decide +kernel
theorem ro_15 (X : K.In h) (G : h.Ns mainGlobals mg) (c : He.SaysD fa fn K) : Ev.RowOk K mg pg tb t_15 := by
  obtain ⟨fd, F⟩ := c.def_ 9 (d := d_15) rfl
  exact ⟨⟨_, fd, _, _, He.glo_ok X G (c.fact 12 (f := .glo "run_secret") rfl), F, F.bindsN fun _ _ _ _ _ _ us hl => match us, hl with | [_, _, _], _ => rfl⟩, ⟨rfl, rfl, rfl, by decide +kernel, rfl, by decide +kernel, by decide +kernel⟩, b_15⟩
def t_16 : Ev.FT := ⟨"seen_at", 3, ns_16, d_16, none⟩
theorem b_16 : Ev.rowB pg (if Ev.isInit t_16 then tb.leaf else tb) t_16 = true := by decide +kernel
theorem ro_16 (X : K.In h) (G : h.Ns mainGlobals mg) (c : He.SaysD fa fn K) : Ev.RowOk K mg pg tb t_16 := by
  obtain ⟨fd, F⟩ := c.def_ 10 (d := d_16) rfl
  exact ⟨⟨_, fd, _, _, He.glo_ok X G (c.fact 13 (f := .glo "seen_at") rfl), F, F.bindsN fun _ _ _ _ _ _ us hl => match us, hl with | [_, _, _], _ => rfl⟩, ⟨rfl, rfl, rfl, by decide +kernel, rfl, by decide +kernel, by decide +kernel⟩, b_16⟩
def t_18 : Ev.FT := ⟨"_law_tape", 1, ns_18, d_18, none⟩
theorem b_18 : Ev.rowB pg (if Ev.isInit t_18 then tb.leaf else tb) t_18 = true := by decide +kernel
theorem ro_18 (X : K.In h) (G : h.Ns mainGlobals mg) (c : He.SaysD fa fn K) : Ev.RowOk K mg pg tb t_18 := by
  obtain ⟨fd, F⟩ := c.def_ 11 (d := d_18) rfl
  exact ⟨⟨_, fd, _, _, He.glo_ok X G (c.fact 14 (f := .glo "_law_tape") rfl), F, F.bindsN fun _ _ _ _ _ _ us hl => match us, hl with | [_], _ => rfl⟩, ⟨rfl, rfl, rfl, by decide +kernel, rfl, by decide +kernel, by decide +kernel⟩, b_18⟩
def t_19 : Ev.FT := ⟨"_law_take", 2, ns_19, d_19, none⟩
theorem b_19 : Ev.rowB pg (if Ev.isInit t_19 then tb.leaf else tb) t_19 = true := by decide +kernel
theorem ro_19 (X : K.In h) (G : h.Ns mainGlobals mg) (c : He.SaysD fa fn K) : Ev.RowOk K mg pg tb t_19 := by
  obtain ⟨fd, F⟩ := c.def_ 12 (d := d_19) rfl
  exact ⟨⟨_, fd, _, _, He.glo_ok X G (c.fact 15 (f := .glo "_law_take") rfl), F, F.bindsN fun _ _ _ _ _ _ us hl => match us, hl with | [_, _], _ => rfl⟩, ⟨rfl, rfl, rfl, by decide +kernel, rfl, by decide +kernel, by decide +kernel⟩, b_19⟩
def t_20 : Ev.FT := ⟨"_law_is_integer", 1, ns_20, d_20, none⟩
theorem b_20 : Ev.rowB pg (if Ev.isInit t_20 then tb.leaf else tb) t_20 = true := by decide +kernel
theorem ro_20 (X : K.In h) (G : h.Ns mainGlobals mg) (c : He.SaysD fa fn K) : Ev.RowOk K mg pg tb t_20 := by
  obtain ⟨fd, F⟩ := c.def_ 13 (d := d_20) rfl
  exact ⟨⟨_, fd, _, _, He.glo_ok X G (c.fact 16 (f := .glo "_law_is_integer") rfl), F, F.bindsN fun _ _ _ _ _ _ us hl => match us, hl with | [_], _ => rfl⟩, ⟨rfl, rfl, rfl, by decide +kernel, rfl, by decide +kernel, by decide +kernel⟩, b_20⟩
def t_21 : Ev.FT := ⟨"_law_same_items", 2, ns_21, d_21, none⟩
theorem b_21 : Ev.rowB pg (if Ev.isInit t_21 then tb.leaf else tb) t_21 = true := by decide +kernel
theorem ro_21 (X : K.In h) (G : h.Ns mainGlobals mg) (c : He.SaysD fa fn K) : Ev.RowOk K mg pg tb t_21 := by
  obtain ⟨fd, F⟩ := c.def_ 14 (d := d_21) rfl
  exact ⟨⟨_, fd, _, _, He.glo_ok X G (c.fact 17 (f := .glo "_law_same_items") rfl), F, F.bindsN fun _ _ _ _ _ _ us hl => match us, hl with | [_, _], _ => rfl⟩, ⟨rfl, rfl, rfl, by decide +kernel, rfl, by decide +kernel, by decide +kernel⟩, b_21⟩
def t_22 : Ev.FT := ⟨"_law_same", 2, ns_22, d_22, none⟩
theorem b_22 : Ev.rowB pg (if Ev.isInit t_22 then tb.leaf else tb) t_22 = true := by decide +kernel
theorem ro_22 (X : K.In h) (G : h.Ns mainGlobals mg) (c : He.SaysD fa fn K) : Ev.RowOk K mg pg tb t_22 := by
  obtain ⟨fd, F⟩ := c.def_ 15 (d := d_22) rfl
  exact ⟨⟨_, fd, _, _, He.glo_ok X G (c.fact 18 (f := .glo "_law_same") rfl), F, F.bindsN fun _ _ _ _ _ _ us hl => match us, hl with | [_, _], _ => rfl⟩, ⟨rfl, rfl, rfl, by decide +kernel, rfl, by decide +kernel, by decide +kernel⟩, b_22⟩
def t_23 : Ev.FT := ⟨"_law_expression", 2, ns_23, d_23, none⟩
theorem b_23 : Ev.rowB pg (if Ev.isInit t_23 then tb.leaf else tb) t_23 = true := by decide +kernel
theorem ro_23 (X : K.In h) (G : h.Ns mainGlobals mg) (c : He.SaysD fa fn K) : Ev.RowOk K mg pg tb t_23 := by
  obtain ⟨fd, F⟩ := c.def_ 16 (d := d_23) rfl
  exact ⟨⟨_, fd, _, _, He.glo_ok X G (c.fact 19 (f := .glo "_law_expression") rfl), F, F.bindsN fun _ _ _ _ _ _ us hl => match us, hl with | [_, _], _ => rfl⟩, ⟨rfl, rfl, rfl, by decide +kernel, rfl, by decide +kernel, by decide +kernel⟩, b_23⟩
def t_24 : Ev.FT := ⟨"_law_program", 2, ns_24, d_24, none⟩
theorem b_24 : Ev.rowB pg (if Ev.isInit t_24 then tb.leaf else tb) t_24 = true := by decide +kernel
theorem ro_24 (X : K.In h) (G : h.Ns mainGlobals mg) (c : He.SaysD fa fn K) : Ev.RowOk K mg pg tb t_24 := by
  obtain ⟨fd, F⟩ := c.def_ 17 (d := d_24) rfl
  exact ⟨⟨_, fd, _, _, He.glo_ok X G (c.fact 20 (f := .glo "_law_program") rfl), F, F.bindsN fun _ _ _ _ _ _ us hl => match us, hl with | [_, _], _ => rfl⟩, ⟨rfl, rfl, rfl, by decide +kernel, rfl, by decide +kernel, by decide +kernel⟩, b_24⟩
def t_25 : Ev.FT := ⟨"_law_level", 2, ns_25, d_25, none⟩
theorem b_25 : Ev.rowB pg (if Ev.isInit t_25 then tb.leaf else tb) t_25 = true := by decide +kernel
theorem ro_25 (X : K.In h) (G : h.Ns mainGlobals mg) (c : He.SaysD fa fn K) : Ev.RowOk K mg pg tb t_25 := by
  obtain ⟨fd, F⟩ := c.def_ 18 (d := d_25) rfl
  exact ⟨⟨_, fd, _, _, He.glo_ok X G (c.fact 21 (f := .glo "_law_level") rfl), F, F.bindsN fun _ _ _ _ _ _ us hl => match us, hl with | [_, _], _ => rfl⟩, ⟨rfl, rfl, rfl, by decide +kernel, rfl, by decide +kernel, by decide +kernel⟩, b_25⟩
def t_26 : Ev.FT := ⟨"_law_leak", 4, ns_26, d_26, none⟩
theorem b_26 : Ev.rowB pg (if Ev.isInit t_26 then tb.leaf else tb) t_26 = true := by decide +kernel
theorem ro_26 (X : K.In h) (G : h.Ns mainGlobals mg) (c : He.SaysD fa fn K) : Ev.RowOk K mg pg tb t_26 := by
  obtain ⟨fd, F⟩ := c.def_ 19 (d := d_26) rfl
  exact ⟨⟨_, fd, _, _, He.glo_ok X G (c.fact 22 (f := .glo "_law_leak") rfl), F, F.bindsN fun _ _ _ _ _ _ us hl => match us, hl with | [_, _, _, _], _ => rfl⟩, ⟨rfl, rfl, rfl, by decide +kernel, rfl, by decide +kernel, by decide +kernel⟩, b_26⟩
def t_27 : Ev.FT := ⟨"_law_value", 2, ns_27, d_27, none⟩
theorem b_27 : Ev.rowB pg (if Ev.isInit t_27 then tb.leaf else tb) t_27 = true := by decide +kernel
theorem ro_27 (X : K.In h) (G : h.Ns mainGlobals mg) (c : He.SaysD fa fn K) : Ev.RowOk K mg pg tb t_27 := by
  obtain ⟨fd, F⟩ := c.def_ 20 (d := d_27) rfl
  exact ⟨⟨_, fd, _, _, He.glo_ok X G (c.fact 23 (f := .glo "_law_value") rfl), F, F.bindsN fun _ _ _ _ _ _ us hl => match us, hl with | [_, _], _ => rfl⟩, ⟨rfl, rfl, rfl, by decide +kernel, rfl, by decide +kernel, by decide +kernel⟩, b_27⟩
def t_28 : Ev.FT := ⟨"_law_run", 3, ns_28, d_28, none⟩
theorem b_28 : Ev.rowB pg (if Ev.isInit t_28 then tb.leaf else tb) t_28 = true := by decide +kernel
theorem ro_28 (X : K.In h) (G : h.Ns mainGlobals mg) (c : He.SaysD fa fn K) : Ev.RowOk K mg pg tb t_28 := by
  obtain ⟨fd, F⟩ := c.def_ 21 (d := d_28) rfl
  exact ⟨⟨_, fd, _, _, He.glo_ok X G (c.fact 24 (f := .glo "_law_run") rfl), F, F.bindsN fun _ _ _ _ _ _ us hl => match us, hl with | [_, _, _], _ => rfl⟩, ⟨rfl, rfl, rfl, by decide +kernel, rfl, by decide +kernel, by decide +kernel⟩, b_28⟩
def t_29 : Ev.FT := ⟨"law", 1, ns_29, d_29, none⟩
theorem b_29 : Ev.rowB pg (if Ev.isInit t_29 then tb.leaf else tb) t_29 = true := by decide +kernel
theorem ro_29 (X : K.In h) (G : h.Ns mainGlobals mg) (c : He.SaysD fa fn K) : Ev.RowOk K mg pg tb t_29 := by
  obtain ⟨fd, F⟩ := c.def_ 22 (d := d_29) rfl
  exact ⟨⟨_, fd, _, _, He.glo_ok X G (c.fact 25 (f := .glo "law") rfl), F, F.bindsN fun _ _ _ _ _ _ us hl => match us, hl with | [_], _ => rfl⟩, ⟨rfl, rfl, rfl, by decide +kernel, rfl, by decide +kernel, by decide +kernel⟩, b_29⟩
def rows : List Ev.FT := ([t_6, t_8, t_9, t_10, t_11, t_12, t_13, t_14_0, t_14_1, t_15, t_16, t_18, t_19, t_20, t_21, t_22, t_23, t_24, t_25, t_26, t_27, t_28, t_29] : List Ev.FT)
theorem ro (X : K.In h) (G : h.Ns mainGlobals mg) (c : He.SaysD fa fn K) : ∀ t ∈ rows, Ev.RowOk K mg pg tb t := by
  intro t ht
  simp only [rows, List.mem_append, List.mem_cons, List.not_mem_nil, or_false, or_assoc] at ht
  rcases ht with ht | ht | ht | ht | ht | ht | ht | ht | ht | ht | ht | ht | ht | ht | ht | ht | ht | ht | ht | ht | ht | ht | ht
  · subst ht; exact ro_6 X G c
  · subst ht; exact ro_8 X G c
  · subst ht; exact ro_9 X G c
  · subst ht; exact ro_10 X G c
  · subst ht; exact ro_11 X G c
  · subst ht; exact ro_12 X G c
  · subst ht; exact ro_13 X G c
  · subst ht; exact ro_14_0 X G c
  · subst ht; exact ro_14_1 X G c
  · subst ht; exact ro_15 X G c
  · subst ht; exact ro_16 X G c
  · subst ht; exact ro_18 X G c
  · subst ht; exact ro_19 X G c
  · subst ht; exact ro_20 X G c
  · subst ht; exact ro_21 X G c
  · subst ht; exact ro_22 X G c
  · subst ht; exact ro_23 X G c
  · subst ht; exact ro_24 X G c
  · subst ht; exact ro_25 X G c
  · subst ht; exact ro_26 X G c
  · subst ht; exact ro_27 X G c
  · subst ht; exact ro_28 X G c
  · subst ht; exact ro_29 X G c
theorem bn (X : K.In h) (G : h.Ns mainGlobals mg) (c : He.SaysD fa fn K) : ∀ x ∈ Ev.biNames ++ Ev.tyBi ++ ["enumerate", "zip", "range"] ++ Ev.tyNames, mg (Str.ofString x) = none := by
  intro x hx
  have hx : x = "len" ∨ x = "abs" ∨ x = "isinstance" ∨ x = "sum" ∨ x = "sorted" ∨ x = "max" ∨ x = "any" ∨ x = "all" ∨ x = "tuple" ∨ x = "list" ∨ x = "dict" ∨ x = "int" ∨ x = "enumerate" ∨ x = "zip" ∨ x = "range" ∨ x = "bool" ∨ x = "int" ∨ x = "str" ∨ x = "tuple" ∨ x = "list" ∨ x = "dict" := by simpa [Ev.biNames, Ev.tyBi, Ev.tyNames] using hx
  rcases hx with rfl | rfl | rfl | rfl | rfl | rfl | rfl | rfl | rfl | rfl | rfl | rfl | rfl | rfl | rfl | rfl | rfl | rfl | rfl | rfl | rfl
  · exact He.free_ok X G (c.fact 26 (f := .free "len") rfl)
  · exact He.free_ok X G (c.fact 27 (f := .free "abs") rfl)
  · exact He.free_ok X G (c.fact 28 (f := .free "isinstance") rfl)
  · exact He.free_ok X G (c.fact 29 (f := .free "sum") rfl)
  · exact He.free_ok X G (c.fact 30 (f := .free "sorted") rfl)
  · exact He.free_ok X G (c.fact 31 (f := .free "max") rfl)
  · exact He.free_ok X G (c.fact 32 (f := .free "any") rfl)
  · exact He.free_ok X G (c.fact 33 (f := .free "all") rfl)
  · exact He.free_ok X G (c.fact 34 (f := .free "tuple") rfl)
  · exact He.free_ok X G (c.fact 35 (f := .free "list") rfl)
  · exact He.free_ok X G (c.fact 36 (f := .free "dict") rfl)
  · exact He.free_ok X G (c.fact 37 (f := .free "int") rfl)
  · exact He.free_ok X G (c.fact 38 (f := .free "enumerate") rfl)
  · exact He.free_ok X G (c.fact 39 (f := .free "zip") rfl)
  · exact He.free_ok X G (c.fact 40 (f := .free "range") rfl)
  · exact He.free_ok X G (c.fact 41 (f := .free "bool") rfl)
  · exact He.free_ok X G (c.fact 37 (f := .free "int") rfl)
  · exact He.free_ok X G (c.fact 42 (f := .free "str") rfl)
  · exact He.free_ok X G (c.fact 34 (f := .free "tuple") rfl)
  · exact He.free_ok X G (c.fact 35 (f := .free "list") rfl)
  · exact He.free_ok X G (c.fact 36 (f := .free "dict") rfl)
theorem ho : Ev.TbOk rows tb := Ev.tbOk_by (by decide +kernel)
theorem hcs (X : K.In h) (G : h.Ns mainGlobals mg) (c : He.SaysD fa fn K) : ∀ p ∈ tb.csts, ∃ v u, mg (Str.ofString p.1) = some u ∧ RelV v u ∧ ∀ φ H, Ev.Rep ⟨K, mg⟩ φ H p.2 v := by
  intro p hp
  simp only [tb, List.mem_cons, List.not_mem_nil, or_false] at hp
  rcases hp with rfl
  · obtain ⟨t, e⟩ := He.int_ok X G (c.fact 43 (f := .int "WHOLE" 4294967296) rfl)
    exact ⟨.int 4294967296, _, e, ⟨t, rfl⟩, fun φ H => rfl⟩
theorem htb {P : Program} (X : K.In h) (G : h.Ns mainGlobals mg) (c : He.SaysD fa fn K) (hp : ∃ C fI, PySem.ProbX.ProbTxt P K mg C fI) : Ev.TabOk P K mg tb.flds tb.xos tb.xcs tb.xpb := by
  refine ⟨?_, ?_, ?_, ?_⟩
  · intro p hp
    simp only [tb, List.mem_cons, List.not_mem_nil, or_false] at hp
    rcases hp with rfl | rfl
    · exact ⟨_, He.glo_ok X G (c.fact 7 (f := .glo "SecretRun") rfl), He.cls_ok (c.fact 8 (f := .cls "SecretRun") rfl), He.noat_ok (c.fact 44 (f := .noat "SecretRun" "known") rfl)⟩
    · exact ⟨_, He.glo_ok X G (c.fact 7 (f := .glo "SecretRun") rfl), He.cls_ok (c.fact 8 (f := .cls "SecretRun") rfl), He.noat_ok (c.fact 45 (f := .noat "SecretRun" "fuel") rfl)⟩
  · intro p hp
    simp only [tb, List.mem_cons, List.not_mem_nil, or_false] at hp
    rcases hp with rfl
    · exact ⟨_, He.glo_ok X G (c.fact 46 (f := .glo "Tired") rfl), He.exc_ok (c.fact 47 (f := .exc "Tired") rfl)⟩
  · intro x hx y hy
    simp only [tb, List.mem_cons, List.not_mem_nil, or_false] at hx hy
    rcases hx with rfl | rfl <;> rcases hy with rfl | rfl
    · exact ⟨_, _, He.glo_ok X G (c.fact 48 (f := .glo "TypeProblem") rfl), He.glo_ok X G (c.fact 48 (f := .glo "TypeProblem") rfl), He.exm_ok (c.fact 49 (f := .exm "TypeProblem" "TypeProblem" true) rfl)⟩
    · exact ⟨_, _, He.glo_ok X G (c.fact 48 (f := .glo "TypeProblem") rfl), He.glo_ok X G (c.fact 46 (f := .glo "Tired") rfl), He.exm_ok (c.fact 50 (f := .exm "TypeProblem" "Tired" false) rfl)⟩
    · exact ⟨_, _, He.glo_ok X G (c.fact 46 (f := .glo "Tired") rfl), He.glo_ok X G (c.fact 48 (f := .glo "TypeProblem") rfl), He.exm_ok (c.fact 51 (f := .exm "Tired" "TypeProblem" false) rfl)⟩
    · exact ⟨_, _, He.glo_ok X G (c.fact 46 (f := .glo "Tired") rfl), He.glo_ok X G (c.fact 46 (f := .glo "Tired") rfl), He.exm_ok (c.fact 52 (f := .exm "Tired" "Tired" true) rfl)⟩
  · exact fun _ => hp
theorem facts {P : Program} {w : World} {f : Addr} (X : K.In h) (G : h.Ns mainGlobals mg) (hfa : mg ("law" : Str) = some (.ref f)) (c : He.SaysD fa fn K) (hp : ∃ C fI, PySem.ProbX.ProbTxt P K mg C fI) :
    ∃ fd : FuncData, (∀ (s : Shared) (v : Value), BindsTo s fd ⟨[v], []⟩ [("script", v)]) ∧ ∀ base : Heap, K.In base → base.Ns mainGlobals mg → FnOk P w K mg base (Ev.CXw P) ROOM f fd ["script"] (Ev.spEv ⟨K, mg⟩ (Ev.callF pg TURNS CALLS) "law") := by
  obtain ⟨fd, F⟩ := c.def_ 22 (d := d_29) rfl
  have e := hfa.symm.trans (He.glo_ok X G (c.fact 25 (f := .glo "law") rfl))
  cases e
  have b := FunD.bindsA (ps := ["script"]) F fun _ _ _ _ _ _ us hl => match us, hl with | [_], _ => rfl
  refine ⟨fd, fun s v => b s [v] rfl, fun base _ _ => ?_⟩
  have fb : Ev.FreeB mg := fun t ht => bn X G c t (List.mem_append_right _ ht)
  have hbn := fun x hx => bn X G c x (List.mem_append_left Ev.tyNames hx)
  exact Ev.cxw_of (Ev.fn_law (t := t_29) (k := CALLS + 1) fb hbn (hcs X G c) (htb X G c hp) (fun A hr => Ev.fns_ok (rows := rows) fb hbn (hcs X G c) (htb X G c hp) ho (ro X G c) _ A hr) F (ro_29 X G c).S b_29)
end
def endLaw (ns : List Int) : Prop := ∃ A1, Ev.callF pg TURNS CALLS "law" [.frl (ns.map .int)] [] = .ok (.bl true) A1
theorem law_pure (ns : List Int) (h : ns.length ≤ 63) : endLaw ns := law_end TURNS (by decide) ns h
end K29
open PySem PySem.W PySem.Calls PyProof.Rows
theorem PySem.Challenge.cw_effecthouse_k29_whole_secrets_holds : PySem.Challenge.rw_effecthouse_k29_whole_secrets.Holds := by
  w_on; o_law
  refine HandSHeadRun.head_any (r := OpenLaw.row PySem.Challenge.rw_effecthouse_k29_whole_secrets) (q := view (OpenLaw.row PySem.Challenge.rw_effecthouse_k29_whole_secrets).prog [29]) (H := K29.hk) (ob := K29.ob) (M := 3000) (loose := K29.loose) (d := HandSHeadRun.topDef (OpenLaw.row PySem.Challenge.rw_effecthouse_k29_whole_secrets).prog 29) (kwd := []) K29.ob_eq
    (by kernel_rfl) (fun s => by kernel_rfl) K29.run (by kernel_rfl) (by kernel_rfl) (by kernel_rfl) (by rfl) (by first | assumption | decide +kernel) (by decide +kernel) ⟨rfl, rfl, rfl, rfl, rfl, by decide +kernel⟩ ?hw ?hc
  case hw => w_witness2
  case hc =>
    refine L2.walk_ofE (l := PySem.Challenge.rw_effecthouse_k29_whole_secrets) (n := 63) (k := K29.ROOM) (x := "script") (CX := Ev.CXw (PySem.Challenge.rw_effecthouse_k29_whole_secrets).prog) rfl (by decide) (by kernel_rfl) ⟨rfl, by decide, by decide⟩ ?F ?G
    case G => exact fun H s e s' z => Ev.noex z
    intro w mg fa h Y G hmg0
    obtain ⟨K, KX, c, pb, pv⟩ := Y
    have hmg : mg ("law" : PySem.Str) = some (.ref fa) := by
      have e : (HandSHeadRun.topDef (OpenLaw.row PySem.Challenge.rw_effecthouse_k29_whole_secrets).prog 29).name = ("law" : PySem.Str) := by kernel_rfl
      rw [← e]
      exact hmg0
    obtain ⟨fd, hb, hF⟩ := K29.facts (P := (PySem.Challenge.rw_effecthouse_k29_whole_secrets).prog) (w := w) KX G hmg c ⟨_, _, Ev.prob_of KX G (c.fact 48 (f := .glo "TypeProblem") rfl) (c.fact 53 (f := .free "super") rfl) pb pv (by decide +kernel) (by kernel_rfl)⟩
    exact ⟨K, fd, _, KX, hb, fun H a ns hl hO hS => Ev.law_of (t := K29.t_29) (pg := K29.pg) (NN := K29.TURNS) (n := K29.CALLS) hO hS (K29.law_pure ns hl), hF⟩

