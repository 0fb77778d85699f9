import PyProof.Rows.All
import Wide.All
import OpenK.AllK
import Wide.FinOn
import HandS.ForMost
import HandS.ForExc
import HandS.Wide
import HandS.Codes
import HandS.HeadHook1
import HandS.HeadHook2
import HandS.HeadEnd
import KE.KSuper
import HandS.Head0
import HandS.Head1
import HandS.Head2
import HandS.TupAny
import HandS.IsInst
import HandS.Conv
import HandS.WideBits
import HandS.Defaults
import HandS.Style
import HandS.TupMul
import HandS.Dict
import HandS.TupLe
import HandS.SortRule
import KE.DatumOrd
import HandS.SortInts
import HandS.TupSets
import HandS.More
import HandS.Walk
import KE.GoesEnum
import KE.GoesMore
import HandS.Iter
import HandS.RevRange
import HandS.Zip
import KE.GoesZip
import HandS.Star
import HandS.Property
import HandS.DictComp
import HandS.SetFor
import KE.KDictWalk
import PyProof.AutoSeq1
import HandS.ListItems
import HandS.MapObj
import KE.KDictZip
import KE.KDictItemsList
import HandS.Comp
import KE.KUnpackStar
import HandS.Nested
import PySem.Challenge.RW_bandpress_k57_whole_asked_again
set_option linter.all false
set_option maxRecDepth 100000
set_option maxHeartbeats 0
set_option Elab.async false
namespace Nz
abbrev Str := PySem.Str
/-- plain data; ref: a place of the store; wt: a tuple of the written part -/
inductive D where
  | non | bl (b : Bool) | int (i : Int) | str (s : Str) | tup (ds : List D) | ref (l : Nat) | wt (ds : List D)
  deriving Inhabited
/-- what stands at a place of the store -/
inductive O where
  | lst (ds : List D) | frz (ds : List D) | ins (c : Nat) (fs : List (Nat × D)) | dct (t : Bool) (kvs : List (D × D)) | dlk (t : Bool) (kvs : List (D × D))
  deriving Inhabited
abbrev Store := List O
abbrev Env := List (Option D)
mutual
def D.beq : D → D → Bool
  | .non, .non => true
  | .bl a, .bl b => a == b
  | .int a, .int b => a == b
  | .str a, .str b => decide (a = b)
  | .tup a, .tup b => D.beqs a b
  | .ref a, .ref b => a == b
  | .wt a, .wt b => D.beqs a b
  | _, _ => false
def D.beqs : List D → List D → Bool
  | [], [] => true
  | a :: as, b :: bs => D.beq a b && D.beqs as bs
  | _, _ => false
end
mutual
theorem D.beq_refl : ∀ a : D, D.beq a a = true
  | .non => by simp [D.beq]
  | .bl _ => by simp [D.beq]
  | .int _ => by simp [D.beq]
  | .str _ => by simp [D.beq]
  | .ref _ => by simp [D.beq]
  | .tup ds => by simp [D.beq, D.beqs_refl ds]
  | .wt ds => by simp [D.beq, D.beqs_refl ds]
theorem D.beqs_refl : ∀ a : List D, D.beqs a a = true
  | [] => by simp [D.beqs]
  | a :: as => by simp [D.beqs, D.beq_refl a, D.beqs_refl as]
end
mutual
theorem D.beq_eq : ∀ {a b : D}, D.beq a b = true → a = b
  | .non, b, h => by cases b <;> simp [D.beq] at h ⊢
  | .bl _, b, h => by cases b <;> simp [D.beq] at h ⊢; exact h
  | .int _, b, h => by cases b <;> simp [D.beq] at h ⊢; exact h
  | .str _, b, h => by cases b <;> simp [D.beq] at h ⊢; exact h
  | .ref _, b, h => by cases b <;> simp [D.beq] at h ⊢; exact h
  | .tup ds, b, h => by
    cases b with
    | tup es => rw [D.beqs_eq (a := ds) (b := es) (by simpa [D.beq] using h)]
    | _ => simp [D.beq] at h
  | .wt ds, b, h => by
    cases b with
    | wt es => rw [D.beqs_eq (a := ds) (b := es) (by simpa [D.beq] using h)]
    | _ => simp [D.beq] at h
theorem D.beqs_eq : ∀ {a b : List D}, D.beqs a b = true → a = b
  | [], b, h => by cases b <;> simp [D.beqs] at h ⊢
  | a :: as, b, h => by
    cases b with
    | nil => simp [D.beqs] at h
    | cons b bs =>
      simp only [D.beqs, Bool.and_eq_true] at h
      rw [D.beq_eq h.1, D.beqs_eq h.2]
end
instance : DecidableEq D := fun a b => if h : D.beq a b = true then .isTrue (D.beq_eq h) else .isFalse fun e => h (e ▸ D.beq_refl a)
def O.beq : O → O → Bool
  | .lst a, .lst b => D.beqs a b
  | .frz a, .frz b => D.beqs a b
  | .ins c a, .ins d b => c == d && decide (a = b)
  | .dct t a, .dct u b => t == u && decide (a = b)
  | .dlk t a, .dlk u b => t == u && decide (a = b)
  | _, _ => false
theorem O.beq_refl (a : O) : O.beq a a = true := by
  cases a <;> simp [O.beq, D.beqs_refl]
theorem O.beq_eq {a b : O} (h : O.beq a b = true) : a = b := by
  cases a <;> cases b <;> simp [O.beq] at h ⊢
  · exact D.beqs_eq h
  · exact D.beqs_eq h
  · exact h
  · exact h
  · exact h
mutual
/-- all places named lie below n -/
def D.cl (n : Nat) : D → Bool
  | .ref l => decide (l < n)
  | .tup ds => D.cls n ds
  | .wt ds => D.cls n ds
  | _ => true
def D.cls (n : Nat) : List D → Bool
  | [] => true
  | d :: ds => D.cl n d && D.cls n ds
end
def O.cl (n : Nat) : O → Bool
  | .lst ds => D.cls n ds
  | .frz ds => D.cls n ds
  | .ins _ fs => D.cls n (fs.map (·.2))
  | .dct _ kvs => D.cls n (kvs.map (·.1)) && D.cls n (kvs.map (·.2))
  | .dlk _ kvs => D.cls n (kvs.map (·.1)) && D.cls n (kvs.map (·.2))
def D.key0 : D → Bool
  | .int _ => true
  | .str _ => true
  | _ => false
/-- a key: false: an int or a text; true: a tuple of such -/
def D.keyOk (t : Bool) (d : D) : Bool := match t with
  | false => d.key0
  | true => (match d with
    | .tup ks => ks.all D.key0
    | _ => false)
def dGet (kvs : List (D × D)) (k : D) : Option D := (kvs.find? fun p => decide (p.1 = k)).map (·.2)
def dPut (kvs : List (D × D)) (k v : D) : List (D × D) := if (kvs.any fun p => decide (p.1 = k)) = true then kvs.map (fun p => if p.1 = k then (p.1, v) else p) else kvs ++ [(k, v)]
inductive R (α : Type) where
  | ok (a : α) (s : Store) | no
def R.bind {α β : Type} (r : R α) (f : α → Store → R β) : R β := match r with
  | .ok a s => f a s
  | .no => .no
@[simp] theorem R.bind_ok {α β : Type} (a : α) (s : Store) (f : α → Store → R β) : (R.ok a s).bind f = f a s := (rfl)
@[simp] theorem R.bind_no {α β : Type} (f : α → Store → R β) : (R.no : R α).bind f = .no := (rfl)
theorem R.bind_assoc {α β γ : Type} (r : R α) (f : α → Store → R β) (g : β → Store → R γ) : (r.bind f).bind g = r.bind fun a s => (f a s).bind g := by cases r <;> rfl
/-- a guard -/
def R.grd {α : Type} (b : Bool) (r : R α) : R α := match b with | true => r | false => .no
@[simp] theorem R.grd_true {α : Type} (r : R α) : R.grd true r = r := (rfl)
@[simp] theorem R.grd_false {α : Type} (r : R α) : R.grd false r = .no := (rfl)
/-- behind a call: new places that nothing names any more are forgotten; a new list alone is moved to the first new place -/
def pfx (n : Nat) : Store → Store → Bool
  | [], _ => true
  | _ :: _, [] => false
  | o :: os, p :: ps => (O.beq o p || O.cl n p) && pfx n os ps
def gc (st : Store) (r : R D) : R D := match r with
  | .no => .no
  | .ok d s =>
    if pfx st.length st s then
      if D.cl st.length d then .ok d (s.take st.length)
      else match d with
        | .ref l => (match s[l]? with
          | some o => if O.cl st.length o then .ok (.ref st.length) (s.take st.length ++ [o]) else .ok d s
          | none => .ok d s)
        | _ => .ok d s
    else .ok d s
inductive BinO where | add | sub | mul | fdiv | mod | pow | shl | shr | band | bor | bxor
  deriving DecidableEq
inductive CmpO where | eq | ne | lt | le | gt | ge | is_ | isn | in_ | nin
  deriving DecidableEq
/-- built-in functions of values -/
inductive Bi where | len | abs | int | min2 | max2 | mkl | mkt | sum | all | any | sorted | min1 | max1 | bits | mkd
  deriving DecidableEq
/-- methods of lists -/
inductive Lm where | ext | ins | idx | rem
  deriving DecidableEq
/-- the kinds that isinstance asks for -/
inductive Ty where | int | bool | str | tuple | list | cls (c : Nat)
  deriving DecidableEq
inductive T where | nm (i : Nat) | tp (ts : List T)
mutual
inductive E where
  | con (d : D)
  | var (i : Nat)
  | bin (o : BinO) (a b : E)
  | neg (a : E)
  | cmp (o : CmpO) (a b : E)
  | chn (o p : CmpO) (a b c : E)
  | and (a b : E)
  | or (a b : E)
  | not (a : E)
  | ite (c : C) (a b : E)
  | tup (es : Es)
  | lst (es : Es)
  | idx (a i : E)
  | slc (a : E) (lo hi : Oe)
  | rev (a : E)
  | call (f : Nat) (es : Es)
  | bi (b : Bi) (es : Es)
  | isi (a : E) (ks : List Ty)
  | fld (a : E) (f : Nat)
  | meth (a : E) (m : Nat) (es : Es)
  | prop (a : E) (m : Nat)
  | mk (c : Nat) (es : Es)
  | app (a e : E)
  | lrng (i : Iw)
  | comp (own : List Nat) (elt : E) (t : T) (i : Iw) (c : Oc)
  | dnew (t : Bool)
  | dget (a k d : E)
  | dcomp (tt : Bool) (own : List Nat) (k v : E) (t : T) (i : Iw) (c : Oc)
  | cnt (a b : E)
  | popi (a b : E)
  | disp (ks : List Str) (es : Es)
  | lck (a e : E)
  | lm (m : Lm) (a : E) (es : Es)
  | lzip (es : Es)
  | comp2 (own vs : List Nat) (elt : E) (t : T) (i : Iw) (t2 : T) (i2 : Iw) (c : Oc)
inductive C where
  | val (e : E) | not (c : C) | and (a b : C) | or (a b : C) 
inductive Oc where | none | some (c : C)
inductive Oe where | none | some (e : E)
inductive Es where | nil | cons (e : E) (es : Es) | spl (e : E) (es : Es)
inductive Iw where
  | seq (e : E) | rng1 (a : E) | rng2 (a b : E) | rng3 (a b c : E) | enum (e : E) | zip2 (a b : E) | rrng1 (a : E) | rseq (e : E) | ditm (e : E) | dkey (e : E)
end
mutual
inductive S where
  | set (t : T) (e : E)
  | par (i j : Nat) (a b : E)
  | aug (i : Nat) (o : BinO) (e : E)
  | sti (a i e : E)
  | augi (a i : E) (o : BinO) (e : E)
  | stf (a : E) (f : Nat) (e : E)
  | augf (a : E) (f : Nat) (o : BinO) (e : E)
  | ex (e : E)
  | ret (e : E)
  | retn
  | ifs (c : C) (a b : Ss)
  | for_ (t : T) (i : Iw) (b : Ss)
  | whl (c : C) (b : Ss)
  | brk | cont | pass
  | raise
  | lck (a : E) (s : S)
  | unp (ts : List T) (r : T) (e : E)
  | sup (c g : Nat) (es : Es)
inductive Ss where | nil | cons (s : S) (ss : Ss)
end
inductive Fl where | nx | ret (d : D) | bk | ct
end Nz
namespace Nz
def mulOk (i j : Int) : Bool := decide ((-18446744073709551616 < i ∧ i < 18446744073709551616) ∨ (-18446744073709551616 < j ∧ j < 18446744073709551616)) || decide (i.natAbs.log2 + j.natAbs.log2 < 1000000)
def divOk (j : Int) : Bool := decide (0 < j) && (decide (j < 1073741824) || decide (j.natAbs.log2 < 9000))
def arith : BinO → Int → Int → Option Int
  | .add, i, j => some (i + j)
  | .sub, i, j => some (i - j)
  | .mul, i, j => if mulOk i j then some (i * j) else none
  | .fdiv, i, j => if divOk j then some (i / j) else if j ≠ 0 ∧ (j.natAbs < 1073741824 ∨ j.natAbs.log2 < 9000) then some (i.fdiv j) else none
  | .mod, i, j => if 0 < j then some (i % j) else if j ≠ 0 then some (i.fmod j) else none
  | .pow, i, j => if 0 ≤ j ∧ j ≤ 1000000 ∧ i.natAbs < 18446744073709551616 then some (i ^ j.toNat) else none
  | .shl, i, j => if 0 ≤ j ∧ (j ≤ 1000000 ∧ i.natAbs.log2 + j.toNat < 100000000) then some (i * 2 ^ j.toNat) else none
  | .shr, i, j => if 0 ≤ j then some (i / 2 ^ j.toNat) else none
  | .band, i, j => some (PySem.Builtin.bitAnd i j)
  | .bor, i, j => some (PySem.Builtin.bitOr i j)
  | .bxor, i, j => some (PySem.Builtin.bitXor i j)
/-- k copies of a list -/
def reps (k : Nat) (ds : List D) : List D := (List.replicate k ds).flatten
abbrev LINE : Nat := 16777216
def R.ofI (o : Option Int) (st : Store) : R D := match o with | some k => .ok (.int k) st | none => .no
/-- a new list -/
def newL (ds : List D) (st : Store) : R D := R.grd (decide (ds.length ≤ LINE)) (.ok (.ref st.length) (st ++ [.lst ds]))
def newT (ds : List D) (st : Store) : R D := R.grd (decide (ds.length ≤ LINE)) (.ok (.tup ds) st)
def binR (o : BinO) (l m : Nat) (st : Store) : R D := match o, st[l]?, st[m]? with
  | .add, some (.lst a), some (.lst b) => newL (a ++ b) st
  | _, _, _ => .no
def binop (o : BinO) (x y : D) (st : Store) : R D := match x with
  | .int i => (match y with
    | .int j => R.ofI (arith o i j) st
    | _ => .no)
  | .tup a => (match y with
    | .tup b => (match o with
      | .add => newT (a ++ b) st
      | _ => .no)
    | .int k => (match o with
      | .mul => R.grd (decide (-9223372036854775808 ≤ k ∧ k < 9223372036854775808)) (newT (reps k.toNat a) st)
      | _ => .no)
    | _ => .no)
  | .ref l => (match y with
    | .ref m => binR o l m st
    | .int k => (match o, st[l]? with
      | .mul, some (.lst a) => R.grd (decide (-9223372036854775808 ≤ k ∧ k < 9223372036854775808)) (newL (reps k.toNat a) st)
      | _, _ => .no)
    | _ => .no)
  | _ => .no
mutual
/-- a value as data; lk: what the places are as data -/
def toP (lk : Nat → Option PySem.PyData) : D → Option PySem.PyData
  | .non => some .none
  | .bl b => some (.bool b)
  | .int i => some (.int i)
  | .str s => some (.str s)
  | .tup ds => (toPs lk ds).map .tuple
  | .wt ds => (toPs lk ds).map .tuple
  | .ref l => lk l
def toPs (lk : Nat → Option PySem.PyData) : List D → Option (List PySem.PyData)
  | [] => some []
  | d :: ds => (match toP lk d with
    | some x => (match toPs lk ds with
      | some xs => some (x :: xs)
      | none => none)
    | none => none)
end
/-- a place as data, through at most n lists -/
def lookP (st : Store) : Nat → Nat → Option PySem.PyData
  | 0, _ => none
  | n + 1, l => (match st[l]? with
    | some (.lst ds) => (toPs (lookP st n) ds).map .list
    | some (.frz ds) => (toPs (lookP st n) ds).map .list
    | _ => none)
/-- == of data -/
def eqP (x y : D) (st : Store) : Option Bool := match toP (lookP st 8) x, toP (lookP st 8) y with
  | some a, some b => if PySem.SeqAt.shaped a && PySem.SeqAt.shaped b then some (PySem.PyData.eqv a b) else none
  | _, _ => none
def eqD (x y : D) (st : Store) : Option Bool := match x with
  | .int i => (match y with
    | .int j => some (decide (i = j))
    | .non => some false
    | .str _ => some false
    | y => eqP (.int i) y st)
  | .str s => (match y with
    | .str t => some (decide (s = t))
    | .int _ => some false
    | .non => some false
    | y => eqP (.str s) y st)
  | .bl a => (match y with
    | .bl b => some (decide (a = b))
    | y => eqP (.bl a) y st)
  | .non => (match y with
    | .non => some true
    | .int _ => some false
    | .str _ => some false
    | y => eqP .non y st)
  | x => eqP x y st
def R.ofB (o : Option Bool) (st : Store) : R D := match o with | some k => .ok (.bl k) st | none => .no
@[simp] theorem R.ofB_some (b : Bool) (st : Store) : R.ofB (some b) st = .ok (.bl b) st := (rfl)
@[simp] theorem R.ofB_none (st : Store) : R.ofB none st = .no := (rfl)
@[simp] theorem R.ofI_some (b : Int) (st : Store) : R.ofI (some b) st = .ok (.int b) st := (rfl)
@[simp] theorem R.ofI_none (st : Store) : R.ofI none st = .no := (rfl)
def ordI : CmpO → Int → Int → Option Bool
  | .lt, i, j => some (decide (i < j))
  | .le, i, j => some (decide (i ≤ j))
  | .gt, i, j => some (decide (j < i))
  | .ge, i, j => some (decide (j ≤ i))
  | _, _, _ => none
/-- scalars without the heap -/
def D.flat : D → Bool
  | .non => true
  | .bl _ => true
  | .int _ => true
  | .str _ => true
  | _ => false
/-- flat data, as in-tests compare them -/
def D.eqF : D → D → Bool
  | .bl a, .int j => (if a then 1 else 0) == j
  | .int i, .bl b => i == (if b then 1 else 0)
  | a, b => D.beq a b
/-- a dict -/
def dctOf (x : D) (st : Store) : Option (Bool × List (D × D)) := match x with
  | .ref l => (match st[l]? with
    | some (.dct t kvs) => some (t, kvs)
    | _ => none)
  | _ => none
def seqOf (x : D) (st : Store) : Option (List D) := match x with
  | .tup ds => some ds
  | .ref l => (match st[l]? with
    | some (.lst ds) => some ds
    | some (.frz ds) => some ds
    | _ => none)
  | _ => none
/-- .. or of the written part -/
def seqW (x : D) (st : Store) : Option (List D) := match x with
  | .wt ds => some ds
  | x => seqOf x st
/-- nested data in a list or a tuple -/
def inP (x y : D) (st : Store) : Option Bool := match toP (lookP st 8) x, toP (lookP st 8) y with
  | some d, some (.tuple ds) => if PySem.SeqAt.shaped d && (PySem.SeqAt.shaped (.tuple ds) && decide (d.depth ≤ 8)) then some (ds.any fun z => PySem.PyData.eqv z d) else none
  | some d, some (.list ds) => if PySem.SeqAt.shaped d && (PySem.SeqAt.shaped (.list ds) && decide (d.depth ≤ 8)) then some (ds.any fun z => PySem.PyData.eqv z d) else none
  | _, _ => none
def isIn (x y : D) (st : Store) : Option Bool := match dctOf y st with
  | some (t, kvs) => if x.keyOk t then some (dGet kvs x).isSome else none
  | none => (match seqW y st with
    | some ds => if x.flat && ds.all D.flat then some (ds.any fun d => D.eqF d x) else inP x y st
    | none => none)
/-- intsOf of a list -/
def intsOf : List D → Option (List Int)
  | [] => some []
  | .int i :: ds => (match intsOf ds with
    | some is => some (i :: is)
    | none => none)
  | _ :: _ => none
/-- > of tuples of ints: at the first difference, else the longer -/
def gtI : List Int → List Int → Bool
  | [], _ => false
  | _ :: _, [] => true
  | x :: xs, y :: ys => if x = y then gtI xs ys else decide (y < x)
def gtT (a b : List D) : Option Bool := match intsOf a, intsOf b with
  | some is, some js => some (gtI is js)
  | _, _ => none
def cmpop (o : CmpO) (x y : D) (st : Store) : R D := match o with
  | .eq => R.ofB (eqD x y st) st
  | .ne => R.ofB ((eqD x y st).map not) st
  | .is_ => (match y with
    | .non => R.ofB (some (decide (x = .non))) st
    | .bl b => (match x with
      | .bl a => R.ofB (some (decide (a = b))) st
      | _ => .no)
    | _ => .no)
  | .isn => (match y with
    | .non => R.ofB (some (!decide (x = .non))) st
    | .bl b => (match x with
      | .bl a => R.ofB (some (!decide (a = b))) st
      | _ => .no)
    | _ => .no)
  | .in_ => R.ofB (isIn x y st) st
  | .nin => R.ofB ((isIn x y st).map not) st
  | o => (match x, y with
    | .int i, .int j => R.ofB (ordI o i j) st
    | .tup a, .tup b => (match o with
      | .gt => R.ofB (gtT a b) st
      | _ => .no)
    | _, _ => .no)
/-- truth -/
def tru (x : D) (st : Store) : Option Bool := match x with
  | .non => some false
  | .bl b => some b
  | .int i => some (i != 0)
  | .tup ds => some (!ds.isEmpty)
  | .wt ds => some (!ds.isEmpty)
  | .ref l => (match st[l]? with
    | some (.lst ds) => some (!ds.isEmpty)
    | some (.frz ds) => some (!ds.isEmpty)
    | _ => none)
  | .str _ => none
/-- a place among n, of any sign -/
def place (n : Nat) (i : Int) : Option Nat := if 0 ≤ i then (if i < n then some i.toNat else none) else if -(n : Int) ≤ i then some (i + n).toNat else none
def getAt (ds : List D) (i : Int) : Option D := (place ds.length i).bind fun j => ds[j]?
def index (x i : D) (st : Store) : R D := match dctOf x st with
  | some (t, kvs) => R.grd (i.keyOk t) (match dGet kvs i with
    | some d => .ok d st
    | none => .no)
  | none => (match i with
    | .int i => (match seqW x st with
      | some ds => (match getAt ds i with
        | some d => .ok d st
        | none => .no)
      | none => .no)
    | _ => .no)
/-- x.get(k, d) -/
def dGet2 (x k d : D) (st : Store) : R D := match dctOf x st with
  | some (t, kvs) => R.grd (k.keyOk t) (.ok ((dGet kvs k).getD d) st)
  | none => .no
def bnd (n d : Nat) : Option Int → Nat
  | none => d
  | some v => if v < 0 then (v + (n : Int)).toNat else min v.toNat n
def cut (ds : List D) (lo hi : Option Int) : List D := (ds.drop (bnd ds.length 0 lo)).take (bnd ds.length ds.length hi - bnd ds.length 0 lo)
def slice (x : D) (lo hi : Option Int) (st : Store) : R D := match x with
  | .wt ds => if bnd ds.length 0 lo = 0 ∧ bnd ds.length ds.length hi = ds.length then .ok (.wt ds) st else .ok (.tup (cut ds lo hi)) st
  | .tup ds => .ok (.tup (cut ds lo hi)) st
  | .ref l => (match st[l]? with
    | some (.lst ds) => newL (cut ds lo hi) st
    | some (.frz ds) => newL (cut ds lo hi) st
    | _ => .no)
  | _ => .no
/-- the one class that has subclasses (TagTree): isinstance is not asked of it -/
def isBas : Ty → Bool
  | .cls d => d == 9
  | _ => false
@[simp] theorem isBas_cls (d : Nat) : isBas (.cls d) = (d == 9) := (rfl)
@[simp] theorem isBas_int : isBas .int = false := (rfl)
@[simp] theorem isBas_bool : isBas .bool = false := (rfl)
@[simp] theorem isBas_str : isBas .str = false := (rfl)
@[simp] theorem isBas_tuple : isBas .tuple = false := (rfl)
@[simp] theorem isBas_list : isBas .list = false := (rfl)
def isTy (k : Ty) (x : D) (st : Store) : Option Bool := match x with
  | .non => some false
  | .bl _ => some (match k with | .int => true | .bool => true | _ => false)
  | .int _ => some (match k with | .int => true | _ => false)
  | .str _ => some (match k with | .str => true | _ => false)
  | .tup _ => some (match k with | .tuple => true | _ => false)
  | .wt _ => some (match k with | .tuple => true | _ => false)
  | .ref l => (match st[l]? with
    | some (.lst _) => some (match k with | .list => true | _ => false)
    | some (.frz _) => some (match k with | .list => true | _ => false)
    | some (.ins c _) => if isBas k then none else some (match k with | .cls d => c == d | _ => false)
    | _ => none)
def isAny (x : D) (st : Store) : List Ty → Option Bool
  | [] => some false
  | k :: ks => (match isTy k x st with
    | some true => some true
    | some false => isAny x st ks
    | none => none)
def boolsOf : List D → Option (List Bool)
  | [] => some []
  | .bl i :: ds => (match boolsOf ds with
    | some is => some (i :: is)
    | none => none)
  | _ :: _ => none
def lstOf (x : D) (st : Store) : Option (List D) := match x with
  | .ref l => (match st[l]? with
    | some (.lst ds) => some ds
    | some (.frz ds) => some ds
    | _ => none)
  | _ => none
def b1 (f : D → Store → R D) (ds : List D) (st : Store) : R D := match ds with
  | [x] => f x st
  | _ => .no
def biLen (x : D) (st : Store) : R D := match seqW x st with
  | some ds => .ok (.int ds.length) st
  | none => .no
def biAbs (x : D) (st : Store) : R D := match x with
  | .int i => .ok (.int (if i < 0 then -i else i)) st
  | _ => .no
def biInt (x : D) (st : Store) : R D := match x with
  | .int i => .ok (.int i) st
  | .bl b => .ok (.int (if b then 1 else 0)) st
  | _ => .no
def biMkl (x : D) (st : Store) : R D := match seqOf x st with
  | some ds => newL ds st
  | none => (match dctOf x st with
    | some (false, kvs) => newL (kvs.map (·.1)) st
    | _ => .no)
/-- dict(d) -/
def biMkd (x : D) (st : Store) : R D := match dctOf x st with
  | some (false, kvs) => .ok (.ref st.length) (st ++ [.dct false kvs])
  | _ => .no
def biMkt (x : D) (st : Store) : R D := match x with
  | .wt ds => .ok (.wt ds) st
  | x => (match seqOf x st with
    | some ds => newT ds st
    | none => .no)
def biSum (x : D) (st : Store) : R D := match lstOf x st with
  | some ds => (match intsOf ds with
    | some is => .ok (.int is.sum) st
    | none => .no)
  | none => .no
def biAll (x : D) (st : Store) : R D := match lstOf x st with
  | some ds => (match boolsOf ds with
    | some is => .ok (.bl (is.all id)) st
    | none => .no)
  | none => .no
def biAny (x : D) (st : Store) : R D := match lstOf x st with
  | some ds => (match boolsOf ds with
    | some is => .ok (.bl (is.any id)) st
    | none => .no)
  | none => .no
def bi2 (f : Int → Int → Int) (ds : List D) (st : Store) : R D := match ds with
  | [.int i, .int j] => .ok (.int (f i j)) st
  | _ => .no
def biMax1 (x : D) (st : Store) : R D := match lstOf x st with
  | some ds => (match intsOf ds with
    | some is => (match is.max? with
      | some m => .ok (.int m) st
      | none => .no)
    | none => .no)
  | none => .no
/-- the items of a list or a tuple -/
def tlOf (x : D) (st : Store) : Option (List D) := match x with
  | .tup ds => some ds
  | x => lstOf x st
def biMin1 (x : D) (st : Store) : R D := match tlOf x st with
  | some ds => (match intsOf ds with
    | some is => (match is.min? with
      | some m => .ok (.int m) st
      | none => .no)
    | none => .no)
  | none => .no
/-- pairs of ints -/
def prsOf : List D → Option (List (Int × Int))
  | [] => some []
  | .tup [.int a, .int b] :: ds => (match prsOf ds with
    | some ps => some ((a, b) :: ps)
    | none => none)
  | _ => none
def pd2 (p : Int × Int) : D := .tup [.int p.1, .int p.2]
def leP (p q : Int × Int) : Bool := decide (p.1 < q.1 ∨ (p.1 = q.1 ∧ p.2 ≤ q.2))
def sortP (ps : List (Int × Int)) : List (Int × Int) := ps.mergeSort leP
def sortI (is : List Int) : List Int := is.mergeSort fun a b => decide (a ≤ b)
/-- triples of small ints -/
abbrev T3 : Type := Int × Int × Int
def sm3 (a : Int) : Bool := decide (0 ≤ a ∧ a < 1048576)
def trsOf : List D → Option (List T3)
  | [] => some []
  | .tup [.int a, .int b, .int c] :: ds => (match trsOf ds with
    | some ps => if sm3 a && (sm3 b && sm3 c) then some ((a, b, c) :: ps) else none
    | none => none)
  | _ => none
def td3 (p : T3) : D := .tup [.int p.1, .int p.2.1, .int p.2.2]
def code3 (p : T3) : Int := (p.1 * 1048576 + p.2.1) * 1048576 + p.2.2
def sortT3 (ps : List T3) : List T3 := ps.mergeSort fun a b => decide (code3 a ≤ code3 b)
def biSorted (x : D) (st : Store) : R D := match lstOf x st with
  | some ds => (match intsOf ds with
    | some is => newL ((sortI is).map .int) st
    | none => (match prsOf ds with
      | some ps => newL ((sortP ps).map pd2) st
      | none => (match trsOf ds with
        | some ps => R.grd (decide (ps.length < 64)) (newL ((sortT3 ps).map td3) st)
        | none => .no)))
  | none => .no
def biBits (x : D) (st : Store) : R D := match x with
  | .int i => .ok (.int (PySem.Builtin.Int.intBits i : Nat)) st
  | _ => .no
def builtin (b : Bi) (ds : List D) (st : Store) : R D := match b with
  | .len => b1 biLen ds st
  | .abs => b1 biAbs ds st
  | .int => b1 biInt ds st
  | .mkl => b1 biMkl ds st
  | .mkt => b1 biMkt ds st
  | .sum => b1 biSum ds st
  | .all => b1 biAll ds st
  | .any => b1 biAny ds st
  | .max2 => bi2 (fun i j => if j > i then j else i) ds st
  | .min2 => bi2 (fun i j => if j < i then j else i) ds st
  | .max1 => b1 biMax1 ds st
  | .min1 => b1 biMin1 ds st
  | .sorted => b1 biSorted ds st
  | .bits => b1 biBits ds st
  | .mkd => b1 biMkd ds st
def append (x d : D) (st : Store) : R D := match x with
  | .ref l => (match st[l]? with
    | some (.lst ds) => R.grd (decide (ds.length < LINE)) (.ok .non (st.set l (.lst (ds ++ [d]))))
    | _ => .no)
  | _ => .no
/-- what a list is extended by -/
def extOf (y : D) (st : Store) : Option (List D) := match y with
  | .tup ys => some ys
  | .ref m => (match st[m]? with
    | some (.lst ys) => some ys
    | _ => none)
  | _ => none
/-- methods of lists: extend by a list or a tuple, insert, index of flat data, remove of an int -/
def lmR (m : Lm) (x : D) (ds : List D) (st : Store) : R D := match x with
  | .ref l => (match m, ds, st[l]? with
    | .ext, [y], some (.lst xs) => (match extOf y st with
      | some ys => R.grd (decide (xs.length + ys.length ≤ LINE)) (.ok .non (st.set l (.lst (xs ++ ys))))
      | none => .no)
    | .ins, [.int i, d], some (.lst xs) => R.grd (decide (0 ≤ i ∧ i < 4611686018427387904) && decide (xs.length < LINE)) (.ok .non (st.set l (.lst (xs.take i.toNat ++ [d] ++ xs.drop i.toNat))))
    | .idx, [y], some (.lst xs) => R.grd (y.flat && xs.all D.flat) (match xs.findIdx? (fun z => D.eqF z y) with
      | some j => .ok (.int (j : Nat)) st
      | none => .no)
    | .rem, [.int k], some (.lst xs) => (match intsOf xs with
      | some is => R.grd (is.contains k) (.ok .non (st.set l (.lst ((is.erase k).map .int))))
      | none => .no)
    | _, _, _ => .no)
  | _ => .no
/-- d[k] = v of a new dict -/
def dPutR (l : Nat) (t : Bool) (x y : D) (st : Store) : R D := match st[l]? with
  | some (.dct u kvs) => R.grd (u == t && (x.keyOk t && decide (kvs.length < LINE))) (.ok .non (st.set l (.dct t (dPut kvs x y))))
  | _ => .no
/-- x.count(y) of ints -/
def cntR (x y : D) (st : Store) : R D := match lstOf x st with
  | some ds => (match y with
    | .int k => (match intsOf ds with
      | some is => .ok (.int (is.count k : Nat)) st
      | none => .no)
    | _ => .no)
  | none => .no
/-- x.pop(i) -/
def popR (x y : D) (st : Store) : R D := match x with
  | .ref l => (match st[l]? with
    | some (.lst ds) => (match y with
      | .int i => R.grd (decide (-9223372036854775808 ≤ i ∧ i < 9223372036854775808)) (match place ds.length i with
        | some j => (match ds[j]? with
          | some d => .ok d (st.set l (.lst (ds.eraseIdx j)))
          | none => .no)
        | none => .no)
      | _ => .no)
    | _ => .no)
  | _ => .no
/-- the pairs of a display are put -/
def dispK : List Str → List D → List (D × D) → List (D × D)
  | k :: ks, d :: ds, kvs => dispK ks ds (dPut kvs (.str k) d)
  | _, _, kvs => kvs
def dispR (ks : List Str) (l : Nat) (ds : List D) (st : Store) : R D := match st[l]? with
  | some (.dct false []) => .ok (.ref l) (st.set l (.dct false (dispK ks ds [])))
  | _ => .no
def setAt (x i d : D) (st : Store) : R D := match x with
  | .ref l => (match st[l]? with
    | some (.lst ds) => (match i with
      | .int i => (match place ds.length i with
        | some j => .ok .non (st.set l (.lst (ds.set j d)))
        | none => .no)
      | _ => .no)
    | some (.dct t kvs) => R.grd (i.keyOk t && decide (kvs.length < LINE)) (.ok .non (st.set l (.dct t (dPut kvs i d))))
    | _ => .no)
  | _ => .no
def getF (f : Nat) : List (Nat × D) → Option D
  | [] => none
  | (g, d) :: r => if g = f then some d else getF f r
def putF (f : Nat) (d : D) : List (Nat × D) → List (Nat × D)
  | [] => [(f, d)]
  | (g, x) :: r => if g = f then (g, d) :: r else (g, x) :: putF f d r
def field (x : D) (f : Nat) (st : Store) : R D := match x with
  | .ref l => (match st[l]? with
    | some (.ins _ fs) => (match getF f fs with
      | some d => .ok d st
      | none => .no)
    | _ => .no)
  | _ => .no
def clsOf (x : D) (st : Store) : Option Nat := match x with
  | .ref l => (match st[l]? with
    | some (.ins c _) => some c
    | _ => none)
  | _ => none
def setField (x : D) (f : Nat) (d : D) (st : Store) : R D := match x with
  | .ref l => (match st[l]? with
    | some (.ins c fs) => R.grd (decide (fs.length < 100)) (.ok .non (st.set l (.ins c (putF f d fs))))
    | _ => .no)
  | _ => .no
structure Wk where
  its : List D
  wat : List (Nat × O)
def watOk (w : List (Nat × O)) (st : Store) : Bool := w.all fun p => match st[p.1]? with
  | some o => O.beq p.2 o
  | none => false
def rangeL (lo : Int) (n : Nat) : List D := (List.range n).map fun k => .int (lo + (k : Nat))
def rngOk (i : Int) : Bool := decide (-4611686018427387904 ≤ i ∧ i < 4611686018427387904)
def wkSeq (x : D) (st : Store) : R Wk := match x with
  | .tup ds => .ok ⟨ds, []⟩ st
  | .wt ds => .ok ⟨ds, []⟩ st
  | .ref l => (match st[l]? with
    | some (.lst ds) => .ok ⟨ds, [(l, .lst ds)]⟩ st
    | some (.frz ds) => .ok ⟨ds, [(l, .frz ds)]⟩ st
    | _ => .no)
  | _ => .no
def wkRng (x y : D) (st : Store) : R Wk := match x, y with
  | .int i, .int j => R.grd (rngOk i && rngOk j) (.ok ⟨rangeL i (j - i).toNat, []⟩ st)
  | _, _ => .no
def range3L (lo c : Int) (n : Nat) : List D := (List.range n).map fun k => .int (lo + (k : Nat) * c)
def wkRng3 (x y z : D) (st : Store) : R Wk := match x, y, z with
  | .int i, .int j, .int c => R.grd (decide (c ≠ 0) && (decide (c.natAbs < 1073741824) && PySem.Builtin.Range.small i j c)) (.ok ⟨range3L i c (PySem.Builtin.Range.rangeSize i j c).toNat, []⟩ st)
  | _, _, _ => .no
/-- the items of a tuple or list that is unpacked -/
def seqR (x : D) (st : Store) : R (List D) := match seqW x st with
  | some ds => .ok ds st
  | none => .no
def pairs (f : D → D → D) : List D → List D → List D
  | a :: as, b :: bs => f a b :: pairs f as bs
  | _, _ => []
def numbered (n : Nat) : List D → List D
  | [] => []
  | d :: ds => .tup [.int (n : Nat), d] :: numbered (n + 1) ds
def wkEnum (x : D) (st : Store) : R Wk := (wkSeq x st).bind fun w s => .ok ⟨numbered 0 w.its, w.wat⟩ s
def wkZip (x y : D) (st : Store) : R Wk := match x, y with
  | .tup a, .tup b => .ok ⟨pairs (fun a b => .tup [a, b]) a b, []⟩ st
  | .ref l, .ref m => (match st[l]?, st[m]? with
    | some (.lst a), some (.lst b) => .ok ⟨pairs (fun a b => .tup [a, b]) a b, [(l, .lst a), (m, .lst b)]⟩ st
    | _, _ => .no)
  | .tup a, .ref m => (match st[m]? with
    | some (.lst b) => .ok ⟨pairs (fun a b => .tup [a, b]) a b, [(m, .lst b)]⟩ st
    | _ => .no)
  | _, _ => .no
def wkRev (x : D) (st : Store) : R Wk := (wkSeq x st).bind fun v s => .ok ⟨v.its.reverse, v.wat⟩ s
/-- list(zip(a, b)) of two tuples -/
def lzR (ds : List D) (st : Store) : R D := match ds with
  | [.tup a, .tup b] => newL (pairs (fun x y => .tup [x, y]) a b) st
  | _ => .no
/-- the pairs of a dict that is locked -/
def wkItm (x : D) (st : Store) : R Wk := match x with
  | .ref l => (match st[l]? with
    | some (.dlk t kvs) => .ok ⟨kvs.map fun p => .tup [p.1, p.2], [(l, .dlk t kvs)]⟩ st
    | _ => .no)
  | _ => .no
/-- its keys -/
def wkKey (x : D) (st : Store) : R Wk := match x with
  | .ref l => (match st[l]? with
    | some (.dlk t kvs) => .ok ⟨kvs.map fun p => p.1, [(l, .dlk t kvs)]⟩ st
    | _ => .no)
  | _ => .no
/-- something done while a dict is locked -/
def lckR {α : Type} (x : R D) (st : Store) (g : Store → R α) : R α := match x with
  | .ok (.ref l) _ => (match st[l]? with
    | some (.dct t kvs) => (g (st.set l (.dlk t kvs))).bind fun r s => (match s[l]? with
      | some (.dlk u ps) => .ok r (s.set l (.dct u ps))
      | _ => .no)
    | _ => .no)
  | _ => .no
mutual
def T.asg : T → D → Env → Option Env
  | .nm i, d, ρ => some (ρ.set i (some d))
  | .tp ts, d, ρ => (match d with
    | .tup ds => T.asgs ts ds ρ
    | .wt ds => T.asgs ts ds ρ
    | _ => none)
def T.asgs : List T → List D → Env → Option Env
  | [], [], ρ => some ρ
  | t :: ts, d :: ds, ρ => (match T.asg t d ρ with
    | some ρ' => T.asgs ts ds ρ'
    | none => none)
  | _, _, _ => none
end
/-- behind a turn: places made within it are forgotten, if nothing names them -/
def cutB (c : Bool) (st₀ : Store) (o : Option D) (s : Store) : Bool := c && (pfx st₀.length st₀ s && (match o with
  | some x => D.cl st₀.length x
  | none => true))
def cutT (b : Bool) (st₀ s : Store) : Store := match b with
  | true => s.take st₀.length
  | false => s
def envCl (n : Nat) (ρ : Env) : Bool := ρ.all fun o => match o with
  | some d => D.cl n d
  | none => true
def cutE (st₀ : Store) (ρ : Env) (s : Store) : Store := cutT (pfx st₀.length st₀ s && envCl st₀.length ρ) st₀ s
def compLoop (step : D → Store → R (Option D)) (wat : List (Nat × O)) (st₀ : Store) : Bool → List D → Store → R (List D)
  | _, [], st => R.grd (watOk wat st) (.ok [] st)
  | c, d :: ds, st => R.grd (watOk wat st) ((step d st).bind fun o s => (compLoop step wat st₀ (cutB c st₀ o s) ds (cutT (cutB c st₀ o s) st₀ s)).bind fun r s' => .ok (match o with
    | some x => x :: r
    | none => r) s')
/-- a walk whose turns change the store alone -/
def lpU (step : D → Store → R D) (wat : List (Nat × O)) : List D → Store → R D
  | [], st => R.grd (watOk wat st) (.ok .non st)
  | d :: ds, st => R.grd (watOk wat st) ((step d st).bind fun _ s => lpU step wat ds s)
def forget (ρ : Env) : List Nat → Env
  | [] => ρ
  | v :: vs => (forget ρ vs).set v none
/-- names that had no value ahead of a loop are forgotten behind each turn -/
def mask : Env → Env → Env
  | some _ :: a, x :: b => x :: mask a b
  | none :: a, _ :: b => none :: mask a b
  | [], _ :: b => none :: mask [] b
  | _, [] => []
def forLoop (body : Env → Store → R (Fl × Env)) (t : T) (ρ₀ : Env) (st₀ : Store) (wat : List (Nat × O)) : List D → Env → Store → R (Fl × Env)
  | [], ρ, st => R.grd (watOk wat st) (.ok (.nx, ρ) st)
  | d :: ds, ρ, st => R.grd (watOk wat st) (match T.asg t d ρ with
    | none => .no
    | some ρ1 => (body ρ1 st).bind fun p s => (match p.1 with
      | .nx => forLoop body t ρ₀ st₀ wat ds (mask ρ₀ p.2) (cutE st₀ (mask ρ₀ p.2) s)
      | .ct => forLoop body t ρ₀ st₀ wat ds (mask ρ₀ p.2) (cutE st₀ (mask ρ₀ p.2) s)
      | .bk => .ok (.nx, mask ρ₀ p.2) (cutE st₀ (mask ρ₀ p.2) s)
      | .ret v => .ok (.ret v, p.2) s))
def whlLoop (test : Env → Store → R Bool) (body : Env → Store → R (Fl × Env)) (ρ₀ : Env) (st₀ : Store) (n : Nat) : Env → Store → R (Fl × Env) :=
  Nat.rec (motive := fun _ => Env → Store → R (Fl × Env)) (fun _ _ => .no) (fun _ ih ρ st => (test ρ st).bind fun b s => (match b with
    | false => .ok (.nx, ρ) s
    | true => (body ρ s).bind fun p s => (match p.1 with
      | .nx => ih (mask ρ₀ p.2) (cutE st₀ (mask ρ₀ p.2) s)
      | .ct => ih (mask ρ₀ p.2) (cutE st₀ (mask ρ₀ p.2) s)
      | .bk => .ok (.nx, mask ρ₀ p.2) (cutE st₀ (mask ρ₀ p.2) s)
      | .ret v => .ok (.ret v, p.2) s))) n
def WF : Nat := 1099511627776
structure Ctx where
  meth : List (List (Nat × Nat))
  prop : List (List (Nat × Nat))
  init : List (Option Nat)
/-- by a class, what a name stands for -/
def atOf (l : List (List (Nat × Nat))) (m c : Nat) : Option Nat := match l[m]? with
  | some r => r.lookup c
  | none => none
def R.ofO (o : Option D) (st : Store) : R D := match o with | some k => .ok k st | none => .no
def R.asB (d : D) (st : Store) : R Bool := match tru d st with | some b => .ok b st | none => .no
/-- the function that a value's class has -/
def methF (l : List (List (Nat × Nat))) (m : Nat) (x : D) (st : Store) : Option Nat := match clsOf x st with
  | some c => atOf l m c
  | none => none
def propR (G : Ctx) (call : Nat → List D → Store → R D) (m : Nat) (x : D) (st : Store) : R D := match methF G.prop m x st with
  | some f => call f [x] st
  | none => .no
def mkR (G : Ctx) (call : Nat → List D → Store → R D) (c : Nat) (ds : List D) (st : Store) : R D := match G.init[c]? with
  | some (some f) => (call f (.ref st.length :: ds) (st ++ [.ins c []])).bind fun d s => (match d with
    | .non => .ok (.ref st.length) s
    | _ => .no)
  | _ => .no
mutual
def ev (G : Ctx) (call : Nat → List D → Store → R D) : E → Env → Store → R D
  | .con d, _, st => .ok d st
  | .var i, ρ, st => R.ofO (ρ[i]?.join) st
  | .bin o a b, ρ, st => (ev G call a ρ st).bind fun x s => (ev G call b ρ s).bind fun y s => binop o x y s
  | .neg a, ρ, st => (ev G call a ρ st).bind fun x s => (match x with
    | .int i => .ok (.int (-i)) s
    | _ => .no)
  | .cmp o a b, ρ, st => (ev G call a ρ st).bind fun x s => (ev G call b ρ s).bind fun y s => cmpop o x y s
  | .chn o p a b c, ρ, st => (ev G call a ρ st).bind fun x s => (ev G call b ρ s).bind fun y s => (cmpop o x y s).bind fun k s => (match k with
    | .bl true => (ev G call c ρ s).bind fun z s => cmpop p y z s
    | .bl false => .ok (.bl false) s
    | _ => .no)
  | .and a b, ρ, st => (ev G call a ρ st).bind fun x s => (match x with
    | .bl true => ev G call b ρ s
    | .bl false => .ok (.bl false) s
    | _ => .no)
  | .or a b, ρ, st => (ev G call a ρ st).bind fun x s => (match x with
    | .bl true => .ok (.bl true) s
    | .bl false => ev G call b ρ s
    | _ => .no)
  | .not a, ρ, st => (ev G call a ρ st).bind fun x s => (match x with
    | .bl b => .ok (.bl (!b)) s
    | _ => .no)
  | .ite c a b, ρ, st => (evC G call c ρ st).bind fun k s => (match k with
    | true => ev G call a ρ s
    | false => ev G call b ρ s)
  | .tup es, ρ, st => (evs G call es ρ st).bind fun ds s => newT ds s
  | .lst es, ρ, st => (evs G call es ρ st).bind fun ds s => newL ds s
  | .idx a i, ρ, st => (ev G call a ρ st).bind fun x s => (ev G call i ρ s).bind fun y s => index x y s
  | .slc a lo hi, ρ, st => (ev G call a ρ st).bind fun x s => (evO G call lo ρ s).bind fun l s => (evO G call hi ρ s).bind fun h s => slice x l h s
  | .rev a, ρ, st => (ev G call a ρ st).bind fun x s => (match x with
    | .tup ds => .ok (.tup ds.reverse) s
    | x => (match lstOf x s with
      | some ds => newL ds.reverse s
      | none => .no))
  | .call f es, ρ, st => (evs G call es ρ st).bind fun ds s => call f ds s
  | .bi b es, ρ, st => (evs G call es ρ st).bind fun ds s => builtin b ds s
  | .isi a ks, ρ, st => (ev G call a ρ st).bind fun x s => R.ofB (isAny x s ks) s
  | .fld a f, ρ, st => (ev G call a ρ st).bind fun x s => field x f s
  | .meth a m es, ρ, st => (ev G call a ρ st).bind fun x s => (match methF G.meth m x s with
    | some f => (evs G call es ρ s).bind fun ds s => call f (x :: ds) s
    | none => .no)
  | .prop a m, ρ, st => (ev G call a ρ st).bind fun x s => propR G call m x s
  | .mk c es, ρ, st => (evs G call es ρ st).bind fun ds s => mkR G call c ds s
  | .app a e, ρ, st => (ev G call a ρ st).bind fun x s => R.grd (lstOf x s).isSome ((ev G call e ρ s).bind fun y s => append x y s)
  | .lrng i, ρ, st => (evi G call i ρ st).bind fun w s => newL w.its s
  | .dnew t, _, st => .ok (.ref st.length) (st ++ [.dct t []])
  | .dget a k d, ρ, st => (ev G call a ρ st).bind fun x s => R.grd (dctOf x s).isSome ((ev G call k ρ s).bind fun y s => (ev G call d ρ s).bind fun z s => dGet2 x y z s)
  | .dcomp tt own k v t i c, ρ, st => (evi G call i ρ st).bind fun w s => (lpU (fun d s1 => (match T.asg t d (forget ρ own) with
      | none => .no
      | some ρ1 => (evOc G call c ρ1 s1).bind fun b s2 => (match b with
        | true => (ev G call k ρ1 s2).bind fun x s3 => (ev G call v ρ1 s3).bind fun y s4 => dPutR s.length tt x y s4
        | false => .ok .non s2))) w.wat w.its (s ++ [.dct tt []])).bind fun _ s' => .ok (.ref s.length) s'
  | .lck a e, ρ, st => lckR (ev G call a ρ st) st fun s => ev G call e ρ s
  | .lzip es, ρ, st => (evs G call es ρ st).bind fun ds s => lzR ds s
  | .lm m a es, ρ, st => (ev G call a ρ st).bind fun x s => R.grd (lstOf x s).isSome ((evs G call es ρ s).bind fun ds s => lmR m x ds s)
  | .cnt a b, ρ, st => (ev G call a ρ st).bind fun x s => R.grd (lstOf x s).isSome ((ev G call b ρ s).bind fun y s => cntR x y s)
  | .popi a b, ρ, st => (ev G call a ρ st).bind fun x s => R.grd (lstOf x s).isSome ((ev G call b ρ s).bind fun y s => popR x y s)
  | .disp ks es, ρ, st => (evs G call es ρ (st ++ [.dct false []])).bind fun ds s => dispR ks st.length ds s
  | .comp own e t i c, ρ, st => (evi G call i ρ st).bind fun w s => (compLoop (fun d s => (match T.asg t d (forget ρ own) with
      | none => .no
      | some ρ1 => (evOc G call c ρ1 s).bind fun k s => (match k with
        | true => (ev G call e ρ1 s).bind fun x s => .ok (some x) s
        | false => .ok none s))) w.wat s true w.its s).bind fun ds s => newL ds s
  | .comp2 own vs e t i t2 i2 c, ρ, st => (evi G call i ρ st).bind fun w s => (lpU (fun d s1 => (match T.asg t d (forget ρ own) with
      | none => .no
      | some ρ1 => (evi G call i2 ρ1 s1).bind fun w1 s2 => lpU (fun d s3 => (match T.asg t2 d (forget ρ1 vs) with
        | none => .no
        | some ρ2 => (evOc G call c ρ2 s3).bind fun k s4 => (match k with
          | true => (ev G call e ρ2 s4).bind fun x s5 => append (.ref s.length) x s5
          | false => .ok .non s4))) w1.wat w1.its s2)) w.wat w.its (s ++ [.lst []])).bind fun _ s' => .ok (.ref s.length) s'
def evC (G : Ctx) (call : Nat → List D → Store → R D) : C → Env → Store → R Bool
  | .val e, ρ, st => (ev G call e ρ st).bind fun d s => R.asB d s
  | .not c, ρ, st => (evC G call c ρ st).bind fun b s => .ok (!b) s
  | .and a b, ρ, st => (evC G call a ρ st).bind fun k s => (match k with
    | true => evC G call b ρ s
    | false => .ok false s)
  | .or a b, ρ, st => (evC G call a ρ st).bind fun k s => (match k with
    | true => .ok true s
    | false => evC G call b ρ s)
def evOc (G : Ctx) (call : Nat → List D → Store → R D) : Oc → Env → Store → R Bool
  | .none, _, st => .ok true st
  | .some c, ρ, st => evC G call c ρ st
def evO (G : Ctx) (call : Nat → List D → Store → R D) : Oe → Env → Store → R (Option Int)
  | .none, _, st => .ok none st
  | .some e, ρ, st => (ev G call e ρ st).bind fun x s => (match x with
    | .int i => .ok (some i) s
    | _ => .no)
def evs (G : Ctx) (call : Nat → List D → Store → R D) : Es → Env → Store → R (List D)
  | .nil, _, st => .ok [] st
  | .cons e es, ρ, st => (ev G call e ρ st).bind fun x s => (evs G call es ρ s).bind fun xs s => .ok (x :: xs) s
  | .spl e es, ρ, st => (ev G call e ρ st).bind fun x s => (seqR x s).bind fun ds s => (evs G call es ρ s).bind fun xs s => .ok (ds ++ xs) s
def evi (G : Ctx) (call : Nat → List D → Store → R D) : Iw → Env → Store → R Wk
  | .seq e, ρ, st => (ev G call e ρ st).bind fun x s => wkSeq x s
  | .rng1 a, ρ, st => (ev G call a ρ st).bind fun x s => wkRng (.int 0) x s
  | .rng2 a b, ρ, st => (ev G call a ρ st).bind fun x s => (ev G call b ρ s).bind fun y s => wkRng x y s
  | .rng3 a b c, ρ, st => (ev G call a ρ st).bind fun x s => (ev G call b ρ s).bind fun y s => (ev G call c ρ s).bind fun z s => wkRng3 x y z s
  | .enum e, ρ, st => (ev G call e ρ st).bind fun x s => wkEnum x s
  | .zip2 a b, ρ, st => (ev G call a ρ st).bind fun x s => (ev G call b ρ s).bind fun y s => wkZip x y s
  | .rrng1 a, ρ, st => (ev G call a ρ st).bind fun x s => (wkRng (.int 0) x s).bind fun w s => .ok ⟨w.its.reverse, []⟩ s
  | .rseq e, ρ, st => (ev G call e ρ st).bind fun x s => wkRev x s
  | .ditm e, ρ, st => (ev G call e ρ st).bind fun x s => wkItm x s
  | .dkey e, ρ, st => (ev G call e ρ st).bind fun x s => wkKey x s
end
mutual
def ex (G : Ctx) (call : Nat → List D → Store → R D) : S → Env → Store → R (Fl × Env)
  | .set t e, ρ, st => (ev G call e ρ st).bind fun d s => (match T.asg t d ρ with
    | some ρ' => .ok (.nx, ρ') s
    | none => .no)
  | .par i j a b, ρ, st => (ev G call a ρ st).bind fun x s => (ev G call b ρ s).bind fun y s => .ok (.nx, (ρ.set i (some x)).set j (some y)) s
  | .aug i o e, ρ, st => (R.ofO (ρ[i]?.join) st).bind fun x s => (ev G call e ρ s).bind fun y s => (match x, y with
    | .int _, .int _ => (binop o x y s).bind fun d s => .ok (.nx, ρ.set i (some d)) s
    | _, _ => .no)
  | .sti a i e, ρ, st => (ev G call e ρ st).bind fun d s => (ev G call a ρ s).bind fun x s => (ev G call i ρ s).bind fun y s => (setAt x y d s).bind fun _ s => .ok (.nx, ρ) s
  | .augi a i o e, ρ, st => (ev G call a ρ st).bind fun x s => (ev G call i ρ s).bind fun y s => R.grd ((lstOf x s).isSome || (dctOf x s).isSome) ((index x y s).bind fun v s => (ev G call e ρ s).bind fun z s => (match v, z with
    | .int _, .int _ => (binop o v z s).bind fun d s => (setAt x y d s).bind fun _ s => .ok (.nx, ρ) s
    | _, _ => .no))
  | .stf a f e, ρ, st => (ev G call e ρ st).bind fun d s => (ev G call a ρ s).bind fun x s => (setField x f d s).bind fun _ s => .ok (.nx, ρ) s
  | .augf a f o e, ρ, st => (ev G call a ρ st).bind fun x s0 => (field x f s0).bind fun v s => (ev G call e ρ s).bind fun z s => R.grd (clsOf x s0 == clsOf x s) (match v, z with
    | .int _, .int _ => (binop o v z s).bind fun d s => (setField x f d s).bind fun _ s => .ok (.nx, ρ) s
    | _, _ => .no)
  | .ex e, ρ, st => (ev G call e ρ st).bind fun _ s => .ok (.nx, ρ) s
  | .ret e, ρ, st => (ev G call e ρ st).bind fun d s => .ok (.ret d, ρ) s
  | .retn, ρ, st => .ok (.ret .non, ρ) st
  | .ifs c a b, ρ, st => (evC G call c ρ st).bind fun k s => (match k with
    | true => exs G call a ρ s
    | false => exs G call b ρ s)
  | .for_ t i b, ρ, st => (evi G call i ρ st).bind fun w s => forLoop (fun ρ s => exs G call b ρ s) t ρ s w.wat w.its ρ s
  | .whl c b, ρ, st => whlLoop (fun ρ s => evC G call c ρ s) (fun ρ s => exs G call b ρ s) ρ st WF ρ st
  | .brk, ρ, st => .ok (.bk, ρ) st
  | .cont, ρ, st => .ok (.ct, ρ) st
  | .pass, ρ, st => .ok (.nx, ρ) st
  | .raise, _, _ => .no
  | .lck a b, ρ, st => lckR (ev G call a ρ st) st fun s => ex G call b ρ s
  | .unp ts r e, ρ, st => (ev G call e ρ st).bind fun d s => (match d with
    | .tup ds => R.grd (decide (ts.length ≤ ds.length) && decide (ds.length ≤ 1000)) (match T.asgs ts (ds.take ts.length) ρ with
      | some ρ1 => (match T.asg r (.ref s.length) ρ1 with
        | some ρ2 => .ok (.nx, ρ2) (s ++ [.lst (ds.drop ts.length)])
        | none => .no)
      | none => .no)
    | _ => .no)
  | .sup c g es, ρ, st => (R.ofO (ρ[0]?.join) st).bind fun x s => R.grd (clsOf x s == some c) ((evs G call es ρ s).bind fun ds s => (call g (x :: ds) s).bind fun _ s => .ok (.nx, ρ) s)
def exs (G : Ctx) (call : Nat → List D → Store → R D) : Ss → Env → Store → R (Fl × Env)
  | .nil, ρ, st => .ok (.nx, ρ) st
  | .cons s ss, ρ, st => (ex G call s ρ st).bind fun p s => (match p.1 with
    | .nx => exs G call ss p.2 s
    | f => .ok (f, p.2) s)
end
structure Df where
  np : Nat
  ns : Nat
  body : Ss
structure Prog where
  defs : List (Nat × Df)
  G : Ctx
def fin (p : Fl × Env) (s : Store) : R D := match p.1 with
  | .ret d => .ok d s
  | .nx => .ok .non s
  | _ => .no
def run (P : Prog) : Nat → Nat → List D → Store → R D
  | 0, _, _, _ => .no
  | k + 1, f, ds, st => (match P.defs.lookup f with
    | some d => R.grd (ds.length == d.np) (gc st ((exs P.G (run P k) d.body (ds.map some ++ List.replicate (d.ns - d.np) none) st).bind fin))
    | none => .no)
end Nz
namespace Nz
open PySem (Expr Stmt Scope NameKind Comprehension)
/-- what the names of a def stand for -/
structure Tab where
  N : List Str
  fns : List (Str × Nat)
  cls : List (Str × Nat)
  cons : List (Str × D)
  fld : List Str
  mth : List Str
  prp : List Str
  free : List Str
  kfs : List (Str × Nat × Str × Option D) := []
  dts : List (Nat × Nat) := []
  sts : List Str := []
  stn : List Nat := []
  dks : List (Nat × Nat) := []
  sps : List (Nat × Nat × Nat) := []
  file : Str := ""
/-- a def with one keyword-only parameter, or a method with a star parameter -/
def isKw (K : Tab) (i : Nat) : Bool := (K.kfs.any fun p => p.2.1 == i) || K.stn.contains i
/-- list(zip(a, b)) -/
def asZip (x : Str) (as : List Expr) : Option (Expr × Expr) := if x = "list" then (match as with
  | [.Call (.Name y _) [a, b] [] _] => if y = "zip" then some (a, b) else none
  | _ => none) else none
/-- an argument behind the others -/
def Es.snoc : Es → E → Es
  | .nil, e => .cons e .nil
  | .cons a r, e => .cons a (Es.snoc r e)
  | .spl a r, e => .spl a (Es.snoc r e)
def isVis (sc : Scope) (x : Str) : Bool := match sc.names.lookup x with
  | some .local => true
  | some .cell => true
  | some .free => true
  | _ => false
def isLoc (sc : Scope) (x : Str) : Bool := match sc.names.lookup x with
  | some .local => true
  | some .cell => true
  | _ => false
def isGl (sc : Scope) (x : Str) : Bool := match sc.names.lookup x with
  | some .globalImplicit => !decide (x = "__debug__")
  | _ => false
/-- the place of a name in a list -/
def ixOf (x : Str) : List Str → Option Nat
  | [] => none
  | y :: ys => if x = y then some 0 else (match ixOf x ys with
    | some i => some (i + 1)
    | none => none)
/-- a name that holds a value -/
def trVar (K : Tab) (sc : Scope) (x : Str) : Option Nat :=
  if isVis sc x && !(decide (x = "__debug__") || decide (x = "__classdict__")) then ixOf x K.N else none
def trLoc (K : Tab) (sc : Scope) (x : Str) : Option Nat := if isLoc sc x then ixOf x K.N else none
def trBin : PySem.Operator → Option BinO
  | .Add => some .add | .Sub => some .sub | .Mult => some .mul | .FloorDiv => some .fdiv | .Mod => some .mod | .Pow => some .pow
  | .LShift => some .shl | .RShift => some .shr | .BitAnd => some .band | .BitOr => some .bor | .BitXor => some .bxor
  | _ => none
def trCmp : PySem.CmpOp → CmpO
  | .Eq => .eq | .NotEq => .ne | .Lt => .lt | .LtE => .le | .Gt => .gt | .GtE => .ge | .Is => .is_ | .IsNot => .isn | .In => .in_ | .NotIn => .nin
def isFree (K : Tab) (sc : Scope) (x : Str) : Bool := isGl sc x && K.free.any fun y => decide (y = x)
def bi1 : List (Str × Bi) := [("len", .len), ("abs", .abs), ("int", .int), ("tuple", .mkt), ("sum", .sum), ("all", .all), ("any", .any), ("max", .max1), ("min", .min1), ("sorted", .sorted), ("dict", .mkd)]
def trTy (K : Tab) (sc : Scope) (x : Str) : Option Ty :=
  if isFree K sc x then
    (if x = "int" then some .int else if x = "bool" then some .bool else if x = "str" then some .str else if x = "tuple" then some .tuple else if x = "list" then some .list else none)
  else if isGl sc x then (match K.cls.lookup x with
    | some c => some (.cls c)
    | none => none) else none
def trTys (K : Tab) (sc : Scope) : List Expr → Option (List Ty)
  | [] => some []
  | .Name x _ :: es => (match trTy K sc x with
    | some k => (match trTys K sc es with
      | some ks => some (k :: ks)
      | none => none)
    | none => none)
  | _ => none
def trIsi (K : Tab) (sc : Scope) : Expr → Option (List Ty)
  | .Name x _ => (match trTy K sc x with
    | some k => some [k]
    | none => none)
  | .Tuple es _ _ => (match trTys K sc es with
    | some ks => if ks.isEmpty || !decide (ks.length ≤ 16) then none else some ks
    | none => none)
  | _ => none
def trT (K : Tab) (sc : Scope) : Nat → Expr → Option T
  | 0, _ => none
  | n + 1, e => (match e with
    | .Name x _ => (match trLoc K sc x with
      | some i => some (.nm i)
      | none => none)
    | .Tuple es _ _ => (match es.mapM (trT K sc n) with
      | some ts => some (.tp ts)
      | none => none)
    | _ => none)
mutual
def T.slots : T → List Nat
  | .nm i => [i]
  | .tp ts => T.slotss ts
def T.slotss : List T → List Nat
  | [] => []
  | t :: ts => T.slots t ++ T.slotss ts
end
/-- a comprehension's scope, where it stands -/
abbrev blkSc (scope sc : Scope) : Scope := L2.relS scope sc
def trOwn (K : Tab) : List (Str × NameKind) → Option (List (Str × Nat))
  | [] => some []
  | (x, k) :: r => (match trOwn K r with
    | some o => (match k with
      | .local => (match ixOf x K.N with
        | some i => some ((x, i) :: o)
        | none => some o)
      | .cell => (match ixOf x K.N with
        | some i => some ((x, i) :: o)
        | none => some o)
      | _ => some o)
    | none => none)
/-- what L2.BlkOk asks, by a test -/
def blkB (N : List Str) (sc scope : Scope) (own : List (Str × Nat)) : Bool :=
  scope.kind == .function && (scope.names.all fun y => scope.names.lookup y.1 == some y.2) && (own.all fun p => N[p.2]? == some p.1) &&
    (scope.names.all fun y => !(y.2 == .free) || (sc.names.lookup y.1 == some .cell || sc.names.lookup y.1 == some .free)) &&
    (scope.names.all fun y => !(y.2 == .local || y.2 == .cell) || ((own.map (·.1)).contains y.1 || !N.contains y.1))
def isStar : Expr → Bool
  | .Starred _ _ => true
  | _ => false
/-- a call like super() -/
def isCall : Expr → Bool
  | .Call (.Name _ _) [] [] _ => true
  | _ => false
def isSet : Expr → Bool
  | .Set _ _ _ => true
  | _ => false
/-- a comprehension dropped or stored is told apart by the model -/
def isComp : Expr → Bool
  | .ListComp _ _ _ _ => true
  | .SetComp _ _ _ _ => true
  | .DictComp _ _ _ _ _ => true
  | _ => false
/-- a comprehension of two walks, or of a dict -/
def isComp2 : Expr → Bool
  | .ListComp _ (_ :: _ :: _) _ _ => true
  | .DictComp _ _ _ _ _ => true
  | _ => false
/-- d.items() of a plain d -/
def itmOf : Expr → Option Expr
  | .Call (.Attribute a m ap) [] [] p => if m = "items" then (if (ap.endLine == p.line) && !isCall a then some a else none) else none
  | _ => none
/-- a plain d that is walked by its keys -/
def isKey (K : Tab) (e : Expr) : Bool := K.dks.contains (e.pos.line, e.pos.col)
/-- a walk over a dict locks it -/
def wrapC : Iw → E → E
  | .ditm a, e => .lck a e
  | .dkey a, e => .lck a e
  | _, e => e
def wrapS : Iw → S → S
  | .ditm a, e => .lck a e
  | .dkey a, e => .lck a e
  | _, e => e
def isItmC (K : Tab) : Expr → Bool
  | .ListComp _ [⟨_, it, _, _⟩] _ _ => (itmOf it).isSome || isKey K it
  | _ => false
/-- targets, the last one with a star -/
def starLast : List Expr → Option (List Expr × Expr)
  | [.Starred r _] => some ([], r)
  | .Starred _ _ :: _ => none
  | e :: es => (match starLast es with
    | some (fs, r) => some (e :: fs, r)
    | none => none)
  | [] => none
def lmOf (m : Str) : Option Lm := if m = "extend" then some .ext else if m = "insert" then some .ins else if m = "index" then some .idx else if m = "remove" then some .rem else none
def isTup : Expr → Bool
  | .Tuple _ _ _ => true
  | _ => false
/-- a builtin's call: its arguments -/
def isCallOf (K : Tab) (sc : Scope) (y : Str) : Expr → Option (List Expr)
  | .Call (.Name x _) as [] _ => if x = y ∧ isFree K sc x = true then some as else none
  | _ => none
/-- a display's keys: texts, each once -/
def trKs : List (Option Expr) → Option (List Str)
  | [] => some []
  | some (.Constant (.str s) _ _) :: r => (match trKs r with
    | some ks => some (s :: ks)
    | none => none)
  | _ => none
def Es.ofL : List E → Es
  | [] => .nil
  | e :: r => .cons e (Es.ofL r)
/-- range(..): its arguments -/
def isRng (K : Tab) (sc : Scope) : Expr → Option (List Expr)
  | .Call (.Name x _) as [] _ => if x = "range" ∧ isFree K sc x = true then some as else none
  | _ => none
mutual
def trE (K : Tab) : Nat → Scope → Expr → Option E
  | 0, _, _ => none
  | n + 1, sc, e => (match e with
    | .Constant c _ _ => (match c with
      | .none => some (.con .non)
      | .bool b => some (.con (.bl b))
      | .int i => some (.con (.int i))
      | .str s => some (.con (.str s))
      | _ => none)
    | .Name x _ => (match trVar K sc x with
      | some i => some (.var i)
      | none => if isGl sc x then (match K.cons.lookup x with
        | some d => some (.con d)
        | none => none) else none)
    | .BinOp a o b _ => (match trBin o, trE K n sc a, trE K n sc b with
      | some o, some a, some b => some (.bin o a b)
      | _, _, _ => none)
    | .UnaryOp o a _ => (match o, trE K n sc a with
      | .USub, some a => some (.neg a)
      | .Not, some a => some (.not a)
      | _, _ => none)
    | .BoolOp o es _ => (match o with
      | .And => trAnd K n sc es
      | .Or => trOr K n sc es)
    | .Compare a ops bs _ => (match ops, bs with
      | [o], [b] => if isSet b then none else (match trE K n sc a, trE K n sc b with
        | some a, some b => some (.cmp (trCmp o) a b)
        | _, _ => none)
      | [o, p], [b, c] => if isSet c then none else (match trE K n sc a, trE K n sc b, trE K n sc c with
        | some a, some b, some c => some (.chn (trCmp o) (trCmp p) a b c)
        | _, _, _ => none)
      | _, _ => none)
    | .IfExp c a b _ => (match trC K n sc c, trE K n sc a, trE K n sc b with
      | some c, some a, some b => some (.ite c a b)
      | _, _, _ => none)
    | .Tuple es _ _ => (match trEd K n sc es with
      | some es => some (.tup es)
      | none => none)
    | .List es _ => (match trEd K n sc es with
      | some es => some (.lst es)
      | none => none)
    | .Subscript a i _ => (match trE K n sc a with
      | some a => (match i with
        | .Slice lo hi st _ => (match st with
          | none => (match trO K n sc lo, trO K n sc hi with
            | some lo, some hi => some (.slc a lo hi)
            | _, _ => none)
          | some (.UnaryOp .USub (.Constant (.int 1) _ _) _) => (match lo, hi with
            | none, none => some (.rev a)
            | _, _ => none)
          | some _ => none)
        | i => (match trIx K n sc i with
          | some i => some (.idx a i)
          | none => none))
      | none => none)
    | .Attribute a f _ => if isCall a then none else (match trE K n sc a with
        | some a => (match ixOf f K.fld with
          | some i => some (.fld a i)
          | none => (match ixOf f K.prp with
            | some i => some (.prop a i)
            | none => none))
        | none => none)
    | .Dict ks vs p => (match ks, vs with
      | [], [] => some (.dnew (K.dts.contains (p.line, p.col)))
      | ks, vs => (match trKs ks with
        | some xs => if decide (ks.length = vs.length) && decide (ks.length ≤ 15) && !ks.isEmpty then (match vs.mapM (trE K n sc) with
          | some es => some (.disp xs (Es.ofL es))
          | none => none) else none
        | none => none))
    | .DictComp kx vx gs scope p => (match gs with
      | [g] => (match g with
        | ⟨tg, it, ifs, as⟩ => if as != 0 || isSet it then none else (match trOwn K scope.names with
          | some own => if blkB K.N sc scope own then (match trI K n sc (isTup tg) it, trT K scope n tg, trE K n (blkSc scope sc) kx, trE K n (blkSc scope sc) vx with
            | some i, some t, some k, some v => if t.slots.all fun i => (own.map (·.2)).contains i then (match ifs with
              | [] => some (wrapC i (.dcomp (K.dts.contains (p.line, p.col)) (own.map (·.2)) k v t i .none))
              | [c] => (match trC K n (blkSc scope sc) c with
                | some c => some (wrapC i (.dcomp (K.dts.contains (p.line, p.col)) (own.map (·.2)) k v t i (.some c)))
                | none => none)
              | _ => none) else none
            | _, _, _, _ => none) else none
          | none => none))
      | _ => none)
    | .ListComp elt gs scope _ => (match gs with
      | [g] => (match g with
        | ⟨tg, it, ifs, as⟩ => if as != 0 || isSet it then none else (match trOwn K scope.names with
          | some own => if blkB K.N sc scope own then (match trI K n sc (isTup tg) it, trT K scope n tg, trE K n (blkSc scope sc) elt with
            | some i, some t, some e => if t.slots.all fun i => (own.map (·.2)).contains i then (match ifs with
              | [] => some (wrapC i (.comp (own.map (·.2)) e t i .none))
              | [c] => (match trC K n (blkSc scope sc) c with
                | some c => some (wrapC i (.comp (own.map (·.2)) e t i (.some c)))
                | none => none)
              | _ => none) else none
            | _, _, _ => none) else none
          | none => none))
      | [g1, g2] => (match g1, g2 with
        | ⟨tg, it, ifs, as⟩, ⟨tg2, it2, ifs2, as2⟩ => if as != 0 || as2 != 0 || isSet it || isSet it2 || !ifs.isEmpty then none else (match trOwn K scope.names with
          | some own => if blkB K.N sc scope own then (match trI K n sc (isTup tg) it, trT K scope n tg, trI K n (blkSc scope sc) (isTup tg2) it2, trT K scope n tg2, trE K n (blkSc scope sc) elt with
            | some i, some t, some i2, some t2, some e => if (t.slots.all fun i => (own.map (·.2)).contains i) && (t2.slots.all fun i => (own.map (·.2)).contains i) then (match ifs2 with
              | [] => some (.comp2 (own.map (·.2)) t2.slots e t i t2 i2 .none)
              | [c] => (match trC K n (blkSc scope sc) c with
                | some c => some (.comp2 (own.map (·.2)) t2.slots e t i t2 i2 (.some c))
                | none => none)
              | _ => none) else none
            | _, _, _, _, _ => none) else none
          | none => none))
      | _ => none)
    | .Call f as kws p => (match f with
      | .Name x _ => (match K.kfs.lookup x with
        | some (i, kn, dd) => if isGl sc x && !as.isEmpty then (match trEs K n sc as with
          | some es => (match kws with
            | [] => (match dd with
              | some d => some (.call i (es.snoc (.con d)))
              | none => none)
            | [⟨nm, b, _⟩] => if nm = some kn then (match trE K n sc b with
              | some b => some (.call i (es.snoc b))
              | none => none) else none
            | _ => none)
          | none => none) else none
        | none => (match kws with
        | [] => if isGl sc x then (match K.fns.lookup x with
          | some i => (match trEs K n sc as with
            | some es => some (.call i es)
            | none => none)
          | none => (match K.cls.lookup x with
            | some c => (match trEs K n sc as with
              | some es => some (.mk c es)
              | none => none)
            | none => if isFree K sc x then (match asZip x as with
              | some (b, c) => if isFree K sc "zip" then (match trEs K n sc [b, c] with
                | some es => some (.lzip es)
                | none => none) else none
              | none => trBi K n sc x as) else none)) else none
        | _ => none))
      | .Attribute a m ap => (match kws with
        | [] => if isCall a || !(ap.endLine == p.line) || !decide (as.length < 20) then none else (match trE K n sc a with
          | some o => (match ixOf m K.mth with
            | some i => if K.sts.contains m then (match as with
              | [] => none
              | [.Starred b _] => (match trE K n sc b with
                | some b => some (.meth o i (.cons (.tup (.spl b .nil)) .nil))
                | none => none)
              | b :: r => (match trEs K n sc (b :: r) with
                | some es => some (.meth o i (.cons (.tup es) .nil))
                | none => none)) else (match trEs K n sc as with
              | some es => some (.meth o i es)
              | none => none)
            | none => if m = "append" then (match as with
              | [b] => if isStar b then none else (match trE K n sc b with
                | some b => some (.app o b)
                | none => none)
              | _ => none) else if m = "get" then (match as with
              | [b, c] => if isStar b || isStar c then none else (match trE K n sc b, trE K n sc c with
                | some b, some c => some (.dget o b c)
                | _, _ => none)
              | _ => none) else if m = "count" then (match as with
              | [b] => if isStar b then none else (match trE K n sc b with
                | some b => some (.cnt o b)
                | none => none)
              | _ => none) else if m = "pop" then (match as with
              | [b] => if isStar b then none else (match trE K n sc b with
                | some b => some (.popi o b)
                | none => none)
              | _ => none) else (match lmOf m with
              | some k => (match trEs K n sc as with
                | some es => if as.isEmpty then none else some (.lm k o es)
                | none => none)
              | none => if m = "bit_length" && as.isEmpty then some (.bi .bits (.cons o .nil)) else none))
          | none => none)
        | _ => none)
      | _ => none)
    | _ => none)
def trAnd (K : Tab) : Nat → Scope → List Expr → Option E
  | 0, _, _ => none
  | n + 1, sc, es => (match es with
    | [a] => trE K n sc a
    | a :: b :: r => (match trE K n sc a, trAnd K n sc (b :: r) with
      | some a, some b => some (.and a b)
      | _, _ => none)
    | [] => none)
def trOr (K : Tab) : Nat → Scope → List Expr → Option E
  | 0, _, _ => none
  | n + 1, sc, es => (match es with
    | [a] => trE K n sc a
    | a :: b :: r => (match trE K n sc a, trOr K n sc (b :: r) with
      | some a, some b => some (.or a b)
      | _, _ => none)
    | [] => none)
/-- an index of a plain subscript -/
def trIx (K : Tab) : Nat → Scope → Expr → Option E
  | 0, _, _ => none
  | n + 1, sc, e => (match e with
    | .Constant _ _ _ => trE K n sc e
    | .Name _ _ => trE K n sc e
    | .BinOp _ _ _ _ => trE K n sc e
    | .UnaryOp _ _ _ => trE K n sc e
    | .Call _ _ _ _ => trE K n sc e
    | .Subscript _ _ _ => trE K n sc e
    | .Attribute _ _ _ => trE K n sc e
    | .IfExp _ _ _ _ => trE K n sc e
    | _ => none)
def trBi (K : Tab) : Nat → Scope → Str → List Expr → Option E
  | 0, _, _, _ => none
  | n + 1, sc, x, as => (match as with
    | [a] => if isStar a then none else if x = "list" then (match isRng K sc a with
        | some [b] => if isStar b then none else (match trE K n sc b with
          | some e => some (.lrng (.rng1 e))
          | none => none)
        | some [b, c] => if isStar b || isStar c then none else (match trE K n sc b, trE K n sc c with
          | some e, some f => some (.lrng (.rng2 e f))
          | _, _ => none)
        | some _ => none
        | none => (match trE K n sc a with
          | some a => some (.bi .mkl (.cons a .nil))
          | none => none))
      else (match bi1.lookup x with
        | some b => (match trE K n sc a with
          | some a => some (.bi b (.cons a .nil))
          | none => none)
        | none => none)
    | [a, b] => if isStar a || isStar b then none else if x = "isinstance" then (match trE K n sc a, trIsi K sc b with
        | some a, some ks => some (.isi a ks)
        | _, _ => none)
      else if x = "min" then (match trEs K n sc as with
        | some es => some (.bi .min2 es)
        | none => none)
      else if x = "max" then (match trEs K n sc as with
        | some es => some (.bi .max2 es)
        | none => none)
      else none
    | _ => none)
def trEs (K : Tab) : Nat → Scope → List Expr → Option Es
  | 0, _, _ => none
  | n + 1, sc, es => (match es with
    | [] => some .nil
    | e :: es => if isStar e then none else (match trE K n sc e, trEs K n sc es with
        | some e, some es => some (.cons e es)
        | _, _ => none))
def trEd (K : Tab) : Nat → Scope → List Expr → Option Es
  | 0, _, _ => none
  | n + 1, sc, es => (match es with
    | [] => some .nil
    | .Starred e _ :: es => (match trE K n sc e, trEd K n sc es with
        | some e, some es => some (.spl e es)
        | _, _ => none)
    | e :: es => if isStar e then none else (match trE K n sc e, trEd K n sc es with
        | some e, some es => some (.cons e es)
        | _, _ => none))
def trO (K : Tab) : Nat → Scope → Option Expr → Option Oe
  | 0, _, _ => none
  | n + 1, sc, o => (match o with
    | none => some .none
    | some e => (match trE K n sc e with
      | some e => some (.some e)
      | none => none))
def trC (K : Tab) : Nat → Scope → Expr → Option C
  | 0, _, _ => none
  | n + 1, sc, e => (match e with
    | .UnaryOp o a _ => (match o with
      | .Not => (match trC K n sc a with
        | some c => some (.not c)
        | none => none)
      | _ => (match trE K n sc e with
        | some e => some (.val e)
        | none => none))
    | .BoolOp o es _ => (match o with
      | .And => trCAnd K n sc es
      | .Or => trCOr K n sc es)
    | .NamedExpr _ _ _ => none
    | .IfExp _ _ _ _ => none
    | e => (match trE K n sc e with
      | some e => some (.val e)
      | none => none))
def trCAnd (K : Tab) : Nat → Scope → List Expr → Option C
  | 0, _, _ => none
  | n + 1, sc, es => (match es with
    | [a] => trC K n sc a
    | a :: b :: r => (match trC K n sc a, trCAnd K n sc (b :: r) with
      | some a, some b => some (.and a b)
      | _, _ => none)
    | [] => none)
def trCOr (K : Tab) : Nat → Scope → List Expr → Option C
  | 0, _, _ => none
  | n + 1, sc, es => (match es with
    | [a] => trC K n sc a
    | a :: b :: r => (match trC K n sc a, trCOr K n sc (b :: r) with
      | some a, some b => some (.or a b)
      | _, _ => none)
    | [] => none)
/-- what a for or a comprehension walks -/
def trI (K : Tab) : Nat → Scope → Bool → Expr → Option Iw
  | 0, _, _, _ => none
  | n + 1, sc, tt, e => (match isRng K sc e with
    | some [a] => if isStar a then none else (match trE K n sc a with
      | some a => some (.rng1 a)
      | none => none)
    | some [a, b] => if isStar a || isStar b then none else (match trE K n sc a, trE K n sc b with
      | some a, some b => some (.rng2 a b)
      | _, _ => none)
    | some [a, b, c] => if isStar a || isStar b || isStar c then none else (match trE K n sc a, trE K n sc b, trE K n sc c with
      | some a, some b, some c => some (.rng3 a b c)
      | _, _, _ => none)
    | some _ => none
    | none => (match isCallOf K sc "enumerate" e with
      | some [a] => if isStar a || !tt then none else (match trE K n sc a with
        | some a => some (.enum a)
        | none => none)
      | some _ => none
      | none => (match isCallOf K sc "reversed" e with
        | some [b] => (match isRng K sc b with
          | some [a] => if isStar a then none else (match trE K n sc a with
            | some a => some (.rrng1 a)
            | none => none)
          | _ => none)
        | some _ => none
        | none => (match isCallOf K sc "zip" e with
          | some [a, b] => if isStar a || isStar b || !tt then none else (match trE K n sc a, trE K n sc b with
            | some a, some b => some (.zip2 a b)
            | _, _ => none)
          | some _ => none
          | none => (match itmOf e with
            | some a => if !tt then none else (match trE K n sc a with
              | some a => some (.ditm a)
              | none => none)
            | none => if isSet e then none else (match trE K n sc e with
              | some E => if isKey K e then some (.dkey E) else some (.seq E)
              | none => none))))))
end
mutual
def trS (K : Tab) (sc : Scope) : Nat → Stmt → Option S
  | 0, _ => none
  | n + 1, s => (match s with
    | .Pass _ => some .pass
    | .Break _ => some .brk
    | .Continue _ => some .cont
    | .Raise _ _ _ => some .raise
    | .Return o _ => (match o with
      | none => some .retn
      | some e => (match trE K n sc e with
        | some e => some (.ret e)
        | none => none))
    | .Expr e _ => if isComp e then none else (match trE K n sc e with
      | some e => some (.ex e)
      | none => none)
    | .Assign ts e _ => (match ts with
      | [t] => (match t with
        | .Name x _ => if isComp2 e || isItmC K e then none else (match trLoc K sc x, trE K n sc e with
          | some i, some e => some (.set (.nm i) e)
          | _, _ => none)
        | .Tuple es _ _ => (match es, e with
          | [.Name x _, .Name y _], .Tuple [a, b] _ _ => if isStar a || isStar b || ([a, b].all (PySem.constantsAlone 8) && !([a, b].all (PySem.foldedForSure 8))) then none else (match trLoc K sc x, trLoc K sc y, trE K n sc a, trE K n sc b with
            | some i, some j, some a, some b => some (.par i j a b)
            | _, _, _, _ => none)
          | [.Name x _, .Name y _, .Name z _], .Tuple [a, b, c] k p2 => if isStar a || isStar b || isStar c || ([a, b, c].all (PySem.constantsAlone 8) && !([a, b, c].all (PySem.foldedForSure 8))) then none else (match trLoc K sc x, trLoc K sc y, trLoc K sc z, trE K n sc (.Tuple [a, b, c] k p2) with
            | some i, some j, some l, some e => some (.set (.tp [.nm i, .nm j, .nm l]) e)
            | _, _, _, _ => none)
          | _, e => if isComp e || (isTup e && decide (es.length < 4)) then none else (match starLast es with
            | some (fs, r) => if isTup e then none else (match fs.mapM (trT K sc n), trT K sc n r, trE K n sc e with
              | some ts, some r, some e => some (.unp ts r e)
              | _, _, _ => none)
            | none => (match trT K sc n t, trE K n sc e with
              | some t, some e => some (.set t e)
              | _, _ => none)))
        | .Subscript a i _ => (match trE K n sc a, trIx K n sc i, trE K n sc e with
          | some a, some i, some e => some (.sti a i e)
          | _, _, _ => none)
        | .Attribute a f _ => (match trE K n sc a, ixOf f K.fld, trE K n sc e with
          | some a, some i, some e => some (.stf a i e)
          | _, _, _ => none)
        | _ => none)
      | _ => none)
    | .AugAssign t o e _ => (match trBin o, trE K n sc e with
      | some o, some e => if o = .pow then none else (match t with
        | .Name x _ => (match trLoc K sc x with
          | some i => some (.aug i o e)
          | none => none)
        | .Subscript a i _ => (match trE K n sc a, trIx K n sc i with
          | some a, some i => some (.augi a i o e)
          | _, _ => none)
        | .Attribute a f _ => (match trE K n sc a, ixOf f K.fld with
          | some a, some i => some (.augf a i o e)
          | _, _ => none)
        | _ => none)
      | _, _ => none)
    | .If c a b _ => (match trC K n sc c, trSs K sc n a, trSs K sc n b with
      | some c, some a, some b => some (.ifs c a b)
      | _, _, _ => none)
    | .For t i b e _ => if !e.isEmpty then none else (match trT K sc n t, trI K n sc (isTup t) i, trSs K sc n b with
      | some t, some i, some b => some (wrapS i (.for_ t i b))
      | _, _, _ => none)
    | .While c b e _ => if !e.isEmpty then none else (match trC K n sc c, trSs K sc n b with
      | some c, some b => some (.whl c b)
      | _, _ => none)
    | _ => none)
def trSs (K : Tab) (sc : Scope) : Nat → List Stmt → Option Ss
  | 0, _ => none
  | n + 1, ss => (match ss with
    | [] => some .nil
    | s :: r => (match trS K sc n s with
      | some s => (match trSs K sc n r with
        | some r => some (.cons s r)
        | none => none)
      | none => some (.cons .raise .nil)))
end
def isSup : Stmt → Option (PySem.Pos × PySem.Pos × PySem.Pos × PySem.Pos × PySem.Pos × Expr × List Expr)
  | .Expr (.Call (.Attribute (.Call (.Name x p0) [] [] p1) m apos) (e :: es) [] pos) pos' => if x = "super" ∧ m = "__init__" then some (p0, p1, apos, pos, pos', e, es) else none
  | _ => none
def Ss.app : Ss → Ss → Ss
  | .nil, b => b
  | .cons s r, b => .cons s (Ss.app r b)
/-- a def whose n-th statement is super().__init__(..): c its class, g the number of the other __init__ -/
def trX (K : Tab) (sc : Scope) (m c g n : Nat) (txt : List Stmt) : Option Ss := match txt.drop n with
  | s :: post => (match isSup s with
    | some (_, _, apos, pos, _, e, es) => if (apos.endLine == pos.line) && decide ((e :: es).length < 20) then (match trSs K sc m (txt.take n), trEs K m sc (e :: es), trSs K sc m post with
      | some B1, some Ea, some B2 => some (B1.app (.cons (.sup c g Ea) B2))
      | _, _, _ => none) else none
    | none => none)
  | [] => none
end Nz
namespace Nz
open PySem L2 PyProof.Rows He
/-- a value of the module's names is the data d -/
def relD (K : PySem.W.Frag) : Nat → D → Value → Bool
  | 0, _, _ => false
  | n + 1, d, v => (match d, v with
    | .non, .none => true
    | .bl a, .bool b => a == b
    | .int i, .int j _ => decide (i = j)
    | .str x, .str y _ => decide (x = y)
    | .wt ds, .ref a => (match K.lookup a with
      | some ⟨.type c, _, .seq its _, _⟩ => decide (c = "tuple") && (decide (its.size ≤ sizeLine) && (decide (ds.length = its.toList.length) && (ds.zip its.toList).all fun p => relD K n p.1 p.2))
      | _ => false)
    | _, _ => false)
/-- where a function stands: a name of the module, a class's method, a class's property -/
inductive Loc where
  | glo (x : Str) | met (c m : Str) | prp (c m : Str)
def prA (K : PySem.W.Frag) (c m : Str) : Addr := match PySem.W.findIn K (.ref (ga K c)) m with
  | some (some (.ref p)) => p
  | _ => 0
def Loc.ad (K : PySem.W.Frag) : Loc → Addr
  | .glo x => ga K x
  | .met c m => ma K (ga K c) m
  | .prp c m => (match PySem.W.recIn K (prA K c m) "property" with
    | some (.ref g :: _) => g
    | _ => 0)
/-- a def: where it stands, its text; its names, its parameters -/
structure Dd where
  loc : Loc
  name : Str
  qual : Str
  par : Arguments
  txt : List Stmt
  sco : Scope
  N : List Str
  ps : List Str
  clo : List Str := []
abbrev Fv : Type := Option (Str × Str × Arguments × FuncBody × Scope × Addr × List Str × Addr)
def fnV (K : PySem.W.Frag) (a : Addr) : Fv := match K.lookup a with
  | some o => (match o.data with
    | .func g => some (g.name, g.qualname, g.params, g.body, g.scope, g.globals, g.closure.map (·.1), g.builtins)
    | _ => none)
  | none => none
def Dd.val (e : Dd) : Fv := some (e.name, e.qual, e.par, .stmts e.txt, e.sco, mainGlobals, e.clo, builtinsNs)
def Dd.okB (K : PySem.W.Frag) (e : Dd) : Bool := PySem.W.keepIn K (.ref (e.loc.ad K)) && (match K.lookup (e.loc.ad K) with
  | some o => (match o.data with
    | .func g => PySem.W.codeIn K g.code e.qual && dflB K g.defaults []
    | _ => false)
  | none => false)
/-- the keyword-only default of a def -/
def kwC (K : PySem.W.Frag) (a : Addr) (kn : Str) : Option D → Bool
  | none => true
  | some d => (match K.lookup a with
    | some o => (match o.data with
      | .func g => (match g.kwdefaults with
        | .ref E => (match PySem.W.nsIn K E kn with
          | some (some u) => relD K 20 d u
          | _ => false)
        | _ => false)
      | _ => false)
    | none => false)
def tyNs : List String := ["NoneType", "bool", "int", "str", "list", "tuple"]
/-- one class, by name -/
def ckC1 (K : PySem.W.Frag) (cn : List (Option Str)) (fld : List Str) (x : Str) : Bool :=
  (Fa.cls x).ok K && (eqO (PySem.W.findIn K (.ref (ga K x)) "__class__") (some (some (.builtin "object.__class__"))) && (eqO (PySem.W.specialIn K (.builtin "object.__class__") "__get__") (some (some (.builtin "getset_descriptor.__get__"))) &&
    (decide (PySem.W.takesIn K (.builtin "object.__class__") = some true) && (decide (PySem.W.mroIn K (ga K x) (.type "object") = some true) && ((tyNs.all fun n => decide (PySem.W.kitOne K (.type n) (.ref (ga K x)) = some false)) &&
    ((tyNs.all fun n => n == "NoneType" || decide (PySem.W.kitOne K (.ref (ga K x)) (.type n) = some false)) && ((cn.zipIdx.all fun o => (match o with
      | (some y, j) => j == 9 || decide (PySem.W.kitOne K (.ref (ga K x)) (.ref (ga K y)) = some (x == y))
      | _ => true)) && fld.all fun f => (Fa.noat x f).ok K)))))))
def adOf (K : PySem.W.Frag) (dd : List (Nat × Dd)) (i : Nat) : Addr := match dd.lookup i with
  | some e => e.loc.ad K
  | _ => 0
def psOf (dd : List (Nat × Dd)) (i : Nat) : List Str := match dd.lookup i with
  | some e => e.ps
  | _ => []
def isDd (dd : List (Nat × Dd)) (i : Nat) : Bool := match dd.lookup i with
  | some _ => true
  | _ => false
/-- the facts of a def that says super().__init__(..) -/
def supB (K : PySem.W.Frag) (file : Str) (D cc cda f2 : Addr) : Bool :=
  (match K.lookup cc with
  | some ⟨_, _, .cell (some (.ref D')), _⟩ => D' == D
  | _ => false) && ((PySem.W.clsIn K D).isSome && (decide (PySem.W.mroIn K D (.ref D) = some true) && (eqO (PySem.W.nsIn K cStatics "thirdparty.any") (some none) && (eqO (PySem.W.ks_superIn K D D "__init__") (some (some (.ref f2))) && (decide (PySem.W.typeIn K (.ref f2) = some (.type "function")) && (PySem.W.fnIn K f2 &&
  ((match K.lookup cda with
  | some ⟨_, _, .fields vs, _⟩ => (match (vs[2]? : Option PySem.Value) with
    | some (.str fl _) => decide (fl = file)
    | _ => false)
  | _ => false) && eqO (PySem.W.nsIn K mainGlobals "super") (some none))))))))
def ckSp (T : Tab) (cn : List (Option Str)) (dd : List (Nat × Dd)) (K : PySem.W.Frag) : Bool := T.sps.all fun p => (match dd.lookup p.1, cn[p.2.1]? with
  | some e, some (some x) => (match K.lookup (e.loc.ad K) with
    | some o => (match o.data with
      | .func g => (match g.closure, g.code with
        | [q], .ref cda => supB K T.file (ga K x) q.2 cda (adOf K dd p.2.2)
        | _, _ => false)
      | _ => false)
    | none => false)
  | _, _ => false)
/-- all the facts but those -/
def ck0 (T : Tab) (G : Ctx) (cn : List (Option Str)) (dd : List (Nat × Dd)) (K : PySem.W.Frag) : Bool :=
  (T.kfs.all fun p => (Fa.glo p.1).ok K && (PySem.W.keepIn K (.ref (ga K p.1)) && (decide (adOf K dd p.2.1 = ga K p.1) && kwC K (ga K p.1) p.2.2.1 p.2.2.2))) && ((T.fns.all fun p => (Fa.glo p.1).ok K && (PySem.W.keepIn K (.ref (ga K p.1)) && decide (adOf K dd p.2 = ga K p.1))) && ((T.free.all fun x => (Fa.free x).ok K) && ((T.cls.all fun p => (Fa.glo p.1).ok K) &&
  ((T.cons.all fun p => (match PySem.W.nsIn K mainGlobals p.1 with
    | some (some v) => relD K 20 p.2 v
    | _ => false)) && ((cn.all fun o => (match o with
      | some x => ckC1 K cn T.fld x
      | none => true)) && (((T.mth.zip G.meth).all fun p => p.2.all fun r => (match cn[r.1]? with
      | some (some c) => (Fa.meth c p.1).ok K && (decide (ma K (ga K c) p.1 = adOf K dd r.2) && (!T.sts.contains p.1 || (eqO (PySem.W.specialIn K (.ref (adOf K dd r.2)) "__get__") (some (some (.builtin "function.__get__"))) && (decide (PySem.W.takesIn K (.ref (adOf K dd r.2)) = some false) && (!PySem.W.copiedNames.contains p.1 && PySem.W.fnIn K (adOf K dd r.2))))))
      | _ => false)) && (((T.prp.zip G.prop).all fun p => p.2.all fun r => (match cn[r.1]? with
      | some (some c) => eqO (PySem.W.findIn K (.ref (ga K c)) p.1) (some (some (.ref (prA K c p.1)))) && (eqO (PySem.W.specialIn K (.ref (prA K c p.1)) "__get__") (some (some (.builtin "property.__get__"))) &&
        (decide (PySem.W.takesIn K (.ref (prA K c p.1)) = some true) && (match PySem.W.recIn K (prA K c p.1) "property" with
          | some (.ref g :: _) => decide (g = adOf K dd r.2)
          | _ => false)))
      | _ => false)) && (cn.zip G.init).all fun p => (match p.1, p.2 with
      | some x, some i => (Fa.mkr x).ok K && decide (ma K (ga K x) "__init__" = adOf K dd i)
      | _, _ => true))))))))
/-- all the facts -/
def ck (T : Tab) (G : Ctx) (cn : List (Option Str)) (dd : List (Nat × Dd)) (K : PySem.W.Frag) : Bool := ckSp T cn dd K && ck0 T G cn dd K
def isDp (T : Tab) (dd : List (Nat × Dd)) (i : Nat) : Bool := isDd dd i && !isKw T i
/-- what is checked of the tables alone -/
def ckNS (T : Tab) (dd : List (Nat × Dd)) : Bool := T.sps.all fun p => isDp T dd p.2.2 && (!T.stn.contains p.1 && T.free.contains ("super" : Str))
def ckN0 (T : Tab) (G : Ctx) (cn : List (Option Str)) (dd : List (Nat × Dd)) : Bool :=
  (T.kfs.all fun p => isDd dd p.2.1) && ((T.fns.all fun p => isDp T dd p.2) && ((T.cls.all fun p => decide (cn[p.2]? = some (some p.1))) && (decide (T.fld.Nodup) && (decide ((cn.filterMap id).Nodup) && (((T.mth.zip G.meth).all fun p => p.2.all fun r => !T.fld.contains p.1 && (if T.sts.contains p.1 = true then isDd dd r.2 && T.stn.contains r.2 else isDp T dd r.2)) &&
    (((T.prp.zip G.prop).all fun p => p.2.all fun r => isDp T dd r.2) && (cn.zip G.init).all fun p => (match p.1, p.2 with
      | some _, some i => isDp T dd i
      | _, _ => true)))))))
def ckN (T : Tab) (G : Ctx) (cn : List (Option Str)) (dd : List (Nat × Dd)) : Bool := ckNS T dd && ckN0 T G cn dd
/-- the captured cells of a function -/
def cellsO (o : Obj) : List Addr := match o.data with
  | .func fd => fd.closure.map (·.2)
  | _ => []
def extG (g : Addr → Option Obj) (as : List Addr) : List Addr := as ++ cStatics :: as.flatMap fun a => match g a with
  | some o => cellsO o
  | none => []
/-- what is looked at: n steps; from 50 on the cells, too -/
def asX (g : Addr → Option Obj) (n : Nat) : List Addr := match Nat.blt n 50 with
  | true => asD g n
  | false => extG g (asD g (n - 50))
abbrev AlN : Type := Bool × List Fv
def obsC (c : PySem.W.Frag → Bool) (fn : List Dd) (K : PySem.W.Frag) : AlN := (c K && fn.all fun d => d.okB K, fn.map fun d => fnV K (d.loc.ad K))
def valC (fn : List Dd) : AlN := (true, fn.map Dd.val)
def SaysC (c : PySem.W.Frag → Bool) (fn : List Dd) (K : PySem.W.Frag) : Prop := obsC c fn K = valC fn
def obsCG (n : Nat) (c : PySem.W.Frag → Bool) (fn : List Dd) (g : Addr → Option Obj) : AlN := obsC c fn (frG g (asX g n))
def hookC (n : Nat) (c : PySem.W.Frag → Bool) (fn : List Dd) : PySem.W.Hook where
  α := AlN
  obs := fun s => obsCG n c fn s.heap.get?
  val := fun _ => valC fn
  says := fun _ h => ∃ K : PySem.W.Frag, K.In h ∧ SaysC c fn K
  of := fun _ _ e => ⟨_, frG_in, e⟩
  keeps := fun _ _ _ ⟨K, hK, e⟩ k => ⟨K, PySem.W.Frag.In.keeps hK k, e⟩
theorem obsCG_eq {n : Nat} {c : PySem.W.Frag → Bool} {fn : List Dd} {g : Addr → Option Obj} {s : Shared} (h : ∀ a, g a = s.heap.get? a) : obsCG n c fn g = (hookC n c fn).obs s := by
  have e : g = s.heap.get? := funext h
  rw [e] <;> rfl
def fnOf (dd : List (Nat × Dd)) : List Dd := dd.map (·.2)
end Nz
namespace Nz
open PySem PySem.W PySem.Spec PySem.Calls PyProof.Rows L2 He
end Nz
namespace Nz
/-- is_integer -/
def bd0 : Ss := 
  (.cons (.ret (.and (.isi (.var 0) [.int]) (.not (.isi (.var 0) [.bool])))) .nil)
/-- is_in -/
def bd1 : Ss := 
  (.cons (.ret (.and (.call 0 (.cons (.var 0) .nil)) (.chn .le .le (.var 1) (.var 0) (.var 2)))) .nil)
/-- is_list -/
def bd2 : Ss := 
  (.cons (.ret (.and (.isi (.var 0) [.tuple]) (.chn .le .le (.var 1) (.bi .len (.cons (.var 0) .nil)) (.var 2)))) .nil)
/-- _law_taken -/
def bd10 : Ss := 
  (.cons (.ifs (.val (.cmp .gt (.idx (.var 0) (.con (.int (3)))) (.con (.int (0))))) 
  (.cons (.set (.nm 2) (.bin .mod (.bi .int (.cons (.idx (.var 0) (.con (.int (3)))) .nil)) (.var 1))) 
  (.cons (.sti (.var 0) (.con (.int (3))) (.bin .fdiv (.idx (.var 0) (.con (.int (3)))) (.var 1))) 
  (.cons (.ret (.var 2)) .nil))) .nil) 
  (.cons (.sti (.var 0) (.con (.int (1))) (.bin .add (.idx (.var 0) (.con (.int (1)))) (.con (.int (1))))) 
  (.cons (.ifs (.val (.cmp .gt (.idx (.var 0) (.con (.int (1)))) (.bi .len (.cons (.idx (.var 0) (.con (.int (0)))) .nil)))) 
  (.cons (.sti (.var 0) (.con (.int (2))) (.bin .mod (.bi .int (.cons (.bin .add (.bin .mul (.idx (.var 0) (.con (.int (2)))) (.con (.int (48271)))) (.con (.int (11)))) .nil)) (.con (.int (2147483647))))) 
  (.cons (.ret (.bin .mod (.bi .int (.cons (.bin .fdiv (.idx (.var 0) (.con (.int (2)))) (.con (.int (7)))) .nil)) (.var 1))) .nil)) .nil) 
  (.cons (.set (.nm 3) (.idx (.idx (.var 0) (.con (.int (0)))) (.bin .sub (.idx (.var 0) (.con (.int (1)))) (.con (.int (1)))))) 
  (.cons (.sti (.var 0) (.con (.int (2))) (.bin .mod (.bi .int (.cons (.bin .add (.bin .add (.bin .mul (.idx (.var 0) (.con (.int (2)))) (.con (.int (48271)))) (.var 3)) (.con (.int (11)))) .nil)) (.con (.int (2147483647))))) 
  (.cons (.ifs (.val (.cmp .ge (.var 3) (.bin .pow (.con (.int (10))) (.con (.int (18)))))) 
  (.cons (.sti (.var 0) (.con (.int (3))) (.bin .fdiv (.var 3) (.var 1))) .nil) .nil) 
  (.cons (.ret (.bin .mod (.bi .int (.cons (.var 3) .nil)) (.var 1))) .nil)))))))
/-- _law_pick -/
def bd11 : Ss := 
  (.cons (.ret (.idx (.var 1) (.call 10 (.cons (.var 0) (.cons (.bi .len (.cons (.var 1) .nil)) .nil))))) .nil)
/-- _law_alike -/
def bd13 : Ss := 
  (.cons (.ifs (.val (.isi (.var 1) [.tuple, .list])) 
  (.cons (.ifs (.or (.not (.val (.isi (.var 0) [.tuple, .list]))) (.val (.cmp .ne (.isi (.var 0) [.list]) (.isi (.var 1) [.list])))) 
  (.cons (.ret (.con (.bl false))) .nil) .nil) 
  (.cons (.ifs (.val (.cmp .ne (.bi .len (.cons (.var 0) .nil)) (.bi .len (.cons (.var 1) .nil)))) 
  (.cons (.ret (.con (.bl false))) .nil) .nil) 
  (.cons (.ret (.cmp .eq (.comp [2] (.var 2) (.nm 2) (.rng1 (.bi .len (.cons (.var 1) .nil))) (.some (.not (.val (.call 13 (.cons (.idx (.var 0) (.var 2)) (.cons (.idx (.var 1) (.var 2)) .nil))))))) (.lst .nil))) .nil))) .nil) 
  (.cons (.ifs (.or (.val (.cmp .is_ (.var 1) (.con .non))) (.val (.isi (.var 1) [.str]))) 
  (.cons (.ret (.and (.cmp .eq (.var 0) (.var 1)) (.cmp .eq (.isi (.var 0) [.str]) (.isi (.var 1) [.str])))) .nil) .nil) 
  (.cons (.ret (.and (.isi (.var 0) [.int]) (.and (.cmp .eq (.isi (.var 0) [.bool]) (.isi (.var 1) [.bool])) (.cmp .eq (.var 0) (.var 1))))) .nil)))
/-- are_rows -/
def bd67 : Ss := 
  (.cons (.ifs (.or (.not (.val (.call 2 (.cons (.var 0) (.cons (.con (.int (0))) (.cons (.var 1) .nil)))))) (.not (.val (.bi .all (.cons (.comp [2] (.call 2 (.cons (.var 2) (.cons (.con (.int (0))) (.cons (.var 1) .nil)))) (.nm 2) (.seq (.var 0)) .none) .nil))))) 
  (.cons (.ret (.con (.bl false))) .nil) .nil) 
  (.cons (.ret (.bi .all (.cons (.comp [2] (.cmp .eq (.bi .len (.cons (.var 2) .nil)) (.bi .len (.cons (.idx (.var 0) (.con (.int (0)))) .nil))) (.nm 2) (.seq (.var 0)) .none) .nil))) .nil))
/-- shape_of -/
def bd68 : Ss := 
  (.cons (.ret (.tup (.cons (.bi .len (.cons (.var 0) .nil)) (.cons (.ite (.val (.cmp .ne (.var 0) (.tup .nil))) (.bi .len (.cons (.idx (.var 0) (.con (.int (0)))) .nil)) (.con (.int (0)))) .nil)))) .nil)
/-- _wall -/
def bd233 : Ss := 
  (.cons (.whl (.val (.con (.bl true))) 
  (.cons .pass .nil)) .nil)
/-- _law_bits -/
def bd251 : Ss := 
  (.cons (.set (.nm 2) (.call 10 (.cons (.var 0) (.cons (.con (.int (6))) .nil)))) 
  (.cons (.ifs (.val (.cmp .lt (.var 2) (.con (.int (2))))) 
  (.cons (.ret (.bin .mul (.lst (.cons (.var 2) .nil)) (.var 1))) .nil) .nil) 
  (.cons (.ifs (.val (.cmp .eq (.var 2) (.con (.int (2))))) 
  (.cons (.ret (.comp [3] (.bin .mod (.bi .int (.cons (.var 3) .nil)) (.con (.int (2)))) (.nm 3) (.rng1 (.var 1)) .none)) .nil) .nil) 
  (.cons (.ifs (.val (.cmp .eq (.var 2) (.con (.int (3))))) 
  (.cons (.ret (.comp [3] (.bi .int (.cons (.cmp .eq (.call 10 (.cons (.var 0) (.cons (.con (.int (7))) .nil))) (.con (.int (0)))) .nil)) (.nm 3) (.rng1 (.var 1)) .none)) .nil) .nil) 
  (.cons (.ret (.comp [3] (.call 10 (.cons (.var 0) (.cons (.con (.int (2))) .nil))) (.nm 3) (.rng1 (.var 1)) .none)) .nil)))))
/-- _law_contexts -/
def bd252 : Ss := 
  (.cons (.set (.nm 2) (.call 11 (.cons (.var 0) (.cons (.lst (.cons (.con (.int (1))) (.cons (.con (.int (2))) (.cons (.con (.int (5))) (.cons (.con (.int (32))) .nil))))) .nil)))) 
  (.cons (.set (.nm 3) (.call 10 (.cons (.var 0) (.cons (.bin .sub (.con (.int (33))) (.var 2)) .nil)))) 
  (.cons (.ret (.comp [4] (.bin .add (.var 3) (.call 10 (.cons (.var 0) (.cons (.var 2) .nil)))) (.nm 4) (.rng1 (.var 1)) .none)) .nil)))
/-- _law_pairs -/
def bd253 : Ss := 
  (.cons (.par 2 3 (.call 251 (.cons (.var 0) (.cons (.var 1) .nil))) (.call 252 (.cons (.var 0) (.cons (.var 1) .nil)))) 
  (.cons (.ret (.bi .mkt (.cons (.comp [4] (.tup (.cons (.idx (.var 2) (.var 4)) (.cons (.idx (.var 3) (.var 4)) .nil))) (.nm 4) (.rng1 (.var 1)) .none) .nil))) .nil))
/-- need_values -/
def bd389 : Ss := 
  (.cons (.ifs (.or (.not (.val (.call 67 (.cons (.var 0) (.cons (.con (.int (8))) .nil))))) (.val (.cmp .in_ (.con (.int (0))) (.call 68 (.cons (.var 0) .nil))))) 
  (.cons .raise .nil) .nil) 
  (.cons (.ifs (.not (.val (.bi .all (.cons (.comp2 [1, 2] [2] (.call 1 (.cons (.var 2) (.cons (.con (.int (0))) (.cons (.con (.int (30))) .nil)))) (.nm 1) (.seq (.var 0)) (.nm 2) (.seq (.var 1)) .none) .nil)))) 
  (.cons .raise .nil) .nil) .nil))
/-- less -/
def bd390 : Ss := 
  (.cons (.set (.tp [(.nm 1), (.nm 2)]) (.call 68 (.cons (.var 0) .nil))) 
  (.cons (.set (.nm 3) (.lst .nil)) 
  (.cons (.for_ (.nm 4) (.rng3 (.con (.int (0))) (.var 1) (.con (.int (2)))) 
  (.cons (.set (.nm 5) (.slc (.var 0) (.some (.var 4)) (.some (.bin .add (.var 4) (.con (.int (2))))))) 
  (.cons (.ex (.app (.var 3) (.bi .mkt (.cons (.comp [7] (.bi .min1 (.cons (.comp [6] (.bi .min1 (.cons (.slc (.var 6) (.some (.var 7)) (.some (.bin .add (.var 7) (.con (.int (2)))))) .nil)) (.nm 6) (.seq (.var 5)) .none) .nil)) (.nm 7) (.rng3 (.con (.int (0))) (.var 2) (.con (.int (2)))) .none) .nil)))) .nil))) 
  (.cons (.ret (.bi .mkt (.cons (.var 3) .nil))) .nil))))
/-- levels_of -/
def bd391 : Ss := 
  (.cons (.set (.nm 1) (.lst (.cons (.var 0) .nil))) 
  (.cons (.whl (.val (.cmp .ne (.call 68 (.cons (.idx (.var 1) (.neg (.con (.int (1))))) .nil)) (.tup (.cons (.con (.int (1))) (.cons (.con (.int (1))) .nil))))) 
  (.cons (.ex (.app (.var 1) (.call 390 (.cons (.idx (.var 1) (.neg (.con (.int (1))))) .nil)))) .nil)) 
  (.cons (.ret (.bi .mkt (.cons (.var 1) .nil))) .nil)))
/-- _law_values -/
def bd393 : Ss := 
  (.cons (.set (.tp [(.nm 3), (.nm 4), (.nm 5), (.nm 6)]) (.tup (.cons (.bin .add (.con (.int (1))) (.call 10 (.cons (.var 0) (.cons (.var 1) .nil)))) (.cons (.bin .add (.con (.int (1))) (.call 10 (.cons (.var 0) (.cons (.var 1) .nil)))) (.cons (.call 10 (.cons (.var 0) (.cons (.con (.int (4))) .nil))) (.cons (.call 10 (.cons (.var 0) (.cons (.bin .add (.var 2) (.con (.int (1)))) .nil))) .nil)))))) 
  (.cons (.set (.nm 7) (.lst .nil)) 
  (.cons (.for_ (.nm 8) (.rng1 (.var 3)) 
  (.cons (.set (.nm 9) (.comp [10] (.ite (.val (.cmp .eq (.var 5) (.con (.int (0))))) (.var 6) (.bi .min2 (.cons (.bin .add (.var 6) (.call 10 (.cons (.var 0) (.cons (.con (.int (3))) .nil)))) (.cons (.var 2) .nil)))) (.nm 10) (.rng1 (.var 4)) .none)) 
  (.cons (.ifs (.val (.cmp .gt (.var 5) (.con (.int (1))))) 
  (.cons (.set (.nm 9) (.comp [10] (.call 10 (.cons (.var 0) (.cons (.bin .add (.var 2) (.con (.int (1)))) .nil))) (.nm 10) (.rng1 (.var 4)) .none)) .nil) .nil) 
  (.cons (.ex (.app (.var 7) (.bi .mkt (.cons (.var 9) .nil)))) .nil)))) 
  (.cons (.ret (.bi .mkt (.cons (.var 7) .nil))) .nil))))
/-- need_shape -/
def bd398 : Ss := 
  (.cons (.ifs (.or (.not (.val (.call 2 (.cons (.var 0) (.cons (.con (.int (2))) (.cons (.con (.int (2))) .nil)))))) (.not (.val (.bi .all (.cons (.comp [1] (.call 1 (.cons (.var 1) (.cons (.con (.int (1))) (.cons (.con (.int (8))) .nil)))) (.nm 1) (.seq (.var 0)) .none) .nil))))) 
  (.cons .raise .nil) .nil) .nil)
/-- is_query -/
def bd399 : Ss := 
  (.cons (.ifs (.or (.not (.val (.call 2 (.cons (.var 1) (.cons (.con (.int (3))) (.cons (.con (.int (3))) .nil)))))) (.not (.val (.call 1 (.cons (.idx (.var 1) (.con (.int (2)))) (.cons (.con (.int (0))) (.cons (.con (.int (30))) .nil))))))) 
  (.cons (.ret (.con (.bl false))) .nil) .nil) 
  (.cons (.ret (.and (.call 1 (.cons (.idx (.var 1) (.con (.int (0)))) (.cons (.con (.int (0))) (.cons (.bin .sub (.idx (.var 0) (.con (.int (0)))) (.con (.int (1)))) .nil)))) (.call 1 (.cons (.idx (.var 1) (.con (.int (1)))) (.cons (.con (.int (0))) (.cons (.bin .sub (.idx (.var 0) (.con (.int (1)))) (.con (.int (1)))) .nil)))))) .nil))
/-- need_queries -/
def bd400 : Ss := 
  (.cons (.ifs (.not (.val (.call 2 (.cons (.var 1) (.cons (.con (.int (0))) (.cons (.con (.int (400))) .nil)))))) 
  (.cons .raise .nil) .nil) 
  (.cons (.for_ (.tp [(.nm 2), (.nm 3)]) (.enum (.var 1)) 
  (.cons (.ifs (.not (.val (.call 399 (.cons (.var 0) (.cons (.var 3) .nil))))) 
  (.cons .raise .nil) .nil) .nil)) .nil))
/-- TagTree.__init__ -/
def bd401 : Ss := 
  (.cons (.ex (.call 398 (.cons (.tup (.cons (.var 1) (.cons (.var 2) .nil))) .nil))) 
  (.cons (.stf (.var 0) 22 (.tup (.cons (.var 1) (.cons (.var 2) .nil)))) 
  (.cons (.stf (.var 0) 23 (.bin .sub (.bi .len (.cons (.call 391 (.cons (.bin .mul (.tup (.cons (.bin .mul (.tup (.cons (.con (.int (0))) .nil)) (.var 2)) .nil)) (.var 1)) .nil)) .nil)) (.con (.int (1))))) 
  (.cons (.stf (.var 0) 24 (.dnew true)) 
  (.cons (.stf (.var 0) 25 (.dnew true)) .nil)))))
/-- TagTree.need_query -/
def bd402 : Ss := 
  (.cons (.ifs (.or (.not (.val (.call 1 (.cons (.var 1) (.cons (.con (.int (0))) (.cons (.bin .sub (.idx (.fld (.var 0) 22) (.con (.int (0)))) (.con (.int (1)))) .nil)))))) (.not (.val (.call 1 (.cons (.var 2) (.cons (.con (.int (0))) (.cons (.bin .sub (.idx (.fld (.var 0) 22) (.con (.int (1)))) (.con (.int (1)))) .nil))))))) 
  (.cons .raise .nil) .nil) 
  (.cons (.ifs (.not (.val (.call 1 (.cons (.var 3) (.cons (.con (.int (0))) (.cons (.con (.int (30))) .nil)))))) 
  (.cons .raise .nil) .nil) .nil))
/-- TagTree.path -/
def bd403 : Ss := 
  (.cons (.ret (.comp [3] (.tup (.cons (.var 3) (.cons (.bin .shr (.var 1) (.var 3)) (.cons (.bin .shr (.var 2) (.var 3)) .nil)))) (.nm 3) (.rrng1 (.bin .add (.fld (.var 0) 23) (.con (.int (1))))) .none)) .nil)
/-- TagTree.run -/
def bd404 : Ss := 
  (.cons (.set (.nm 5) (.con (.int (0)))) 
  (.cons (.for_ (.nm 6) (.seq (.meth (.var 0) 25 (.cons (.var 1) (.cons (.var 2) .nil)))) 
  (.cons (.set (.nm 5) (.bi .max2 (.cons (.var 5) (.cons (.dget (.fld (.var 0) 24) (.var 6) (.con (.int (0)))) .nil)))) 
  (.cons (.whl (.and (.val (.cmp .nin (.var 6) (.fld (.var 0) 25))) (.val (.cmp .lt (.var 5) (.var 3)))) 
  (.cons (.ifs (.val (.cmp .eq (.meth (.var 4) 31 (.cons (.var 6) (.cons (.var 5) .nil))) (.con (.int (1))))) 
  (.cons (.sti (.fld (.var 0) 25) (.var 6) (.con (.bl true))) .nil) 
  (.cons (.aug 5 .add (.con (.int (1)))) .nil)) .nil)) 
  (.cons (.sti (.fld (.var 0) 24) (.var 6) (.var 5)) .nil)))) .nil))
/-- TagTree.least -/
def bd405 : Ss := 
  (.cons (.ret (.bi .max1 (.cons (.comp [3] (.dget (.fld (.var 0) 24) (.var 3) (.con (.int (0)))) (.nm 3) (.seq (.meth (.var 0) 25 (.cons (.var 1) (.cons (.var 2) .nil)))) .none) .nil))) .nil)
/-- TagWriter.__init__ -/
def bd410 : Ss := 
  (.cons (.ex (.call 389 (.cons (.var 1) .nil))) 
  (.cons (.set (.tp [(.nm 3), (.nm 4)]) (.call 68 (.cons (.var 1) .nil))) 
  (.cons (.sup 19 401 (.cons (.var 3) (.cons (.var 4) .nil))) 
  (.cons (.stf (.var 0) 26 (.call 391 (.cons (.var 1) .nil))) 
  (.cons (.stf (.var 0) 27 (.lst .nil)) .nil)))))
/-- TagWriter.bit_of -/
def bd411 : Ss := 
  (.cons (.set (.nm 3) (.bi .int (.cons (.cmp .eq (.idx (.idx (.idx (.fld (.var 0) 26) (.idx (.var 1) (.con (.int (0))))) (.idx (.var 1) (.con (.int (1))))) (.idx (.var 1) (.con (.int (2))))) (.var 2)) .nil))) 
  (.cons (.ex (.app (.fld (.var 0) 27) (.var 3))) 
  (.cons (.ret (.var 3)) .nil)))
/-- TagWriter.ask -/
def bd412 : Ss := 
  (.cons (.ex (.meth (.var 0) 24 (.cons (.var 1) (.cons (.var 2) (.cons (.var 3) .nil))))) 
  (.cons (.stf (.var 0) 27 (.lst .nil)) 
  (.cons (.ex (.meth (.var 0) 22 (.cons (.var 1) (.cons (.var 2) (.cons (.var 3) (.cons (.var 0) .nil)))))) 
  (.cons (.ret (.bi .mkt (.cons (.fld (.var 0) 27) .nil))) .nil))))
/-- write_queries -/
def bd413 : Ss := 
  (.cons (.set (.nm 2) (.mk 19 (.cons (.var 0) .nil))) 
  (.cons (.ex (.call 400 (.cons (.fld (.var 2) 22) (.cons (.var 1) .nil)))) 
  (.cons (.set (.nm 3) (.lst .nil)) 
  (.cons (.for_ (.tp [(.nm 4), (.nm 5), (.nm 6)]) (.seq (.var 1)) 
  (.cons (.ex (.lm .ext (.var 3) (.cons (.meth (.var 2) 55 (.cons (.var 4) (.cons (.var 5) (.cons (.var 6) .nil)))) .nil))) .nil)) 
  (.cons (.ret (.bi .mkt (.cons (.var 3) .nil))) .nil)))))
/-- _law_queries -/
def bd414 : Ss := 
  (.cons (.set (.nm 4) (.lst .nil)) 
  (.cons (.for_ (.nm 5) (.rng1 (.var 2)) 
  (.cons (.ex (.app (.var 4) (.tup (.cons (.call 10 (.cons (.var 0) (.cons (.bi .len (.cons (.var 1) .nil)) .nil))) (.cons (.call 10 (.cons (.var 0) (.cons (.bi .len (.cons (.idx (.var 1) (.con (.int (0)))) .nil)) .nil))) (.cons (.call 10 (.cons (.var 0) (.cons (.bin .add (.var 3) (.con (.int (1)))) .nil))) .nil)))))) .nil)) 
  (.cons (.ret (.bi .mkt (.cons (.var 4) .nil))) .nil)))
/-- TagTree.leaves -/
def bd432 : Ss := 
  (.cons (.ex (.call 233 (.cons (.con (.int (0))) .nil))) .nil)
/-- TagTree.carriers -/
def bd433 : Ss := 
  (.cons (.ex (.call 233 (.cons (.con (.int (1))) .nil))) .nil)
/-- TagTree.need_sense -/
def bd434 : Ss := 
  (.cons (.ex (.call 233 (.cons (.con (.int (2))) .nil))) .nil)
/-- TagTree.limits -/
def bd435 : Ss := 
  (.cons (.ex (.call 233 (.cons (.con (.int (3))) .nil))) .nil)
/-- law -/
def bd436 : Ss := 
  (.cons (.set (.nm 1) (.lst (.cons (.var 0) (.cons (.con (.int (0))) (.cons (.con (.int (3157))) (.cons (.con (.int (0))) .nil)))))) 
  (.cons (.set (.nm 2) (.call 11 (.cons (.var 1) (.cons (.lst (.cons (.con (.int (3))) (.cons (.con (.int (8))) (.cons (.con (.int (29))) .nil)))) .nil)))) 
  (.cons (.set (.nm 3) (.call 393 (.cons (.var 1) (.cons (.con (.int (6))) (.cons (.var 2) .nil))))) 
  (.cons (.set (.nm 4) (.call 414 (.cons (.var 1) (.cons (.var 3) (.cons (.bin .add (.con (.int (1))) (.call 10 (.cons (.var 1) (.cons (.con (.int (10))) .nil)))) (.cons (.var 2) .nil)))))) 
  (.cons (.par 5 6 (.mk 19 (.cons (.var 3) .nil)) (.con (.int (0)))) 
  (.cons (.for_ (.tp [(.nm 7), (.nm 8), (.nm 9)]) (.seq (.var 4)) 
  (.cons (.set (.nm 6) (.bin .add (.var 6) (.bi .len (.cons (.meth (.var 5) 55 (.cons (.var 7) (.cons (.var 8) (.cons (.var 9) .nil)))) .nil)))) .nil)) 
  (.cons (.for_ (.tp [(.nm 7), (.nm 8), (.nm 9)]) (.seq (.var 4)) 
  (.cons (.ifs (.not (.val (.call 13 (.cons (.meth (.var 5) 55 (.cons (.var 7) (.cons (.var 8) (.cons (.call 10 (.cons (.var 1) (.cons (.bin .add (.var 9) (.con (.int (1)))) .nil))) .nil)))) (.cons (.tup .nil) .nil))))) 
  (.cons (.ret (.con (.bl false))) .nil) .nil) .nil)) 
  (.cons (.set (.tp [(.nm 7), (.nm 8), (.nm 9)]) (.call 11 (.cons (.var 1) (.cons (.var 4) .nil)))) 
  (.cons (.set (.nm 10) (.meth (.var 5) 55 (.cons (.var 7) (.cons (.var 8) (.cons (.bin .add (.var 9) (.con (.int (1)))) .nil))))) 
  (.cons (.ifs (.val (.cmp .ne (.bin .add (.var 6) (.bi .len (.cons (.var 10) .nil))) (.bi .len (.cons (.call 413 (.cons (.var 3) (.cons (.bin .add (.var 4) (.tup (.cons (.tup (.cons (.var 7) (.cons (.var 8) (.cons (.bin .add (.var 9) (.con (.int (1)))) .nil)))) .nil))) .nil))) .nil)))) 
  (.cons (.ret (.con (.bl false))) .nil) .nil) 
  (.cons (.ret (.or (.cmp .gt (.idx (.idx (.var 3) (.var 7)) (.var 8)) (.bin .sub (.var 9) (.con (.int (1))))) (.call 13 (.cons (.var 10) (.cons (.tup .nil) .nil))))) .nil)))))))))))
end Nz
namespace K57
open Nz PySem
def top (i : Nat) : Stmt := PySem.Challenge.pw_bandpress_k57_whole_asked_again.main.body.getD i (.Pass ⟨0, 0, 0, 0⟩)
def T0 : Tab := { N := [], dts := [(73, 22), (74, 22)], kfs := ([] : List (PySem.Str × Nat × PySem.Str × Option Nz.D)), fns := ([(("_wall" : PySem.Str), 233), (("is_integer" : PySem.Str), 0), (("is_in" : PySem.Str), 1), (("is_list" : PySem.Str), 2), (("are_rows" : PySem.Str), 67), (("shape_of" : PySem.Str), 68), (("need_values" : PySem.Str), 389), (("need_shape" : PySem.Str), 398), (("is_query" : PySem.Str), 399), (("need_queries" : PySem.Str), 400), (("less" : PySem.Str), 390), (("levels_of" : PySem.Str), 391), (("write_queries" : PySem.Str), 413), (("_law_taken" : PySem.Str), 10), (("_law_pick" : PySem.Str), 11), (("_law_alike" : PySem.Str), 13), (("_law_values" : PySem.Str), 393), (("_law_queries" : PySem.Str), 414), (("law" : PySem.Str), 436)] : List (PySem.Str × Nat)), cls := ([(("TagTree" : PySem.Str), 9), (("TagWriter" : PySem.Str), 19)] : List (PySem.Str × Nat)), cons := ([(("MOST_SIDE" : PySem.Str), (.int (8) : Nz.D)), (("GREATEST" : PySem.Str), (.int (30) : Nz.D)), (("MOST_QUERIES" : PySem.Str), (.int (400) : Nz.D))] : List (PySem.Str × Nz.D)), fld := ([("index" : PySem.Str), ("?f1" : PySem.Str), ("?f2" : PySem.Str), ("?f3" : PySem.Str), ("?f4" : PySem.Str), ("?f5" : PySem.Str), ("?f6" : PySem.Str), ("?f7" : PySem.Str), ("?f8" : PySem.Str), ("?f9" : PySem.Str), ("?f10" : PySem.Str), ("?f11" : PySem.Str), ("?f12" : PySem.Str), ("?f13" : PySem.Str), ("?f14" : PySem.Str), ("?f15" : PySem.Str), ("?f16" : PySem.Str), ("?f17" : PySem.Str), ("?f18" : PySem.Str), ("?f19" : PySem.Str), ("?f20" : PySem.Str), ("?f21" : PySem.Str), ("shape" : PySem.Str), ("root_level" : PySem.Str), ("bounds" : PySem.Str), ("closed" : PySem.Str), ("ladder" : PySem.Str), ("bits" : PySem.Str)] : List PySem.Str), mth := ([("?m0" : PySem.Str), ("?m1" : PySem.Str), ("?m2" : PySem.Str), ("?m3" : PySem.Str), ("?m4" : PySem.Str), ("?m5" : PySem.Str), ("?m6" : PySem.Str), ("?m7" : PySem.Str), ("?m8" : PySem.Str), ("?m9" : PySem.Str), ("?m10" : PySem.Str), ("?m11" : PySem.Str), ("?m12" : PySem.Str), ("?m13" : PySem.Str), ("?m14" : PySem.Str), ("?m15" : PySem.Str), ("?m16" : PySem.Str), ("?m17" : PySem.Str), ("?m18" : PySem.Str), ("?m19" : PySem.Str), ("?m20" : PySem.Str), ("?m21" : PySem.Str), ("run" : PySem.Str), ("?m23" : PySem.Str), ("need_query" : PySem.Str), ("path" : PySem.Str), ("least" : PySem.Str), ("leaves" : PySem.Str), ("carriers" : PySem.Str), ("need_sense" : PySem.Str), ("limits" : PySem.Str), ("bit_of" : PySem.Str), ("?m32" : PySem.Str), ("?m33" : PySem.Str), ("?m34" : PySem.Str), ("?m35" : PySem.Str), ("?m36" : PySem.Str), ("?m37" : PySem.Str), ("?m38" : PySem.Str), ("?m39" : PySem.Str), ("?m40" : PySem.Str), ("?m41" : PySem.Str), ("?m42" : PySem.Str), ("?m43" : PySem.Str), ("?m44" : PySem.Str), ("?m45" : PySem.Str), ("?m46" : PySem.Str), ("?m47" : PySem.Str), ("?m48" : PySem.Str), ("?m49" : PySem.Str), ("?m50" : PySem.Str), ("?m51" : PySem.Str), ("?m52" : PySem.Str), ("?m53" : PySem.Str), ("?m54" : PySem.Str), ("ask" : PySem.Str)] : List PySem.Str), prp := ([] : List PySem.Str), free := ([("isinstance" : PySem.Str), ("len" : PySem.Str), ("range" : PySem.Str), ("int" : PySem.Str), ("bool" : PySem.Str), ("str" : PySem.Str), ("tuple" : PySem.Str), ("list" : PySem.Str), ("min" : PySem.Str), ("max" : PySem.Str), ("all" : PySem.Str), ("enumerate" : PySem.Str), ("reversed" : PySem.Str), ("ValueError" : PySem.Str), ("super" : PySem.Str)] : List PySem.Str), sps := [(410, (19, 401))], file := ("/claim/cut.py" : PySem.Str) }
def L0 : Prog := ⟨[(233, (⟨1, 1, bd233⟩ : Nz.Df)), (0, (⟨1, 1, bd0⟩ : Nz.Df)), (1, (⟨3, 3, bd1⟩ : Nz.Df)), (2, (⟨3, 3, bd2⟩ : Nz.Df)), (67, (⟨2, 3, bd67⟩ : Nz.Df)), (68, (⟨1, 1, bd68⟩ : Nz.Df)), (389, (⟨1, 3, bd389⟩ : Nz.Df)), (398, (⟨1, 2, bd398⟩ : Nz.Df)), (399, (⟨2, 2, bd399⟩ : Nz.Df)), (400, (⟨2, 4, bd400⟩ : Nz.Df)), (390, (⟨1, 8, bd390⟩ : Nz.Df)), (391, (⟨1, 2, bd391⟩ : Nz.Df)), (401, (⟨3, 3, bd401⟩ : Nz.Df)), (402, (⟨4, 4, bd402⟩ : Nz.Df)), (403, (⟨3, 4, bd403⟩ : Nz.Df)), (404, (⟨5, 7, bd404⟩ : Nz.Df)), (405, (⟨3, 4, bd405⟩ : Nz.Df)), (432, (⟨1, 1, bd432⟩ : Nz.Df)), (433, (⟨3, 3, bd433⟩ : Nz.Df)), (434, (⟨1, 1, bd434⟩ : Nz.Df)), (435, (⟨1, 1, bd435⟩ : Nz.Df)), (410, (⟨2, 5, bd410⟩ : Nz.Df)), (411, (⟨3, 4, bd411⟩ : Nz.Df)), (412, (⟨4, 4, bd412⟩ : Nz.Df)), (413, (⟨2, 7, bd413⟩ : Nz.Df)), (10, (⟨2, 4, bd10⟩ : Nz.Df)), (11, (⟨2, 2, bd11⟩ : Nz.Df)), (13, (⟨2, 3, bd13⟩ : Nz.Df)), (393, (⟨3, 11, bd393⟩ : Nz.Df)), (414, (⟨4, 6, bd414⟩ : Nz.Df)), (436, (⟨1, 11, bd436⟩ : Nz.Df))], ⟨[[], [], [], [], [], [], [], [], [], [], [], [], [], [], [], [], [], [], [], [], [], [], [(9, 404), (19, 404)], [], [(9, 402), (19, 402)], [(9, 403), (19, 403)], [(9, 405), (19, 405)], [(9, 432), (19, 432)], [(9, 433), (19, 433)], [(9, 434), (19, 434)], [(9, 435), (19, 435)], [(19, 411)], [], [], [], [], [], [], [], [], [], [], [], [], [], [], [], [], [], [], [], [], [], [], [], [(19, 412)]], [], [none, none, none, none, none, none, none, none, none, some 401, none, none, none, none, none, none, none, none, none, some 410]⟩⟩
def cn0 : List (Option PySem.Str) := [none, none, none, none, none, none, none, none, none, some "TagTree", none, none, none, none, none, none, none, none, none, some "TagWriter"]
def dd0 : List (Nat × Dd) := [
  (233, (⟨.glo "_wall", "_wall", "_wall", L2.defArgs (top 0), L2.defBody (top 0), L2.defScope (top 0), ["k"], ["k"], []⟩ : Dd)),
  (0, (⟨.glo "is_integer", "is_integer", "is_integer", L2.defArgs (top 2), L2.defBody (top 2), L2.defScope (top 2), ["value"], ["value"], []⟩ : Dd)),
  (1, (⟨.glo "is_in", "is_in", "is_in", L2.defArgs (top 3), L2.defBody (top 3), L2.defScope (top 3), ["value", "least", "most"], ["value", "least", "most"], []⟩ : Dd)),
  (2, (⟨.glo "is_list", "is_list", "is_list", L2.defArgs (top 4), L2.defBody (top 4), L2.defScope (top 4), ["value", "least", "most"], ["value", "least", "most"], []⟩ : Dd)),
  (67, (⟨.glo "are_rows", "are_rows", "are_rows", L2.defArgs (top 5), L2.defBody (top 5), L2.defScope (top 5), ["value", "most", "row"], ["value", "most"], []⟩ : Dd)),
  (68, (⟨.glo "shape_of", "shape_of", "shape_of", L2.defArgs (top 6), L2.defBody (top 6), L2.defScope (top 6), ["rows"], ["rows"], []⟩ : Dd)),
  (389, (⟨.glo "need_values", "need_values", "need_values", L2.defArgs (top 18), L2.defBody (top 18), L2.defScope (top 18), ["values", "row", "one"], ["values"], []⟩ : Dd)),
  (398, (⟨.glo "need_shape", "need_shape", "need_shape", L2.defArgs (top 19), L2.defBody (top 19), L2.defScope (top 19), ["shape", "side"], ["shape"], []⟩ : Dd)),
  (399, (⟨.glo "is_query", "is_query", "is_query", L2.defArgs (top 20), L2.defBody (top 20), L2.defScope (top 20), ["shape", "value"], ["shape", "value"], []⟩ : Dd)),
  (400, (⟨.glo "need_queries", "need_queries", "need_queries", L2.defArgs (top 21), L2.defBody (top 21), L2.defScope (top 21), ["shape", "queries", "index", "query"], ["shape", "queries"], []⟩ : Dd)),
  (390, (⟨.glo "less", "less", "less", L2.defArgs (top 22), L2.defBody (top 22), L2.defScope (top 22), ["values", "height", "width", "found", "row", "both", "line", "at"], ["values"], []⟩ : Dd)),
  (391, (⟨.glo "levels_of", "levels_of", "levels_of", L2.defArgs (top 23), L2.defBody (top 23), L2.defScope (top 23), ["values", "found"], ["values"], []⟩ : Dd)),
  (401, (⟨.met "TagTree" "__init__", "__init__", "TagTree.__init__", L2.defArgs (L2.inClass (top 24) 0), L2.defBody (L2.inClass (top 24) 0), L2.defScope (L2.inClass (top 24) 0), ["self", "height", "width"], ["self", "height", "width"], []⟩ : Dd)),
  (402, (⟨.met "TagTree" "need_query", "need_query", "TagTree.need_query", L2.defArgs (L2.inClass (top 24) 1), L2.defBody (L2.inClass (top 24) 1), L2.defScope (L2.inClass (top 24) 1), ["self", "row", "column", "threshold"], ["self", "row", "column", "threshold"], []⟩ : Dd)),
  (403, (⟨.met "TagTree" "path", "path", "TagTree.path", L2.defArgs (L2.inClass (top 24) 2), L2.defBody (L2.inClass (top 24) 2), L2.defScope (L2.inClass (top 24) 2), ["self", "row", "column", "level"], ["self", "row", "column"], []⟩ : Dd)),
  (404, (⟨.met "TagTree" "run", "run", "TagTree.run", L2.defArgs (L2.inClass (top 24) 3), L2.defBody (L2.inClass (top 24) 3), L2.defScope (L2.inClass (top 24) 3), ["self", "row", "column", "threshold", "source", "bound", "node"], ["self", "row", "column", "threshold", "source"], []⟩ : Dd)),
  (405, (⟨.met "TagTree" "least", "least", "TagTree.least", L2.defArgs (L2.inClass (top 24) 4), L2.defBody (L2.inClass (top 24) 4), L2.defScope (L2.inClass (top 24) 4), ["self", "row", "column", "node"], ["self", "row", "column"], []⟩ : Dd)),
  (432, (⟨.met "TagTree" "leaves", "leaves", "TagTree.leaves", L2.defArgs (L2.inClass (top 24) 5), L2.defBody (L2.inClass (top 24) 5), L2.defScope (L2.inClass (top 24) 5), ["self"], ["self"], []⟩ : Dd)),
  (433, (⟨.met "TagTree" "carriers", "carriers", "TagTree.carriers", L2.defArgs (L2.inClass (top 24) 6), L2.defBody (L2.inClass (top 24) 6), L2.defScope (L2.inClass (top 24) 6), ["self", "lows", "node"], ["self", "lows", "node"], []⟩ : Dd)),
  (434, (⟨.met "TagTree" "need_sense", "need_sense", "TagTree.need_sense", L2.defArgs (L2.inClass (top 24) 7), L2.defBody (L2.inClass (top 24) 7), L2.defScope (L2.inClass (top 24) 7), ["self"], ["self"], []⟩ : Dd)),
  (435, (⟨.met "TagTree" "limits", "limits", "TagTree.limits", L2.defArgs (L2.inClass (top 24) 8), L2.defBody (L2.inClass (top 24) 8), L2.defScope (L2.inClass (top 24) 8), ["self"], ["self"], []⟩ : Dd)),
  (410, (⟨.met "TagWriter" "__init__", "__init__", "TagWriter.__init__", L2.defArgs (L2.inClass (top 25) 0), L2.defBody (L2.inClass (top 25) 0), L2.defScope (L2.inClass (top 25) 0), ["self", "values", "__class__", "height", "width"], ["self", "values"], [("__class__" : PySem.Str)]⟩ : Dd)),
  (411, (⟨.met "TagWriter" "bit_of", "bit_of", "TagWriter.bit_of", L2.defArgs (L2.inClass (top 25) 1), L2.defBody (L2.inClass (top 25) 1), L2.defScope (L2.inClass (top 25) 1), ["self", "node", "bound", "bit"], ["self", "node", "bound"], []⟩ : Dd)),
  (412, (⟨.met "TagWriter" "ask", "ask", "TagWriter.ask", L2.defArgs (L2.inClass (top 25) 2), L2.defBody (L2.inClass (top 25) 2), L2.defScope (L2.inClass (top 25) 2), ["self", "row", "column", "threshold"], ["self", "row", "column", "threshold"], []⟩ : Dd)),
  (413, (⟨.glo "write_queries", "write_queries", "write_queries", L2.defArgs (top 26), L2.defBody (top 26), L2.defScope (top 26), ["values", "queries", "writer", "found", "row", "column", "threshold"], ["values", "queries"], []⟩ : Dd)),
  (10, (⟨.glo "_law_taken", "_law_taken", "_law_taken", L2.defArgs (top 28), L2.defBody (top 28), L2.defScope (top 28), ["row", "many", "found", "cell"], ["row", "many"], []⟩ : Dd)),
  (11, (⟨.glo "_law_pick", "_law_pick", "_law_pick", L2.defArgs (top 29), L2.defBody (top 29), L2.defScope (top 29), ["row", "things"], ["row", "things"], []⟩ : Dd)),
  (13, (⟨.glo "_law_alike", "_law_alike", "_law_alike", L2.defArgs (top 30), L2.defBody (top 30), L2.defScope (top 30), ["found", "due", "k"], ["found", "due"], []⟩ : Dd)),
  (393, (⟨.glo "_law_values", "_law_values", "_law_values", L2.defArgs (top 31), L2.defBody (top 31), L2.defScope (top 31), ["row", "side", "most", "high", "wide", "way", "base", "found", "one", "line", "other"], ["row", "side", "most"], []⟩ : Dd)),
  (414, (⟨.glo "_law_queries", "_law_queries", "_law_queries", L2.defArgs (top 32), L2.defBody (top 32), L2.defScope (top 32), ["row", "values", "count", "most", "found", "turn"], ["row", "values", "count", "most"], []⟩ : Dd)),
  (436, (⟨.glo "law", "law", "law", L2.defArgs (top 33), L2.defBody (top 33), L2.defScope (top 33), ["script", "row", "most", "values", "queries", "writer", "told", "one", "other", "far", "more"], ["script"], []⟩ : Dd))]
end K57
namespace K57
open Nz PySem PySem.Spec PyProof.Rows L2
abbrev hk : PySem.W.Hook := hookC 55 (ck T0 L0.G cn0 dd0) (fnOf dd0)
abbrev Ro : PySem.W.OpenRow := PySem.W.OpenLaw.row PySem.Challenge.rw_bandpress_k57_whole_asked_again
def ob (s : PySem.W.SharedT) : AlN := obsCG 55 (ck T0 L0.G cn0 dd0) (fnOf dd0) (HandSHeadRun.getT s)
theorem ob_eq (s : PySem.W.SharedT) : ob s = hk.obs s.abs := obsCG_eq (HandSHeadRun.getT_eq s)
def lo0 : List PySem.Str := [("BadLeaf" : PySem.Str), ("BadQueries" : PySem.Str), ("BadShape" : PySem.Str), ("BadThreshold" : PySem.Str), ("BadTree" : PySem.Str), ("GREATEST" : PySem.Str), ("MOST_QUERIES" : PySem.Str), ("MOST_SIDE" : PySem.Str), ("PressError" : PySem.Str), ("TagTree" : PySem.Str), ("TagWriter" : PySem.Str), ("_law_alike" : PySem.Str), ("_law_pick" : PySem.Str), ("_law_queries" : PySem.Str), ("_law_taken" : PySem.Str), ("_law_values" : PySem.Str), ("_wall" : PySem.Str), ("are_rows" : PySem.Str), ("is_in" : PySem.Str), ("is_integer" : PySem.Str), ("is_list" : PySem.Str), ("is_query" : PySem.Str), ("less" : PySem.Str), ("levels_of" : PySem.Str), ("need_queries" : PySem.Str), ("need_shape" : PySem.Str), ("need_values" : PySem.Str), ("shape_of" : PySem.Str), ("write_queries" : PySem.Str)]
theorem runH (w : World) : HandSHeadRun.RunEq Ro (PySem.W.view Ro.prog [33]) hk ob 100000 lo0 w := by
  intro os
  kernel_rfl
end K57
namespace Nz
open PySem L2
/-- the places' addresses; true: an object of the written part -/
abbrev Mu := List (Addr × Bool)
mutual
inductive Rp (K : PySem.W.Frag) (μ : Mu) (H : Hp) : D → V → Prop
  | non : Rp K μ H .non .non
  | bl (b : Bool) : Rp K μ H (.bl b) (.bl b)
  | int (i : Int) : Rp K μ H (.int i) (.int i)
  | str (s : Str) : Rp K μ H (.str s) (.str s)
  | tup {ds : List D} {a : Addr} {vs : List V} (h : H a = some (.tup vs)) (r : Rps K μ H ds vs) : Rp K μ H (.tup ds) (.ref a)
  | wt {ds : List D} {a : Addr} {vs : List V} (h : SqT K H a vs) (r : Rps K μ H ds vs) : Rp K μ H (.wt ds) (.ref a)
  | ref {l : Nat} {a : Addr} {b : Bool} (h : μ[l]? = some (a, b)) : Rp K μ H (.ref l) (.ref a)
inductive Rps (K : PySem.W.Frag) (μ : Mu) (H : Hp) : List D → List V → Prop
  | nil : Rps K μ H [] []
  | cons {d : D} {v : V} {ds : List D} {vs : List V} (h : Rp K μ H d v) (t : Rps K μ H ds vs) : Rps K μ H (d :: ds) (v :: vs)
end
/-- the classes' addresses and the fields' names -/
structure Nm where
  cls : Nat → Option Addr
  fld : List Str
/-- fields -/
def RpF (K : PySem.W.Frag) (F : Nm) (μ : Mu) (H : Hp) : List (Nat × D) → List (Str × V) → Prop := Paired fun p q => F.fld[p.1]? = some q.1 ∧ Rp K μ H p.2 q.2
/-- a key as data -/
def keyD : L2.Key → D
  | .inl i => .int i
  | .inr x => .str x
def keysD (ks : List L2.Key) : D := .tup (ks.map keyD)
/-- the pairs of a dict -/
def RpD {κ : Type} (kd : κ → D) (K : PySem.W.Frag) (μ : Mu) (H : Hp) : List (D × D) → List (κ × V) → Prop := Paired fun p q => p.1 = kd q.1 ∧ Rp K μ H p.2 q.2
/-- an object of the store, by the heap -/
def RpH (K : PySem.W.Frag) (F : Nm) (μ : Mu) (H : Hp) (a : Addr) : O → Prop
  | .lst ds => ∃ vs, H a = some (.lst vs) ∧ Rps K μ H ds vs
  | .frz ds => ∃ ob vs, H a = some (.frz ob (.lst vs)) ∧ Rps K μ H ds vs
  | .ins c fs => ∃ C dx fv, F.cls c = some C ∧ H a = some (.ins C dx fv) ∧ RpF K F μ H fs fv
  | .dct false kvs => ∃ kv : List (L2.Key × V), H a = some (.dK kv) ∧ RpD keyD K μ H kvs kv
  | .dct true kvs => ∃ kv : List (List L2.Key × V), H a = some (.dT kv) ∧ RpD keysD K μ H kvs kv
  | .dlk false kvs => ∃ (od : Obj) (kv : List (L2.Key × V)), H a = some (.frz od (.dK kv)) ∧ RpD keyD K μ H kvs kv
  | .dlk true kvs => ∃ (od : Obj) (kv : List (List L2.Key × V)), H a = some (.frz od (.dT kv)) ∧ RpD keysD K μ H kvs kv
/-- a list of the written part -/
def RpK (K : PySem.W.Frag) (μ : Mu) (H : Hp) (a : Addr) : O → Prop
  | .frz ds => ∃ (vs : List V) (o : Obj) (its : Array Value) (n : Nat), K.lookup a = some o ∧ o.cls = .type "list" ∧ o.dict = none ∧ o.data = .seq its n ∧ its.size ≤ sizeLine ∧ Vals vs its.toList ∧ Rps K μ H ds vs
  | _ => False
def O.fz : O → Bool
  | .frz _ => true
  | _ => false
structure Sto (K : PySem.W.Frag) (F : Nm) (μ : Mu) (st : Store) (H : Hp) : Prop where
  len : μ.length = st.length
  at_ : ∀ (l : Nat) (o : O) (a : Addr), st[l]? = some o → μ[l]? = some (a, false) → RpH K F μ H a o
  atk : ∀ (l : Nat) (o : O) (a : Addr), st[l]? = some o → μ[l]? = some (a, true) → RpK K μ H a o
  inj : ∀ (l m : Nat) (a : Addr), μ[l]? = some (a, false) → μ[m]? = some (a, false) → l = m
/-- may be changed -/
def Mutl : HO → Prop
  | .lst _ => True
  | .ins _ _ _ => True
  | .dK _ => True
  | .dT _ => True
  | _ => False
/-- what a step leaves as it was -/
structure Post (K : PySem.W.Frag) (F : Nm) (μ : Mu) (H : Hp) (st : Store) (μ' : Mu) (H' : Hp) : Prop where
  pre : μ <+: μ'
  frm : ∀ a o, H a = some o → ((a, false) ∉ μ ∨ ¬ Mutl o) → H' a = some o
  new : ∀ a, (a, false) ∈ μ' → (a, false) ∉ μ → H a = none
  sto : Sto K F μ' st H'
structure Sim (K : PySem.W.Frag) (F : Nm) (μ : Mu) (ρ : Env) (st : Store) (σ : St) (H : Hp) : Prop where
  len : ρ.length = σ.length
  env : ∀ (i : Nat) (d : D), ρ[i]? = some (some d) → ∃ v, σ[i]? = some (some v) ∧ Rp K μ H d v
  sto : Sto K F μ st H
section
variable {K : PySem.W.Frag} {F : Nm} {μ μ' μ'' : Mu} {H H' H'' : Hp} {st st' st'' : Store} {ρ : Env} {σ : St}
theorem pre_get {l : Nat} {a : Addr × Bool} (p : μ <+: μ') (h : μ[l]? = some a) : μ'[l]? = some a := by
  obtain ⟨t, rfl⟩ := p
  rw [List.getElem?_append_left (List.getElem?_eq_some_iff.mp h).1]
  exact h
/-- tuples are never in μ, so they stay -/
theorem tup_monoT {a : Addr} {vs : List V} (k : ∀ a xs, H a = some (.tup xs) → H' a = some (.tup xs)) (kf : ∀ a o xs, H a = some (.frz o (.tup xs)) → H' a = some (.frz o (.tup xs))) (h : SqT K H a vs) : SqT K H' a vs := by
  rcases h with (h | ⟨o, h⟩) | h
  · exact .inl (.inl (k _ _ h))
  · exact .inl (.inr ⟨o, kf _ _ _ h⟩)
  · exact .inr h
theorem tup_mono {a : Addr} {vs : List V} (k : ∀ a xs, H a = some (.tup xs) → H' a = some (.tup xs)) (kf : ∀ a o u, H a = some (.frz o u) → H' a = some (.frz o u)) (h : SqT K H a vs) : SqT K H' a vs := tup_monoT k (fun a o xs => kf a o _) h
mutual
theorem Rp.monoT (p : μ <+: μ') (k : ∀ a xs, H a = some (.tup xs) → H' a = some (.tup xs)) (kf : ∀ a o xs, H a = some (.frz o (.tup xs)) → H' a = some (.frz o (.tup xs))) : ∀ {d : D} {v : V}, Rp K μ H d v → Rp K μ' H' d v
  | _, _, .non => .non
  | _, _, .bl b => .bl b
  | _, _, .int i => .int i
  | _, _, .str s => .str s
  | _, _, .tup h r => .tup (k _ _ h) (Rps.monoT p k kf r)
  | _, _, .wt h r => .wt (tup_monoT k kf h) (Rps.monoT p k kf r)
  | _, _, .ref h => .ref (pre_get p h)
theorem Rps.monoT (p : μ <+: μ') (k : ∀ a xs, H a = some (.tup xs) → H' a = some (.tup xs)) (kf : ∀ a o xs, H a = some (.frz o (.tup xs)) → H' a = some (.frz o (.tup xs))) : ∀ {ds : List D} {vs : List V}, Rps K μ H ds vs → Rps K μ' H' ds vs
  | _, _, .nil => .nil
  | _, _, .cons h t => .cons (Rp.monoT p k kf h) (Rps.monoT p k kf t)
end
theorem Rp.mono (p : μ <+: μ') (k : ∀ a xs, H a = some (.tup xs) → H' a = some (.tup xs)) (kf : ∀ a o u, H a = some (.frz o u) → H' a = some (.frz o u)) {d : D} {v : V} (r : Rp K μ H d v) : Rp K μ' H' d v := r.monoT p k fun a o xs => kf a o _
theorem Rps.mono (p : μ <+: μ') (k : ∀ a xs, H a = some (.tup xs) → H' a = some (.tup xs)) (kf : ∀ a o u, H a = some (.frz o u) → H' a = some (.frz o u)) {ds : List D} {vs : List V} (r : Rps K μ H ds vs) : Rps K μ' H' ds vs := r.monoT p k fun a o xs => kf a o _
theorem Rps.length : ∀ {ds : List D} {vs : List V}, Rps K μ H ds vs → ds.length = vs.length
  | _, _, .nil => rfl
  | _, _, .cons _ t => congrArg Nat.succ (Rps.length t)
theorem Rps.get : ∀ {ds : List D} {vs : List V} {i : Nat} {d : D}, Rps K μ H ds vs → ds[i]? = some d → ∃ v, vs[i]? = some v ∧ Rp K μ H d v
  | _, _, _, _, .nil, e => by simp at e
  | _, _, 0, _, .cons h _, e => by simp at e; subst e; exact ⟨_, rfl, h⟩
  | _, _, i + 1, _, .cons _ t, e => by
    obtain ⟨v, h1, h2⟩ := Rps.get (i := i) t (by simpa using e)
    exact ⟨v, by simpa using h1, h2⟩
theorem Rps.append : ∀ {ds es : List D} {vs ws : List V}, Rps K μ H ds vs → Rps K μ H es ws → Rps K μ H (ds ++ es) (vs ++ ws)
  | _, _, _, _, .nil, s => s
  | _, _, _, _, .cons h t, s => .cons h (Rps.append t s)
theorem Rps.take : ∀ {ds : List D} {vs : List V} (n : Nat), Rps K μ H ds vs → Rps K μ H (ds.take n) (vs.take n)
  | _, _, 0, _ => by simp only [List.take_zero]; exact .nil
  | _, _, _ + 1, .nil => .nil
  | _, _, n + 1, .cons h t => .cons h (Rps.take n t)
theorem Rps.drop : ∀ {ds : List D} {vs : List V} (n : Nat), Rps K μ H ds vs → Rps K μ H (ds.drop n) (vs.drop n)
  | _, _, 0, r => r
  | _, _, _ + 1, .nil => .nil
  | _, _, n + 1, .cons _ t => Rps.drop n t
theorem Rps.set {d : D} {v : V} (h : Rp K μ H d v) : ∀ {ds : List D} {vs : List V} (i : Nat), Rps K μ H ds vs → Rps K μ H (ds.set i d) (vs.set i v)
  | _, _, _, .nil => .nil
  | _, _, 0, .cons _ t => .cons h t
  | _, _, i + 1, .cons q t => .cons q (Rps.set h i t)
theorem Rps.rev : ∀ {ds : List D} {vs : List V}, Rps K μ H ds vs → Rps K μ H ds.reverse vs.reverse
  | _, _, .nil => .nil
  | _, _, .cons h t => by rw [List.reverse_cons, List.reverse_cons]; exact (Rps.rev t).append (.cons h .nil)
theorem Rps.flat (k : Nat) {ds : List D} {vs : List V} (r : Rps K μ H ds vs) : Rps K μ H (reps k ds) (List.replicate k vs).flatten := by
  induction k with
  | zero => exact .nil
  | succ k ih =>
    show Rps K μ H (List.replicate (k + 1) ds).flatten _
    rw [List.replicate_succ, List.replicate_succ, List.flatten_cons, List.flatten_cons]
    exact r.append ih
theorem Rps.empty {ds : List D} {vs : List V} (r : Rps K μ H ds vs) : ds.isEmpty = vs.isEmpty := by cases r <;> rfl
theorem Sto.addr (s : Sto K F μ st H) {l : Nat} {o : O} (h : st[l]? = some o) : ∃ a b, μ[l]? = some (a, b) ∧ (RpH K F μ H a o ∨ RpK K μ H a o) := by
  have hl : l < μ.length := by rw [s.len]; exact (List.getElem?_eq_some_iff.mp h).1
  have e : μ[l]? = some μ[l] := by simp [hl]
  cases q : μ[l] with
  | mk a b =>
    rw [q] at e
    refine ⟨a, b, e, ?_⟩
    cases b with
    | false => exact .inl (s.at_ l o a h e)
    | true => exact .inr (s.atk l o a h e)
theorem Post.tups (p : Post K F μ H st μ' H') : ∀ a xs, H a = some (.tup xs) → H' a = some (.tup xs) := fun a xs h => p.frm a _ h (.inr fun z => z)
theorem Post.frzs (p : Post K F μ H st μ' H') : ∀ a o u, H a = some (.frz o u) → H' a = some (.frz o u) := fun a o u h => p.frm a _ h (.inr fun z => z)
theorem Rp.post {d : D} {v : V} (r : Rp K μ H d v) (p : Post K F μ H st μ' H') : Rp K μ' H' d v := r.mono p.pre p.tups p.frzs
theorem Rps.post {d : List D} {v : List V} (r : Rps K μ H d v) (p : Post K F μ H st μ' H') : Rps K μ' H' d v := r.mono p.pre p.tups p.frzs
theorem Post.refl (s : Sto K F μ st H) : Post K F μ H st μ H := ⟨List.prefix_refl _, fun _ _ h _ => h, fun _ h n => absurd h n, s⟩
theorem Post.trans (p : Post K F μ H st' μ' H') (q : Post K F μ' H' st'' μ'' H'') : Post K F μ H st'' μ'' H'' := by
  refine ⟨p.pre.trans q.pre, fun a o h n => q.frm a o (p.frm a o h n) ?_, fun a h n => ?_, q.sto⟩
  · rcases n with n | n
    · refine .inl fun m => ?_
      have z := p.new a m n
      rw [h] at z; cases z
    · exact .inr n
  · cases e : H a with
    | none => rfl
    | some o =>
      have h1 := p.frm a o e (.inl n)
      by_cases m : (a, false) ∈ μ'
      · have := p.new a m n
        rw [e] at this; exact this
      · have := q.new a h m
        rw [h1] at this; cases this
theorem Sim.post (s : Sim K F μ ρ st σ H) (p : Post K F μ H st' μ' H') : Sim K F μ' ρ st' σ H' :=
  ⟨s.len, fun i d e => let ⟨v, h, r⟩ := s.env i d e; ⟨v, h, r.post p⟩, p.sto⟩
def WP {α : Type} (K : PySem.W.Frag) (F : Nm) (μ : Mu) (H : Hp) (r : R α) (Φ : α → Store → Mu → Hp → Prop) : Prop := match r with
  | .ok a s => ∀ μ' H', Post K F μ H s μ' H' → Φ a s μ' H'
  | .no => False
/-- of a value -/
def VQ (K : PySem.W.Frag) (Q : VK) : D → Store → Mu → Hp → Prop := fun d _ μ' H' => ∀ v, Rp K μ' H' d v → Q v H'
theorem WP.bind {α β : Type} {r : R α} {f : α → Store → R β} {Φ : β → Store → Mu → Hp → Prop} (h : WP K F μ H (r.bind f) Φ) : WP K F μ H r fun a s μ1 H1 => WP K F μ1 H1 (f a s) Φ := by
  cases r with
  | no => exact h
  | ok a s =>
    intro μ1 H1 p1
    have h' : WP K F μ H (f a s) Φ := h
    revert h'
    cases f a s with
    | no => exact id
    | ok b t => exact fun h' μ2 H2 p2 => h' μ2 H2 (p1.trans p2)
theorem WP.ok {α : Type} {a : α} {Φ : α → Store → Mu → Hp → Prop} (s : Sto K F μ st H) (h : WP K F μ H (.ok a st) Φ) : Φ a st μ H := h μ H (.refl s)
theorem WP.mono {α : Type} {r : R α} {Φ Ψ : α → Store → Mu → Hp → Prop} (h : WP K F μ H r Φ) (k : ∀ a s μ' H', Post K F μ H s μ' H' → Φ a s μ' H' → Ψ a s μ' H') : WP K F μ H r Ψ := by
  cases r with
  | no => exact h
  | ok a s => exact fun μ' H' p => k a s μ' H' p (h μ' H' p)
theorem WP.grd {α : Type} {b : Bool} {r : R α} {Φ : α → Store → Mu → Hp → Prop} (h : WP K F μ H (R.grd b r) Φ) : b = true ∧ WP K F μ H r Φ := by
  cases b with
  | true => exact ⟨rfl, h⟩
  | false => exact h.elim
theorem RpF.monoT {fs : List (Nat × D)} {fv : List (Str × V)} (p : μ <+: μ') (k : ∀ a xs, H a = some (.tup xs) → H' a = some (.tup xs)) (kf : ∀ a o xs, H a = some (.frz o (.tup xs)) → H' a = some (.frz o (.tup xs))) (r : RpF K F μ H fs fv) : RpF K F μ' H' fs fv :=
  Paired.mapP r fun _ _ h => ⟨h.1, h.2.monoT p k kf⟩
theorem RpD.monoT {κ : Type} {kd : κ → D} {fs : List (D × D)} {fv : List (κ × V)} (p : μ <+: μ') (k : ∀ a xs, H a = some (.tup xs) → H' a = some (.tup xs)) (kf : ∀ a o xs, H a = some (.frz o (.tup xs)) → H' a = some (.frz o (.tup xs))) (r : RpD kd K μ H fs fv) : RpD kd K μ' H' fs fv :=
  Paired.mapP r fun _ _ h => ⟨h.1, h.2.monoT p k kf⟩
theorem RpH.keepT {a : Addr} {o : O} (p : μ <+: μ') (k : ∀ a xs, H a = some (.tup xs) → H' a = some (.tup xs)) (kf : ∀ a o xs, H a = some (.frz o (.tup xs)) → H' a = some (.frz o (.tup xs))) (ha : H' a = H a) (r : RpH K F μ H a o) : RpH K F μ' H' a o := by
  cases o with
  | lst ds => obtain ⟨vs, h, r⟩ := r; exact ⟨vs, ha.trans h, r.monoT p k kf⟩
  | frz ds => obtain ⟨ob, vs, h, r⟩ := r; exact ⟨ob, vs, ha.trans h, r.monoT p k kf⟩
  | ins c fs => obtain ⟨C, dx, fv, hc, h, r⟩ := r; exact ⟨C, dx, fv, hc, ha.trans h, r.monoT p k kf⟩
  | dct t kvs =>
    cases t with
    | false => obtain ⟨kv, h, r⟩ := r; exact ⟨kv, ha.trans h, r.monoT p k kf⟩
    | true => obtain ⟨kv, h, r⟩ := r; exact ⟨kv, ha.trans h, r.monoT p k kf⟩
  | dlk t kvs =>
    cases t with
    | false => obtain ⟨od, kv, h, r⟩ := r; exact ⟨od, kv, ha.trans h, r.monoT p k kf⟩
    | true => obtain ⟨od, kv, h, r⟩ := r; exact ⟨od, kv, ha.trans h, r.monoT p k kf⟩
theorem RpK.keepT {a : Addr} {o : O} (p : μ <+: μ') (k : ∀ a xs, H a = some (.tup xs) → H' a = some (.tup xs)) (kf : ∀ a o xs, H a = some (.frz o (.tup xs)) → H' a = some (.frz o (.tup xs))) (r : RpK K μ H a o) : RpK K μ' H' a o := by
  cases o with
  | frz ds => obtain ⟨vs, o, its, n, h1, h2, h3, h4, h5, h6, r⟩ := r; exact ⟨vs, o, its, n, h1, h2, h3, h4, h5, h6, r.monoT p k kf⟩
  | _ => exact r
theorem RpF.mono {fs : List (Nat × D)} {fv : List (Str × V)} (p : μ <+: μ') (k : ∀ a xs, H a = some (.tup xs) → H' a = some (.tup xs)) (kf : ∀ a o u, H a = some (.frz o u) → H' a = some (.frz o u)) (r : RpF K F μ H fs fv) : RpF K F μ' H' fs fv := r.monoT p k fun a o xs => kf a o _
theorem RpD.mono {κ : Type} {kd : κ → D} {fs : List (D × D)} {fv : List (κ × V)} (p : μ <+: μ') (k : ∀ a xs, H a = some (.tup xs) → H' a = some (.tup xs)) (kf : ∀ a o u, H a = some (.frz o u) → H' a = some (.frz o u)) (r : RpD kd K μ H fs fv) : RpD kd K μ' H' fs fv := r.monoT p k fun a o xs => kf a o _
theorem RpH.keep {a : Addr} {o : O} (p : μ <+: μ') (k : ∀ a xs, H a = some (.tup xs) → H' a = some (.tup xs)) (kf : ∀ a o u, H a = some (.frz o u) → H' a = some (.frz o u)) (ha : H' a = H a) (r : RpH K F μ H a o) : RpH K F μ' H' a o := r.keepT p k (fun a o xs => kf a o _) ha
theorem RpK.keep {a : Addr} {o : O} (p : μ <+: μ') (k : ∀ a xs, H a = some (.tup xs) → H' a = some (.tup xs)) (kf : ∀ a o u, H a = some (.frz o u) → H' a = some (.frz o u)) (r : RpK K μ H a o) : RpK K μ' H' a o := r.keepT p k fun a o xs => kf a o _
theorem RpH.some_ {a : Addr} {o : O} (r : RpH K F μ H a o) : ∃ u, H a = some u := by
  cases o with
  | lst ds => obtain ⟨vs, h, _⟩ := r; exact ⟨_, h⟩
  | frz ds => obtain ⟨ob, vs, h, _⟩ := r; exact ⟨_, h⟩
  | ins c fs => obtain ⟨C, dx, fv, _, h, _⟩ := r; exact ⟨_, h⟩
  | dct t kvs =>
    cases t with
    | false => obtain ⟨kv, h, _⟩ := r; exact ⟨_, h⟩
    | true => obtain ⟨kv, h, _⟩ := r; exact ⟨_, h⟩
  | dlk t kvs =>
    cases t with
    | false => obtain ⟨od, kv, h, _⟩ := r; exact ⟨_, h⟩
    | true => obtain ⟨od, kv, h, _⟩ := r; exact ⟨_, h⟩
theorem RpK.fz {a : Addr} {o : O} (r : RpK K μ H a o) : o.fz = true := by
  cases o with
  | frz ds => rfl
  | _ => exact r.elim
theorem Sto.back (s : Sto K F μ st H) {l : Nat} {o : O} {a : Addr} {b : Bool} (h1 : st[l]? = some o) (h2 : μ[l]? = some (a, b)) (hf : o.fz = false) : RpH K F μ H a o := by
  cases b with
  | false => exact s.at_ l o a h1 h2
  | true =>
    have r := s.atk l o a h1 h2
    rw [r.fz] at hf; cases hf
theorem Sto.flag (s : Sto K F μ st H) {l : Nat} {o : O} {a : Addr} {b : Bool} (h1 : st[l]? = some o) (h2 : μ[l]? = some (a, b)) (hf : o.fz = false) : b = false := by
  cases b with
  | false => rfl
  | true =>
    have r := s.atk l o a h1 h2
    rw [r.fz] at hf; cases hf
/-- a new object at a free address, not of the store -/
theorem Post.fresh {p : Addr} {u : HO} (s : Sto K F μ st H) (hp : H p = none) : Post K F μ H st μ (upd H p u) := by
  have ne : ∀ a o, H a = some o → a ≠ p := fun a o h e => by subst e; rw [hp] at h; cases h
  have kt : ∀ a xs, H a = some (.tup xs) → upd H p u a = some (.tup xs) := fun a xs h => by rw [upd_ne (ne a _ h)]; exact h
  have kf : ∀ a o w, H a = some (.frz o w) → upd H p u a = some (.frz o w) := fun a o w h => by rw [upd_ne (ne a _ h)]; exact h
  refine ⟨List.prefix_refl _, fun a o h _ => by rw [upd_ne (ne a o h)]; exact h, fun a h n => absurd h n, ⟨s.len, fun l o a h1 h2 => ?_, fun l o a h1 h2 => (s.atk l o a h1 h2).keep (List.prefix_refl _) kt kf, s.inj⟩⟩
  have r := s.at_ l o a h1 h2
  obtain ⟨w, hw⟩ := r.some_
  exact r.keep (List.prefix_refl _) kt kf (upd_ne (ne a w hw))
/-- an object of the heap is taken as a new place of the store -/
theorem Post.adopt {p : Addr} {o : O} {st' : Store} {H' : Hp} {μ' : Mu} (P : Post K F μ H st' μ' H') (hp : H p = none) (hn : (p, false) ∉ μ') (r : RpH K F (μ' ++ [(p, false)]) H' p o) : Post K F μ H (st' ++ [o]) (μ' ++ [(p, false)]) H' := by
  have pr : μ' <+: μ' ++ [(p, false)] := List.prefix_append _ _
  have old : ∀ (l : Nat) (q : O) (a : Addr × Bool), st'[l]? = some q → (μ' ++ [(p, false)])[l]? = some a → μ'[l]? = some a := fun l q a h1 h2 => by
    have hl : l < μ'.length := by rw [P.sto.len]; exact (List.getElem?_eq_some_iff.mp h1).1
    rw [List.getElem?_append_left hl] at h2
    exact h2
  have cs : ∀ (l : Nat) (q : O), (st' ++ [o])[l]? = some q → st'[l]? = some q ∨ (l = st'.length ∧ q = o) := fun l q h => by
    by_cases hl : l < st'.length
    · rw [List.getElem?_append_left hl] at h; exact .inl h
    · have hl' := (List.getElem?_eq_some_iff.mp h).1
      rw [List.length_append, List.length_singleton] at hl'
      have e : l = st'.length := by omega
      subst e
      rw [List.getElem?_append_right (Nat.le_refl _)] at h
      exact .inr ⟨rfl, by simpa using h.symm⟩
  have at0 : ∀ (a : Addr × Bool), (μ' ++ [(p, false)])[st'.length]? = some a → a = (p, false) := fun a h => by
    rw [← P.sto.len] at h
    simpa using h.symm
  have cm : ∀ (l : Nat) (a : Addr), (μ' ++ [(p, false)])[l]? = some (a, false) → μ'[l]? = some (a, false) ∨ (l = μ'.length ∧ a = p) := fun l a h => by
    by_cases hl : l < μ'.length
    · rw [List.getElem?_append_left hl] at h; exact .inl h
    · have hl' := (List.getElem?_eq_some_iff.mp h).1
      rw [List.length_append, List.length_singleton] at hl'
      have e : l = μ'.length := by omega
      subst e
      rw [List.getElem?_append_right (Nat.le_refl _)] at h
      exact .inr ⟨rfl, by simpa using h.symm⟩
  refine ⟨P.pre.trans pr, P.frm, fun a h n => ?_, ⟨by simp [P.sto.len], fun l q a h1 h2 => ?_, fun l q a h1 h2 => ?_, fun l m a h1 h2 => ?_⟩⟩
  · rcases List.mem_append.mp h with h | h
    · exact P.new a h n
    · have e := List.mem_singleton.mp h
      cases e; exact hp
  · rcases cs l q h1 with h | ⟨rfl, rfl⟩
    · exact (P.sto.at_ l q a h (old l q _ h h2)).keep pr (fun _ _ h => h) (fun _ _ _ h => h) rfl
    · have e := at0 _ h2
      cases e; exact r
  · rcases cs l q h1 with h | ⟨rfl, rfl⟩
    · exact (P.sto.atk l q a h (old l q _ h h2)).keep pr (fun _ _ h => h) (fun _ _ _ h => h)
    · have e := at0 _ h2
      cases e
  · rcases cm l a h1 with e1 | ⟨k1, k1'⟩ <;> rcases cm m a h2 with e2 | ⟨k2, k2'⟩
    · exact P.sto.inj l m a e1 e2
    · subst k2'
      exact absurd (List.mem_iff_getElem?.mpr ⟨l, e1⟩) hn
    · subst k1'
      exact absurd (List.mem_iff_getElem?.mpr ⟨m, e2⟩) hn
    · omega
theorem Sto.free (s : Sto K F μ st H) {p : Addr} (hp : H p = none) : (p, false) ∉ μ := fun m => by
  obtain ⟨l, e⟩ := List.mem_iff_getElem?.mp m
  have hl : l < st.length := by rw [← s.len]; exact (List.getElem?_eq_some_iff.mp e).1
  obtain ⟨w, hw⟩ := (s.at_ l st[l] p (by simp [hl]) e).some_
  rw [hp] at hw; cases hw
/-- a new object of the store -/
theorem Post.push {p : Addr} {u : HO} {o : O} (s : Sto K F μ st H) (hp : H p = none) (r : RpH K F (μ ++ [(p, false)]) (upd H p u) p o) : Post K F μ H (st ++ [o]) (μ ++ [(p, false)]) (upd H p u) :=
  Post.adopt (Post.fresh (u := u) s hp) hp (s.free hp) r
/-- an object of the store is changed -/
theorem Post.write {l : Nat} {a : Addr} {b : Bool} {u w : HO} {o o' : O} (s : Sto K F μ st H) (h1 : st[l]? = some o) (h2 : μ[l]? = some (a, b)) (hf : o.fz = false) (hw : H a = some w) (mw : Mutl w)
    (r : RpH K F μ (upd H a u) a o') : Post K F μ H (st.set l o') μ (upd H a u) := by
  have hb := s.flag h1 h2 hf
  subst hb
  have hne : ∀ b v, H b = some v → ¬ Mutl v → b ≠ a := fun b v h n e => by subst e; rw [hw] at h; cases h; exact n mw
  have kt : ∀ b xs, H b = some (.tup xs) → upd H a u b = some (.tup xs) := fun b xs h => by rw [upd_ne (hne b _ h fun z => z)]; exact h
  have kf : ∀ b o w, H b = some (.frz o w) → upd H a u b = some (.frz o w) := fun b o w h => by rw [upd_ne (hne b _ h fun z => z)]; exact h
  have am : (a, false) ∈ μ := List.mem_iff_getElem?.mpr ⟨l, h2⟩
  have hl : l < st.length := (List.getElem?_eq_some_iff.mp h1).1
  have cs : ∀ (m : Nat) (q : O), (st.set l o')[m]? = some q → (m = l ∧ q = o') ∨ (m ≠ l ∧ st[m]? = some q) := fun m q h => by
    by_cases e : m = l
    · subst e
      rw [List.getElem?_set_self hl] at h
      exact .inl ⟨rfl, (Option.some.inj h).symm⟩
    · rw [List.getElem?_set_ne (Ne.symm e)] at h
      exact .inr ⟨e, h⟩
  refine ⟨List.prefix_refl _, fun b v h n => ?_, fun b h n => absurd h n, ⟨by rw [List.length_set]; exact s.len, fun m q b e1 e2 => ?_, fun m q b e1 e2 => ?_, s.inj⟩⟩
  · rw [upd_ne]
    · exact h
    · rcases n with n | n
      · exact fun e => n (e ▸ am)
      · exact hne b v h n
  · rcases cs m q e1 with ⟨rfl, rfl⟩ | ⟨ne, e⟩
    · rw [h2] at e2; cases e2
      exact r
    · refine (s.at_ m q b e e2).keep (List.prefix_refl _) kt kf (upd_ne fun hb => ?_)
      subst hb
      exact ne (s.inj m l b e2 h2)
  · rcases cs m q e1 with ⟨rfl, rfl⟩ | ⟨ne, e⟩
    · rw [h2] at e2; cases e2
    · exact (s.atk m q b e e2).keep (List.prefix_refl _) kt kf
/-- the list that a place holds -/
theorem Sto.list (s : Sto K F μ st H) {l : Nat} {a : Addr} {b : Bool} {ds : List D} (h1 : st[l]? = some (.lst ds) ∨ st[l]? = some (.frz ds)) (h2 : μ[l]? = some (a, b)) : ∃ vs, SqL K H a vs ∧ Rps K μ H ds vs := by
  rcases h1 with h1 | h1
  · obtain ⟨vs, h, r⟩ := s.back h1 h2 rfl
    exact ⟨vs, .of h, r⟩
  · cases b with
    | false =>
      obtain ⟨ob, vs, h, r⟩ := s.at_ l _ a h1 h2
      exact ⟨vs, .inl (.inr ⟨ob, h⟩), r⟩
    | true =>
      obtain ⟨vs, o, its, n, q1, q2, q3, q4, q5, q6, r⟩ := s.atk l _ a h1 h2
      exact ⟨vs, .inr ⟨o, its, n, q1, q2, q3, q4, q5, q6⟩, r⟩
/-- a dict is locked -/
theorem Post.lock {l : Nat} {a : Addr} {b : Bool} {w : HO} {od : Obj} {o o' : O} (s : Sto K F μ st H) (h1 : st[l]? = some o) (h2 : μ[l]? = some (a, b)) (hf : o.fz = false) (hw : H a = some w) (mw : Mutl w)
    (r : RpH K F μ (upd H a (.frz od w)) a o') : Post K F μ H (st.set l o') μ (upd H a (.frz od w)) := Post.write s h1 h2 hf hw mw r
/-- .. and unlocked: what stood ahead of the lock counts -/
theorem Post.unlock {l : Nat} {a : Addr} {od : Obj} {u : HO} {s' : Store} {o' o'' : O} (am : (a, false) ∈ μ) (hu : H a = some u) (mu : Mutl u) (nt : ∀ xs, u ≠ .tup xs) (P : Post K F μ (upd H a (.frz od u)) s' μ' H') (h1 : s'[l]? = some o'') (h2 : μ'[l]? = some (a, false))
    (r : RpH K F μ' (upd H' a u) a o') : Post K F μ H (s'.set l o') μ' (upd H' a u) ∧ (∀ d v, Rp K μ' H' d v → Rp K μ' (upd H' a u) d v) := by
  have hz : H' a = some (.frz od u) := P.frm a _ upd_same (.inr fun z => z)
  have kt : ∀ b xs, H' b = some (.tup xs) → upd H' a u b = some (.tup xs) := fun b xs h => by rw [upd_ne (fun e => by subst e; rw [hz] at h; cases h)]; exact h
  have kf : ∀ b o xs, H' b = some (.frz o (.tup xs)) → upd H' a u b = some (.frz o (.tup xs)) := fun b o xs h => by
    rw [upd_ne (fun e => by subst e; rw [hz] at h; injection h with h; injection h with _ h; exact nt _ h)]; exact h
  have hl : l < s'.length := (List.getElem?_eq_some_iff.mp h1).1
  have cs : ∀ (m : Nat) (q : O), (s'.set l o')[m]? = some q → (m = l ∧ q = o') ∨ (m ≠ l ∧ s'[m]? = some q) := fun m q h => by
    by_cases e : m = l
    · subst e
      rw [List.getElem?_set_self hl] at h
      exact .inl ⟨rfl, (Option.some.inj h).symm⟩
    · rw [List.getElem?_set_ne (Ne.symm e)] at h
      exact .inr ⟨e, h⟩
  refine ⟨⟨P.pre, fun b v h n => ?_, fun b h n => ?_, ⟨by rw [List.length_set]; exact P.sto.len, fun m q b e1 e2 => ?_, fun m q b e1 e2 => ?_, P.sto.inj⟩⟩, fun d v q => q.monoT (List.prefix_refl _) kt kf⟩
  · have hb : b ≠ a := fun e => by
      subst e
      rcases n with n | n
      · exact n am
      · rw [hu] at h; cases h; exact n mu
    rw [upd_ne hb]
    exact P.frm b v (by rw [upd_ne hb]; exact h) n
  · have hb : b ≠ a := fun e => by subst e; exact n am
    have := P.new b h n
    rwa [upd_ne hb] at this
  · rcases cs m q e1 with ⟨rfl, rfl⟩ | ⟨ne, e⟩
    · rw [h2] at e2; cases e2
      exact r
    · refine (P.sto.at_ m q b e e2).keepT (List.prefix_refl _) kt kf (upd_ne fun hb => ?_)
      subst hb
      exact ne (P.sto.inj m l b e2 h2)
  · rcases cs m q e1 with ⟨rfl, rfl⟩ | ⟨ne, e⟩
    · rw [h2] at e2; cases e2
    · exact (P.sto.atk m q b e e2).keepT (List.prefix_refl _) kt kf
end
end Nz
namespace Nz
open PySem L2 PyProof.Rows
theorem tuple_mulSame (l : Addr) (items : Array Value) (n : Nat) (dd : Option Addr) (sl : Array (Option Value)) (x : Int) (u : Tok) (c0 : (decide (x < -(2 ^ 63)) || decide (x ≥ 2 ^ 63)) = false) (c1 : (items.isEmpty || x == 1) = true) :
    Meets (Builtin.«tuple.__mul__» ⟨[.ref l, .int x u], []⟩) (fun _ R s => s.heap.get? l = some { cls := .type "tuple", dict := dd, data := .seq items n, slots := sl } ∧ R (.ok (.ret (Value.ref l))) s) :=
  .of_wp fun prog w A R s h => by
    obtain ⟨hp, g, d, tk, os⟩ := s
    obtain ⟨hl, h⟩ := h
    have f1 := AutoSeq1.idx_int
    wp_walk using wpAny_loadPart' hl
    repeat (first
      | (refine wpAny_ite_false (decide_eq_false (by rw [c0]; exact Bool.false_ne_true)) ?_; wp_walk using wpAny_loadPart' hl)
      | (refine wpAny_ite_true (decide_eq_true c1) ?_; wp_walk using wpAny_loadPart' hl))
    exact ⟨_, rfl, h⟩
theorem tuple_mulNone (l : Addr) (items : Array Value) (n : Nat) (dd : Option Addr) (sl : Array (Option Value)) (x : Int) (u : Tok) (c0 : (decide (x < -(2 ^ 63)) || decide (x ≥ 2 ^ 63)) = false) (c1 : (items.isEmpty || x == 1) = false) (c2 : (decide (x ≤ 0) || items.isEmpty) = true) :
    Meets (Builtin.«tuple.__mul__» ⟨[.ref l, .int x u], []⟩) (fun _ R s => s.heap.get? l = some { cls := .type "tuple", dict := dd, data := .seq items n, slots := sl } ∧
      R (.ok (.ret (Value.ref s.heap.objs.size))) { s with heap := s.heap.push { cls := Value.type "tuple", data := Data.seq #[] }, toks := s.toks }) :=
  .of_wp fun prog w A R s h => by
    obtain ⟨hp, g, d, tk, os⟩ := s
    obtain ⟨hl, h⟩ := h
    have f1 := AutoSeq1.idx_int
    wp_walk using wpAny_loadPart' hl
    repeat (first
      | (refine wpAny_ite_false (decide_eq_false (by rw [c0]; exact Bool.false_ne_true)) ?_; wp_walk using wpAny_loadPart' hl)
      | (refine wpAny_ite_false (decide_eq_false (by rw [c1]; exact Bool.false_ne_true)) ?_; wp_walk using wpAny_loadPart' hl)
      | (refine wpAny_ite_true (decide_eq_true c2) ?_; wp_walk using wpAny_loadPart' hl))
    exact ⟨_, rfl, h⟩
def rRepA (K : PySem.W.Frag) : R2 := fun x y H Q => ∃ l k xs, x = .ref l ∧ y = .int k ∧ SqT K H l xs ∧ -9223372036854775808 ≤ k ∧ k < 9223372036854775808 ∧ k.toNat * xs.length ≤ 16777216 ∧ (xs = [] ∨ k = 1 → Q (.ref l) H) ∧ (xs ≠ [] → k ≠ 1 → ∀ p, H p = none → Q (.ref p) (upd H p (.tup (List.replicate k.toNat xs).flatten)))
section
variable {X : Cx}
theorem op_repA : OpR X (binaryOp .Mult) (rRepA X.K) := by
  intro pins s σ H x y v u Q I rx ry h
  obtain ⟨l, k, xs, rfl, rfl, hT, b1, b2, hz, q1, q2⟩ := h
  cases rx
  obtain ⟨t, rfl⟩ := ry
  obtain ⟨its, r, ⟨⟨cls, dd, data, sl⟩, ho, hc, n, hd⟩, hs⟩ := I.tuple hT
  simp only at hc hd
  subst hc hd
  have hle : its.length = xs.length := r.length.symm
  have hsz0 : its.toArray.size = xs.length := by rw [List.size_toArray, hle]
  have c0 : (decide (k < -(2 ^ 63)) || decide (k ≥ 2 ^ 63)) = false := by
    rw [decide_eq_false (show ¬ k < -(2 ^ 63) by omega), decide_eq_false (show ¬ k ≥ 2 ^ 63 by omega)]; rfl
  have he : its.toArray.isEmpty = decide (xs = []) := by
    cases its with
    | nil => rw [decide_eq_true (List.eq_nil_of_length_eq_zero hle.symm)]; rfl
    | cons a b => rw [decide_eq_false (fun e => by rw [e] at hle; cases hle)]; rfl
  by_cases c : xs = [] ∨ k = 1
  · have c1 : (its.toArray.isEmpty || k == 1) = true := by
      rw [he, Bool.or_eq_true]
      rcases c with c | c
      · exact .inl (decide_eq_true c)
      · exact .inr (beq_iff_eq.mpr c)
    exact wpAny_binaryOp_repeat_ref (T := "tuple") (U := "int") (by decide) ⟨_, ho, rfl⟩ (fun s' => typeIs_int s' k t) noFill_tuple_mul F.fills_int_mul F.slot_int_rmul repeat_tuple F.slot_int_index.lookup
      (call_meets F.slot_int_rmul (typeIs_int s k t) F.entry_int_rmul (F.args_int_rmul_2 _ _) (int_rmul_tuple k t l its.toArray n dd sl)
        ⟨ho, rfl, ⟨_, ho, rfl⟩, call_meets F.slot_tuple_mul ⟨_, ho, rfl⟩ F.entry_tuple_mul (F.args_tuple_mul_2 _ _) (tuple_mulSame l its.toArray n dd sl k t c0 c1) ⟨ho, ⟨.ref l, H, I, rfl, q1 c⟩⟩⟩)
  · have n1 : xs ≠ [] := fun e => c (.inl e)
    have n2 : k ≠ 1 := fun e => c (.inr e)
    have q := q2 n1 n2
    have c1 : (its.toArray.isEmpty || k == 1) = false := by
      rw [he, decide_eq_false n1, Bool.false_or]
      exact beq_eq_false_iff_ne.mpr n2
    by_cases d : k ≤ 0
    · have c2 : (decide (k ≤ 0) || its.toArray.isEmpty) = true := by rw [decide_eq_true d]; rfl
      have e0 : k.toNat = 0 := by omega
      rw [e0] at q
      refine wpAny_binaryOp_repeat_ref (T := "tuple") (U := "int") (by decide) ⟨_, ho, rfl⟩ (fun s' => typeIs_int s' k t) noFill_tuple_mul F.fills_int_mul F.slot_int_rmul repeat_tuple F.slot_int_index.lookup
        (call_meets F.slot_int_rmul (typeIs_int s k t) F.entry_int_rmul (F.args_int_rmul_2 _ _) (int_rmul_tuple k t l its.toArray n dd sl)
          ⟨ho, rfl, ⟨_, ho, rfl⟩, call_meets F.slot_tuple_mul ⟨_, ho, rfl⟩ F.entry_tuple_mul (F.args_tuple_mul_2 _ _) (tuple_mulNone l its.toArray n dd sl k t c0 c1 c2) ⟨ho, ?_⟩⟩)
      refine ⟨.ref s.heap.objs.size, _, I.laid (t' := s.toks) (o := .tup []) (fun b ob q => Heap.get?_push_of_some _ q) (Nat.le_refl _) ?_, rfl, q _ (I.hok.fresh (Nat.le_refl _))⟩
      exact ⟨Nat.zero_le _, [], .nil, IsTup.new _ _⟩
    · have c2 : (decide (k ≤ 0) || its.toArray.isEmpty) = false := by
        rw [decide_eq_false d, he, decide_eq_false n1]; rfl
      have hk : (k.toNat : Int) = k := by omega
      have hm : ((its.toArray.size : Nat) : Int) * k ≤ 16777216 := by
        rw [hsz0, ← hk, ← Int.natCast_mul, Nat.mul_comm]
        exact Int.ofNat_le.mpr hz
      have flen : (List.replicate k.toNat its).flatten.length ≤ sizeLine := by
        rw [PyProof.Rows.lm_len_rep_flat, hle, sizeLine_eq]
        exact hz
      have c4 : Builtin.Tuple.tupleTooMany (((its.toArray.size : Nat) : Int) * k) = false := by
        unfold Builtin.Tuple.tupleTooMany
        rw [sizeLine_eq]
        exact decide_eq_false (by omega)
      refine wpAny_binaryOp_repeat_ref (T := "tuple") (U := "int") (by decide) ⟨_, ho, rfl⟩ (fun s' => typeIs_int s' k t) noFill_tuple_mul F.fills_int_mul F.slot_int_rmul repeat_tuple F.slot_int_index.lookup
        (call_meets F.slot_int_rmul (typeIs_int s k t) F.entry_int_rmul (F.args_int_rmul_2 _ _) (int_rmul_tuple k t l its.toArray n dd sl)
          ⟨ho, rfl, ⟨_, ho, rfl⟩, call_meets F.slot_tuple_mul ⟨_, ho, rfl⟩ F.entry_tuple_mul (F.args_tuple_mul_2 _ _) (tuple_mulW l its.toArray n dd sl k t c0 c1 c2 (by omega) c4 (by rw [size_rep, List.size_toArray]; exact flen)) ⟨ho, ?_⟩⟩)
      rw [size_rep]
      refine ⟨.ref s.heap.objs.size, _, I.laid (t' := s.toks) (o := .tup (List.replicate k.toNat xs).flatten) (fun b ob q => Heap.get?_push_of_some _ q) (Nat.le_refl _) ?_, rfl, q _ (I.hok.fresh (Nat.le_refl _))⟩
      exact ⟨by rw [PyProof.Rows.lm_len_rep_flat, sizeLine_eq]; exact hz, _, r.rep k.toNat, IsTup.new _ _⟩
end
end Nz
namespace Nz
open PySem L2 PyProof.Rows
theorem mulOk_ok {i j : Int} (h : mulOk i j = true) : IntMulOk i j := by
  unfold mulOk at h
  rcases Bool.or_eq_true _ _ |>.mp h with h | h
  · have h := of_decide_eq_true h
    exact CMul.ok (i := i) (j := j) h
  · have h := of_decide_eq_true h
    exact CMulW.ok (i := i) (j := j) h
theorem divOk_ok {i j : Int} (h : divOk j = true) : 0 < j ∧ (Builtin.divisionGoesByPylong i j = false) := by
  unfold divOk at h
  simp only [Bool.and_eq_true, Bool.or_eq_true, decide_eq_true_eq] at h
  refine ⟨h.1, ?_⟩
  rcases h.2 with h2 | h2
  · exact PyProof.noPylong_small (by omega)
  · exact PyProof.noPylong_of_log2 h2
theorem shlOk_ok {i j : Int} (h0 : 0 ≤ j) (h1 : j ≤ 1000000) (h2 : i.natAbs.log2 + j.toNat < 100000000) : (Builtin.Int.intBits i : Int) + j ≤ 2 ^ 27 := by
  have b : Builtin.Int.intBits i ≤ i.natAbs.log2 + 1 := by
    unfold Builtin.Int.intBits
    split <;> omega
  have e : (2 : Int) ^ 27 = 134217728 := by decide
  rw [e]; omega
section
variable {prog : Program} {w : World} {A : Around} {E : Value → Shared → Prop} {s : Shared} {Q : Value → Shared → Prop} {i j k : Int} {t u : Tok}
theorem ar_bin {op : Operator} {o : BinO} (ho : trBin op = some o) (hk : arith o i j = some k) (h : Q (.int k s.toks) { s with toks := s.toks + 1 }) : wpAny (model prog w) A (binaryOp op (.int i t) (.int j u)) Q E s := by
  cases op <;> simp only [trBin, Option.some.injEq, reduceCtorEq] at ho <;> subst ho <;> simp only [arith] at hk
  · cases hk; exact add_int h
  · cases hk; exact sub_int h
  · split at hk
    · cases hk; rename_i hm; exact mul_int h (mulOk_ok hm)
    · cases hk
  · split at hk
    · cases hk; exact mod_int' (by omega) (by rw [Int.fmod_eq_emod_of_nonneg i (by omega)]; exact h)
    · split at hk
      · cases hk; exact mod_int' (by omega) h
      · cases hk
  · split at hk
    · cases hk; rename_i hm; exact pow_int_small hm.1 hm.2.1 hm.2.2 h
    · cases hk
  · split at hk
    · cases hk; rename_i hm; exact lshift_int hm.1 (shlOk_ok hm.1 hm.2.1 hm.2.2) h
    · cases hk
  · split at hk
    · cases hk; rename_i hm; exact rshift_int hm (by rw [Int.fdiv_eq_ediv_of_nonneg i (two_pow_nn _)]; exact h)
    · cases hk
  · cases hk; exact or_int h
  · cases hk; exact xor_int h
  · cases hk; exact and_int h
  · split at hk
    · cases hk; rename_i hm
      obtain ⟨h1, h2⟩ := divOk_ok (i := i) hm
      exact floordiv_int (by omega) (by rw [Int.fdiv_eq_ediv_of_nonneg i (by omega)]; exact h) (.inl h2)
    · split at hk
      · cases hk; rename_i hm; exact floordiv_int hm.1 h (.inl (hm.2.elim PyProof.noPylong_small PyProof.noPylong_of_log2))
      · cases hk
theorem ar_in {op : Operator} {o : BinO} (ho : trBin op = some o) (hp : o ≠ .pow) (hk : arith o i j = some k) (h : Q (.int k s.toks) { s with toks := s.toks + 1 }) : wpAny (model prog w) A (inplaceOp op (.int i t) (.int j u)) Q E s := by
  cases op <;> simp only [trBin, Option.some.injEq, reduceCtorEq] at ho <;> subst ho <;> simp only [arith] at hk
  · cases hk; exact iadd_int h
  · cases hk; exact isub_int h
  · split at hk
    · cases hk; rename_i hm; exact imul_int h (mulOk_ok hm)
    · cases hk
  · split at hk
    · cases hk; exact imod_int (by omega) (by rw [Int.fmod_eq_emod_of_nonneg i (by omega)]; exact h)
    · split at hk
      · cases hk; exact imod_int (by omega) h
      · cases hk
  · exact absurd rfl hp
  · split at hk
    · cases hk; rename_i hm; exact ilshift_int hm.1 (shlOk_ok hm.1 hm.2.1 hm.2.2) h
    · cases hk
  · split at hk
    · cases hk; rename_i hm; exact irshift_int hm (by rw [Int.fdiv_eq_ediv_of_nonneg i (two_pow_nn _)]; exact h)
    · cases hk
  · cases hk; exact ior_int h
  · cases hk; exact ixor_int h
  · cases hk; exact iand_int h
  · split at hk
    · cases hk; rename_i hm
      obtain ⟨h1, h2⟩ := divOk_ok (i := i) hm
      exact ifloordiv_int (by omega) (by rw [Int.fdiv_eq_ediv_of_nonneg i (by omega)]; exact h) (.inl h2)
    · split at hk
      · cases hk; rename_i hm; exact ifloordiv_int hm.1 h (.inl (hm.2.elim PyProof.noPylong_small PyProof.noPylong_of_log2))
      · cases hk
end
def rD (K : PySem.W.Frag) (F : Nm) (f : D → D → Store → R D) : R2 := fun x y H Q => ∃ μ st d e, Sto K F μ st H ∧ Rp K μ H d x ∧ Rp K μ H e y ∧ WP K F μ H (f d e st) (VQ K Q)
section
variable {X : Cx} {F : Nm} {μ : Mu} {H : Hp} {st : Store} {ds : List D} {Q : VK}
theorem newL_ok {K : PySem.W.Frag} {vs : List V} (S : Sto K F μ st H) (r : Rps K μ H ds vs) (w : WP K F μ H (newL ds st) (VQ K Q)) : vs.length ≤ sizeLine ∧ ∀ p, H p = none → Q (.ref p) (upd H p (.lst vs)) := by
  obtain ⟨hl, w⟩ := w.grd
  have hl : ds.length ≤ 16777216 := of_decide_eq_true hl
  refine ⟨by rw [← r.length, sizeLine_eq]; exact hl, fun p hp => ?_⟩
  have P := Post.push (u := .lst vs) (o := .lst ds) S hp ⟨vs, upd_same, ?_⟩
  · exact w _ _ P _ (.ref (b := false) (by rw [← S.len]; simp))
  · have P0 := Post.fresh (u := .lst vs) S hp
    exact r.mono (List.prefix_append _ _) P0.tups P0.frzs
theorem newT_ok {K : PySem.W.Frag} {vs : List V} (S : Sto K F μ st H) (r : Rps K μ H ds vs) (w : WP K F μ H (newT ds st) (VQ K Q)) : vs.length ≤ sizeLine ∧ ∀ p, H p = none → Q (.ref p) (upd H p (.tup vs)) := by
  obtain ⟨hl, w⟩ := w.grd
  have hl : ds.length ≤ 16777216 := of_decide_eq_true hl
  refine ⟨by rw [← r.length, sizeLine_eq]; exact hl, fun p hp => ?_⟩
  have P := Post.fresh (u := .tup vs) S hp
  exact w _ _ P _ (.tup upd_same (r.post P))
theorem bin_ok {op : Operator} {o : BinO} (ho : trBin op = some o) : OpR X (binaryOp op) (rD X.K F (binop o)) := by
  intro pins s σ H x y v u Q I rx ry h
  obtain ⟨μ, st, d, e, S, r1, r2, w⟩ := h
  cases r1 with
  | int i =>
    cases r2 with
    | int j =>
      obtain ⟨t, rfl⟩ := rx
      obtain ⟨t', rfl⟩ := ry
      have w : WP X.K F μ H (R.ofI (arith o i j) st) (VQ X.K Q) := w
      cases hk : arith o i j with
      | none => rw [hk] at w; exact w.elim
      | some k =>
        rw [hk] at w
        exact ar_bin ho hk ⟨.int k, H, I.tok _, ⟨_, rfl⟩, w.ok S _ (.int k)⟩
    | _ => exact w.elim
  | @tup ds a vs hs rs =>
    cases r2 with
    | @tup es b ws ht rt =>
      cases o with
      | add =>
        have hop : op = .Add := by cases op <;> simp [trBin] at ho ⊢
        subst hop
        have w : WP X.K F μ H (newT (ds ++ es) st) (VQ X.K Q) := w
        obtain ⟨hz, hq⟩ := newT_ok S (rs.append rt) w
        obtain ⟨hl, w⟩ := w.grd
        refine op_catA pins s σ H _ _ v u Q I rx ry ⟨a, b, vs, ws, rfl, rfl, .of hs, .of ht, by rw [← List.length_append]; exact hz, fun e => ?_, fun _ e => ?_, fun _ _ => hq⟩
        · have e1 : ds = [] := by cases rs with | nil => rfl | cons _ _ => cases e
          exact w.ok S _ (by rw [e1]; exact .tup ht rt)
        · have e1 : es = [] := by cases rt with | nil => rfl | cons _ _ => cases e
          exact w.ok S _ (by rw [e1, List.append_nil]; exact .tup hs rs)
      | _ => exact w.elim
    | int k =>
      cases o with
      | mul =>
        have hop : op = .Mult := by cases op <;> simp [trBin] at ho ⊢
        subst hop
        have w : WP X.K F μ H (R.grd (decide (-9223372036854775808 ≤ k ∧ k < 9223372036854775808)) (newT (reps k.toNat ds) st)) (VQ X.K Q) := w
        obtain ⟨hb, w⟩ := w.grd
        have hb := of_decide_eq_true hb
        obtain ⟨hz, hq⟩ := newT_ok S (rs.flat k.toNat) w
        obtain ⟨_, w⟩ := w.grd
        refine op_repA pins s σ H _ _ v u Q I rx ry ⟨a, k, vs, rfl, rfl, .of hs, hb.1, hb.2, ?_, fun e => ?_, fun _ _ => hq⟩
        · rw [List.length_flatten, List.map_replicate, List.sum_replicate_nat, sizeLine_eq] at hz
          exact hz
        · refine w.ok S _ ?_
          rcases e with e | e
          · have e1 : ds = [] := by cases rs with | nil => rfl | cons _ _ => cases e
            have e2 : reps k.toNat ds = ds := by rw [e1]; simp [reps]
            rw [e2]; exact .tup hs rs
          · have e2 : reps k.toNat ds = ds := by rw [e]; simp [reps]
            rw [e2]; exact .tup hs rs
      | _ => exact w.elim
    | _ => exact w.elim
  | @ref l a _ hl =>
    cases r2 with
    | @ref m b _ hm =>
      have w : WP X.K F μ H (binR o l m st) (VQ X.K Q) := w
      obtain ⟨as, bs, c1, c2, ho', w2⟩ : ∃ as bs, st[l]? = some (.lst as) ∧ st[m]? = some (.lst bs) ∧ o = .add ∧ WP X.K F μ H (newL (as ++ bs) st) (VQ X.K Q) := by
        unfold binR at w
        split at w
        · rename_i c1 c2
          exact ⟨_, _, by assumption, by assumption, rfl, w⟩
        · exact w.elim
      subst ho'
      have hop : op = .Add := by cases op <;> simp [trBin] at ho ⊢
      subst hop
      obtain ⟨vs, h1, q1⟩ := S.back c1 hl rfl
      obtain ⟨ws, h2, q2⟩ := S.back c2 hm rfl
      obtain ⟨hz, hq⟩ := newL_ok S (q1.append q2) w2
      exact op_cat pins s σ H _ _ v u Q I rx ry ⟨a, b, vs, ws, rfl, rfl, h1, h2, by rw [← List.length_append]; exact hz, hq⟩
    | int k =>
      simp only [binop] at w
      split at w
      · rename_i c1
        have hop : op = .Mult := by cases op <;> simp [trBin] at ho ⊢
        subst hop
        obtain ⟨hb, w⟩ := w.grd
        have hb := of_decide_eq_true hb
        obtain ⟨vs, h1, q1⟩ := S.back c1 hl rfl
        obtain ⟨hz, hq⟩ := newL_ok S (q1.flat k.toNat) w
        refine op_rep pins s σ H _ _ v u Q I rx ry ⟨a, k, vs, rfl, rfl, h1, hb.1, hb.2, ?_, hq⟩
        rw [List.length_flatten, List.map_replicate, List.sum_replicate_nat] at hz
        rw [Nat.mul_comm]; exact hz
      · exact w.elim
    | _ => exact w.elim
  | _ => exact w.elim
end
end Nz
namespace Nz
open PySem L2 PyProof.Rows
theorem keyD_inj {a b : L2.Key} (e : keyD a = keyD b) : a = b := by
  cases a <;> cases b <;> simp only [keyD, D.int.injEq, D.str.injEq, reduceCtorEq] at e <;> rw [e]
theorem keysD_inj {a b : List L2.Key} (e : keysD a = keysD b) : a = b := by
  simp only [keysD, D.tup.injEq] at e
  induction a generalizing b with
  | nil => cases b with
    | nil => rfl
    | cons _ _ => simp at e
  | cons x xs ih => cases b with
    | nil => simp at e
    | cons y ys =>
      simp only [List.map_cons, List.cons.injEq] at e
      rw [keyD_inj e.1, ih e.2]
section
variable {κ : Type} [DecidableEq κ] {kd : κ → D} {K : PySem.W.Frag} {F : Nm} {μ : Mu} {H : Hp} {st : Store}
theorem RpD.get (inj : ∀ a b, kd a = kd b → a = b) (k : κ) : ∀ {kvs : List (D × D)} {kv : List (κ × V)}, RpD kd K μ H kvs kv → (dGet kvs (kd k) = none ∧ valV kv k = none) ∨ ∃ d v, dGet kvs (kd k) = some d ∧ valV kv k = some v ∧ Rp K μ H d v
  | _, _, .nil => .inl ⟨rfl, rfl⟩
  | (x, d) :: kvs, (j, v) :: kv, .cons h t => by
    obtain ⟨h1, h2⟩ := h
    simp only at h1 h2
    by_cases c : j = k
    · refine .inr ⟨d, v, ?_, ?_, h2⟩
      · unfold dGet
        rw [List.find?_cons_of_pos (by simp [h1, c])]
        rfl
      · exact valV_pos (p := (j, v)) c
    · have c2 : ¬ x = kd k := fun e => c (inj _ _ (h1.symm.trans e))
      have e1 : dGet ((x, d) :: kvs) (kd k) = dGet kvs (kd k) := by
        unfold dGet
        rw [List.find?_cons_of_neg (by simp [c2])]
      rw [e1, valV_neg (p := (j, v)) c]
      exact RpD.get inj k t
theorem RpD.any (inj : ∀ a b, kd a = kd b → a = b) (k : κ) : ∀ {kvs : List (D × D)} {kv : List (κ × V)}, RpD kd K μ H kvs kv → (kvs.any fun p => decide (p.1 = kd k)) = kv.any fun p => decide (p.1 = k)
  | _, _, .nil => rfl
  | (x, d) :: kvs, (j, v) :: kv, .cons h t => by
    rw [List.any_cons, List.any_cons, RpD.any inj k t]
    have h1 : x = kd j := h.1
    congr 1
    by_cases c : j = k
    · simp [h1, c]
    · have c2 : ¬ x = kd k := fun e => c (inj _ _ (h1.symm.trans e))
      simp [c, c2]
theorem RpD.setv (inj : ∀ a b, kd a = kd b → a = b) (k : κ) {d : D} {v : V} (r : Rp K μ H d v) : ∀ {kvs : List (D × D)} {kv : List (κ × V)}, RpD kd K μ H kvs kv →
    RpD kd K μ H (kvs.map fun p => if p.1 = kd k then (p.1, d) else p) (kv.map fun p => if p.1 = k then (p.1, v) else p)
  | _, _, .nil => .nil
  | (x, e) :: kvs, (j, u) :: kv, .cons h t => by
    have h1 : x = kd j := h.1
    refine .cons ?_ (RpD.setv inj k r t)
    show (if x = kd k then (x, d) else (x, e)).1 = kd (if j = k then (j, v) else (j, u)).1 ∧ Rp K μ H (if x = kd k then (x, d) else (x, e)).2 (if j = k then (j, v) else (j, u)).2
    by_cases c : j = k
    · rw [if_pos (show (x, e).1 = kd k by rw [← c]; exact h1), if_pos (show (j, u).1 = k from c)]
      exact ⟨h1, r⟩
    · rw [if_neg (show ¬ (x, e).1 = kd k from fun e => c (inj _ _ (h1.symm.trans e))), if_neg (show ¬ (j, u).1 = k from c)]
      exact h
theorem RpD.snoc {d : D} {v : V} (k : κ) (r : Rp K μ H d v) : ∀ {kvs : List (D × D)} {kv : List (κ × V)}, RpD kd K μ H kvs kv → RpD kd K μ H (kvs ++ [(kd k, d)]) (kv ++ [(k, v)])
  | _, _, .nil => .cons ⟨rfl, r⟩ .nil
  | _, _, .cons h t => .cons h (RpD.snoc k r t)
theorem RpD.put (inj : ∀ a b, kd a = kd b → a = b) (k : κ) {d : D} {v : V} {kvs : List (D × D)} {kv : List (κ × V)} (q : RpD kd K μ H kvs kv) (r : Rp K μ H d v) : RpD kd K μ H (dPut kvs (kd k) d) (putK kv k v) := by
  unfold dPut putK
  rw [q.any inj k]
  split
  · exact q.setv inj k r
  · exact q.snoc k r
theorem RpD.length {kvs : List (D × D)} {kv : List (κ × V)} (q : RpD kd K μ H kvs kv) : kvs.length = kv.length := Paired.length q
end
section
variable {X : Cx} {K : PySem.W.Frag} {F : Nm} {μ : Mu} {H : Hp} {st : Store}
theorem key0_ok {d : D} {y : V} (r : Rp K μ H d y) (h : d.key0 = true) : ∃ k : L2.Key, d = keyD k ∧ y = kV k := by
  cases r with
  | int i => exact ⟨.inl i, rfl, rfl⟩
  | str s => exact ⟨.inr s, rfl, rfl⟩
  | _ => cases h
theorem keys0_ok : ∀ {ds : List D} {vs : List V}, Rps K μ H ds vs → ds.all D.key0 = true → ∃ ks : List L2.Key, ds = ks.map keyD ∧ vs = ks.map kV
  | _, _, .nil, _ => ⟨[], rfl, rfl⟩
  | _, _, .cons r t, h => by
    simp only [List.all_cons, Bool.and_eq_true] at h
    obtain ⟨k, rfl, rfl⟩ := key0_ok r h.1
    obtain ⟨ks, rfl, rfl⟩ := keys0_ok t h.2
    exact ⟨k :: ks, rfl, rfl⟩
/-- a dict's place -/
theorem dctOf_ok {x : D} {v : V} {t : Bool} {kvs : List (D × D)} (S : Sto K F μ st H) (r : Rp K μ H x v) (h : dctOf x st = some (t, kvs)) : ∃ (l : Nat) (a : Addr), x = .ref l ∧ v = .ref a ∧ μ[l]? = some (a, false) ∧ st[l]? = some (.dct t kvs) ∧ RpH K F μ H a (.dct t kvs) := by
  cases r with
  | @ref l a b hl =>
    have hd : st[l]? = some (.dct t kvs) := by
      unfold dctOf at h
      simp only at h
      split at h
      · cases h; assumption
      · cases h
    have hb := S.flag hd hl rfl
    subst hb
    exact ⟨l, a, rfl, rfl, hl, hd, S.at_ l _ a hd hl⟩
  | _ => cases h
/-- what a dict has at a key -/
theorem dget_ok {a : Addr} {t : Bool} {kvs : List (D × D)} {k : D} {y : V} (R : RpH K F μ H a (.dct t kvs)) (r : Rp K μ H k y) (h : k.keyOk t = true) :
    (dGet kvs k = none ∧ DGet H a y none) ∨ ∃ d v, dGet kvs k = some d ∧ DGet H a y (some v) ∧ Rp K μ H d v := by
  cases t with
  | false =>
    obtain ⟨kv, h1, q⟩ := R
    obtain ⟨k, rfl, rfl⟩ := key0_ok r h
    have g := DGet.k (k := k) h1
    rcases q.get (fun _ _ => keyD_inj) k with ⟨e1, e2⟩ | ⟨d, v, e1, e2, e3⟩
    · rw [e2] at g; exact .inl ⟨e1, g⟩
    · rw [e2] at g; exact .inr ⟨d, v, e1, g, e3⟩
  | true =>
    obtain ⟨kv, h1, q⟩ := R
    cases r with
    | @tup ds b vs hb rs =>
      obtain ⟨ks, rfl, rfl⟩ := keys0_ok rs h
      have g := DGet.t (k := ks) h1 hb
      rcases q.get (fun _ _ => keysD_inj) ks with ⟨e1, e2⟩ | ⟨d, v, e1, e2, e3⟩
      · rw [e2] at g; exact .inl ⟨e1, g⟩
      · rw [e2] at g; exact .inr ⟨d, v, e1, g, e3⟩
    | _ => cases h
/-- d[k] = z -/
theorem dput_ok {l : Nat} {a : Addr} {t : Bool} {kvs : List (D × D)} {k d : D} {y z : V} (S : Sto K F μ st H) (hl : μ[l]? = some (a, false)) (hd : st[l]? = some (.dct t kvs)) (r : Rp K μ H k y) (rz : Rp K μ H d z) (h : k.keyOk t = true) (hz : kvs.length < 16777216) :
    ∃ H', DPut H a y z H' ∧ Post K F μ H (st.set l (.dct t (dPut kvs k d))) μ H' := by
  have R := S.at_ l _ a hd hl
  have no : ∀ u : HO, Mutl u → H a = some u → ∀ w, (∀ b xs, H b = some (.tup xs) → upd H a w b = some (.tup xs)) ∧ (∀ b o v, H b = some (.frz o v) → upd H a w b = some (.frz o v)) := fun u m e w =>
    ⟨fun b xs q => by rw [upd_ne (fun z => by subst z; rw [e] at q; cases q; exact m)]; exact q, fun b o v q => by rw [upd_ne (fun z => by subst z; rw [e] at q; cases q; exact m)]; exact q⟩
  cases t with
  | false =>
    obtain ⟨kv, h1, q⟩ := R
    obtain ⟨k, rfl, rfl⟩ := key0_ok r h
    refine ⟨_, DPut.k h1 (by rw [← q.length, sizeLine_eq]; exact hz), ?_⟩
    obtain ⟨kt, kf⟩ := no (.dK kv) True.intro h1 (.dK (putK kv k z))
    exact Post.write (o := .dct false kvs) S hd hl rfl h1 True.intro ⟨_, upd_same, (q.put (fun _ _ => keyD_inj) k rz).mono (List.prefix_refl _) kt kf⟩
  | true =>
    obtain ⟨kv, h1, q⟩ := R
    cases r with
    | @tup ds b vs hb rs =>
      obtain ⟨ks, rfl, rfl⟩ := keys0_ok rs h
      refine ⟨_, .inr ⟨kv, ks, b, h1, rfl, hb, by rw [← q.length, sizeLine_eq]; exact hz, rfl⟩, ?_⟩
      obtain ⟨kt, kf⟩ := no (.dT kv) True.intro h1 (.dT (putK kv ks z))
      exact Post.write (o := .dct true kvs) S hd hl rfl h1 True.intro ⟨_, upd_same, (q.put (fun _ _ => keysD_inj) ks rz).mono (List.prefix_refl _) kt kf⟩
    | _ => cases h
/-- d[k], by values -/
theorem ix_dct (hu : X.A.units + 64 < cLine) : IxR X (fun x y H Q => ∃ a v, x = .ref a ∧ DGet H a y (some v) ∧ Q v H) := by
  intro value slice pins s σ H x y v u Q I rx ry h hs
  obtain ⟨a, w, rfl, g, q⟩ := h
  cases rx
  have hT := dict_typeIs I g
  unfold subscriptTail
  refine wpAny_bind ?_
  rw [getitemInPython_of_ne hT.not_modules]
  refine wpAny_bind (wpAny_specialOf hT PySem.F.slot_dict_getitem.lookup ?_)
  have fin : wpAny (model X.prog X.w) X.A (subscripted slice false (.ref a) u) (fun r s₃ => wpAny (model X.prog X.w) X.A (letTemporaryGo value (.ref a) r >>= fun _ => pure r) (EP X pins σ Q) X.xe s₃) X.xe s := by
    rw [hs]
    refine wpAny_operating (wpAny_mono (d_getItem (Q := EP X pins σ Q) (by omega) I g ry fun w' s3 I3 rw' => ⟨w, H, I3, rw', q⟩) (fun r s₃ h₃ => wpAny_bind (wpAny_letTemporaryGo (wpAny_pure h₃))) fun _ _ x => x)
  first
    | exact wpAny_pure (wpAny_bind fin)
    | exact wpAny_bind (wpAny_pure (wpAny_bind fin))
    | exact wpAny_bind fin
end
end Nz
namespace Nz
open PySem L2 PyProof.Rows
section
variable {K : PySem.W.Frag} {F : Nm} {μ : Mu} {H : Hp} {st : Store}
mutual
theorem toP_ok {lk : Nat → Option PyData} (hk : ∀ (l : Nat) (a : Addr) (b : Bool) (p : PyData), μ[l]? = some (a, b) → lk l = some p → Dp K H (.ref a) p) : ∀ {d : D} {v : V} {p : PyData}, Rp K μ H d v → toP lk d = some p → Dp K H v p
  | _, _, _, .non, e => by simp only [toP, Option.some.injEq] at e; subst e; exact .non
  | _, _, _, .bl b, e => by simp only [toP, Option.some.injEq] at e; subst e; exact .bl b
  | _, _, _, .int b, e => by simp only [toP, Option.some.injEq] at e; subst e; exact .int b
  | _, _, _, .str b, e => by simp only [toP, Option.some.injEq] at e; subst e; exact .str b
  | _, _, _, .ref h, e => hk _ _ _ _ h (by simpa only [toP] using e)
  | .tup ds, _, _, .tup h r, e => by
    simp only [toP] at e
    cases q : toPs lk ds with
    | none => rw [q] at e; cases e
    | some ps =>
      rw [q] at e
      simp only [Option.map_some, Option.some.injEq] at e
      subst e
      exact .tup (.of h) (toPs_ok hk r q)
  | .wt ds, _, _, .wt h r, e => by
    simp only [toP] at e
    cases q : toPs lk ds with
    | none => rw [q] at e; cases e
    | some ps =>
      rw [q] at e
      simp only [Option.map_some, Option.some.injEq] at e
      subst e
      exact .tup h (toPs_ok hk r q)
theorem toPs_ok {lk : Nat → Option PyData} (hk : ∀ (l : Nat) (a : Addr) (b : Bool) (p : PyData), μ[l]? = some (a, b) → lk l = some p → Dp K H (.ref a) p) : ∀ {ds : List D} {vs : List V} {ps : List PyData}, Rps K μ H ds vs → toPs lk ds = some ps → DpAll K H vs ps
  | _, _, _, .nil, e => by simp only [toPs, Option.some.injEq] at e; subst e; exact .nil
  | d :: ds, _, _, .cons h t, e => by
    simp only [toPs] at e
    cases q : toP lk d with
    | none => rw [q] at e; cases e
    | some p =>
      rw [q] at e
      cases q' : toPs lk ds with
      | none => rw [q'] at e; cases e
      | some ps =>
        rw [q'] at e
        simp only [Option.some.injEq] at e
        subst e
        exact .cons (toP_ok hk h q) (toPs_ok hk t q')
end
theorem lookP_ok (S : Sto K F μ st H) : ∀ (n l : Nat) (a : Addr) (b : Bool) (p : PyData), μ[l]? = some (a, b) → lookP st n l = some p → Dp K H (.ref a) p
  | 0, _, _, _, _, _, e => by simp only [lookP, reduceCtorEq] at e
  | n + 1, l, a, b, p, h, e => by
    obtain ⟨ds, hd, e⟩ : ∃ ds, (st[l]? = some (.lst ds) ∨ st[l]? = some (.frz ds)) ∧ (toPs (lookP st n) ds).map .list = some p := by
      simp only [lookP] at e
      split at e
      · exact ⟨_, .inl (by assumption), e⟩
      · exact ⟨_, .inr (by assumption), e⟩
      · cases e
    obtain ⟨vs, h1, r⟩ := S.list hd h
    cases q : toPs (lookP st n) ds with
    | none => rw [q] at e; cases e
    | some ps =>
      rw [q] at e
      simp only [Option.map_some, Option.some.injEq] at e
      subst e
      exact .lst h1 (toPs_ok (fun l a b p h e => lookP_ok S n l a b p h e) r q)
/-- what == answers -/
theorem eqP_ok {x y : D} {v u : V} {b : Bool} (S : Sto K F μ st H) (rx : Rp K μ H x v) (ry : Rp K μ H y u) (e : eqP x y st = some b) :
    ∃ p q, Dp K H v p ∧ Dp K H u q ∧ SeqAt.shaped p = true ∧ SeqAt.shaped q = true ∧ PyData.eqv p q = b := by
  unfold eqP at e
  cases h1 : toP (lookP st 8) x with
  | none => rw [h1] at e; cases e
  | some p =>
    cases h2 : toP (lookP st 8) y with
    | none => rw [h1, h2] at e; cases e
    | some q =>
      rw [h1, h2] at e
      simp only at e
      split at e
      · rename_i hs
        rw [Bool.and_eq_true] at hs
        exact ⟨p, q, toP_ok (fun l a b p h e => lookP_ok S 8 l a b p h e) rx h1, toP_ok (fun l a b p h e => lookP_ok S 8 l a b p h e) ry h2, hs.1, hs.2, Option.some.inj e⟩
      · cases e
theorem eqD_ok {x y : D} {v u : V} {b : Bool} (S : Sto K F μ st H) (rx : Rp K μ H x v) (ry : Rp K μ H y u) (e : eqD x y st = some b) :
    (scal v u = true ∧ decide (v = u) = b) ∨ ∃ p q, Dp K H v p ∧ Dp K H u q ∧ SeqAt.shaped p = true ∧ SeqAt.shaped q = true ∧ PyData.eqv p q = b := by
  by_cases h : eqP x y st = some b
  · exact .inr (eqP_ok S rx ry h)
  · refine .inl ?_
    cases rx <;> cases ry <;> simp only [eqD, Option.some.injEq] at e <;> first
      | exact absurd e h
      | (subst e; exact ⟨rfl, by simp⟩)
      | (subst e; exact ⟨rfl, by rfl⟩)
end
section
variable {X : Cx} {F : Nm}
theorem eq_ok (hu : X.A.units + 64 < cLine) : OpR X (compareOp .Eq) (rD X.K F (cmpop .eq)) := by
  intro pins s σ H x y v u Q I rx ry h
  obtain ⟨μ, st, d, e, S, r1, r2, w⟩ := h
  have w : WP X.K F μ H (R.ofB (eqD d e st) st) (VQ X.K Q) := w
  cases hk : eqD d e st with
  | none => rw [hk] at w; exact w.elim
  | some b =>
    rw [hk] at w
    have q : Q (.bl b) H := w.ok S _ (.bl b)
    rcases eqD_ok S r1 r2 hk with ⟨h1, h2⟩ | ⟨p, p', h1, h2, h3, h4, h5⟩
    · exact op_eq pins s σ H x y v u Q I rx ry ⟨h1, by rw [h2]; exact q⟩
    · exact op_eqD hu pins s σ H x y v u Q I rx ry ⟨p, p', h1, h2, h3, h4, by rw [h5]; exact q⟩
theorem ne_ok (hu : X.A.units + 64 < cLine) : OpR X (compareOp .NotEq) (rD X.K F (cmpop .ne)) := by
  intro pins s σ H x y v u Q I rx ry h
  obtain ⟨μ, st, d, e, S, r1, r2, w⟩ := h
  have w : WP X.K F μ H (R.ofB ((eqD d e st).map not) st) (VQ X.K Q) := w
  cases hk : eqD d e st with
  | none => rw [hk] at w; exact w.elim
  | some b =>
    rw [hk] at w
    have q : Q (.bl (!b)) H := w.ok S _ (.bl (!b))
    rcases eqD_ok S r1 r2 hk with ⟨h1, h2⟩ | ⟨p, p', h1, h2, h3, h4, h5⟩
    · exact op_ne pins s σ H x y v u Q I rx ry ⟨h1, by rw [h2]; exact q⟩
    · exact op_neD hu pins s σ H x y v u Q I rx ry ⟨p, p', h1, h2, h3, h4, by rw [h5]; exact q⟩
theorem flat_ok {K : PySem.W.Frag} {μ : Mu} {H : Hp} {d : D} {v : V} (r : Rp K μ H d v) (h : d.flat = true) : flatV v = true := by cases r <;> first | rfl | cases h
theorem flats_ok {K : PySem.W.Frag} {μ : Mu} {H : Hp} : ∀ {ds : List D} {vs : List V}, Rps K μ H ds vs → ds.all D.flat = true → vs.all flatV = true
  | _, _, .nil, _ => rfl
  | _, _, .cons r t, h => by
    simp only [List.all_cons, Bool.and_eq_true] at h ⊢
    exact ⟨flat_ok r h.1, flats_ok t h.2⟩
theorem eqF_ok {K : PySem.W.Frag} {μ : Mu} {H : Hp} {d e : D} {v u : V} (r : Rp K μ H d v) (r' : Rp K μ H e u) (h : d.flat = true) (h' : e.flat = true) : eqV v u = D.eqF d e := by
  cases r <;> cases r' <;> first
    | (cases h; done)
    | (cases h'; done)
    | rfl
    | (simp [eqV, D.eqF, D.beq]; done)
    | (simp only [eqV, D.eqF, D.beq]; rw [Bool.eq_iff_iff]; simp; done)
theorem inV_ok {K : PySem.W.Frag} {μ : Mu} {H : Hp} {d : D} {v : V} (r : Rp K μ H d v) (h : d.flat = true) : ∀ {ds : List D} {vs : List V}, Rps K μ H ds vs → ds.all D.flat = true → inV v vs = ds.any fun e => D.eqF e d
  | _, _, .nil, _ => rfl
  | _, _, .cons r' t, h' => by
    simp only [List.all_cons, Bool.and_eq_true] at h'
    have ih := inV_ok r h t h'.2
    unfold inV at ih ⊢
    rw [List.any_cons, List.any_cons, ih, eqF_ok r' r h'.1 h]
theorem seqOf_ok {K : PySem.W.Frag} {F : Nm} {μ : Mu} {H : Hp} {st : Store} {x : D} {v : V} {ds : List D} (S : Sto K F μ st H) (r : Rp K μ H x v) (h : seqOf x st = some ds) : ∃ a vs, v = .ref a ∧ (SqL K H a vs ∨ SqT K H a vs) ∧ Rps K μ H ds vs := by
  cases r with
  | tup h1 rs =>
    simp only [seqOf, Option.some.injEq] at h
    subst h
    exact ⟨_, _, rfl, .inr (.of h1), rs⟩
  | @ref l a _ h1 =>
    obtain hd : st[l]? = some (.lst ds) ∨ st[l]? = some (.frz ds) := by
      simp only [seqOf] at h
      split at h
      · cases h; exact .inl (by assumption)
      · cases h; exact .inr (by assumption)
      · cases h
    obtain ⟨vs, h2, rs⟩ := S.list hd h1
    exact ⟨_, _, rfl, .inl h2, rs⟩
  | _ => cases h
theorem seqW_ok {K : PySem.W.Frag} {F : Nm} {μ : Mu} {H : Hp} {st : Store} {x : D} {v : V} {ds : List D} (S : Sto K F μ st H) (r : Rp K μ H x v) (h : seqW x st = some ds) : ∃ a vs, v = .ref a ∧ (SqL K H a vs ∨ SqT K H a vs) ∧ Rps K μ H ds vs := by
  cases r with
  | wt h1 rs =>
    simp only [seqW, Option.some.injEq] at h
    subst h
    exact ⟨_, _, rfl, .inr h1, rs⟩
  | tup h1 rs => exact seqOf_ok S (.tup h1 rs) h
  | ref h1 => exact seqOf_ok S (Rp.ref (K := K) (H := H) h1) h
  | _ => cases h
theorem isIn_ok {K : PySem.W.Frag} {F : Nm} {μ : Mu} {H : Hp} {st : Store} {x y : D} {v u : V} {b : Bool} (S : Sto K F μ st H) (rx : Rp K μ H x v) (ry : Rp K μ H y u) (hd : dctOf y st = none) (e : isIn x y st = some b) :
    (∃ p xs, u = .ref p ∧ (SqL K H p xs ∨ SqT K H p xs) ∧ flatV v = true ∧ xs.all flatV = true ∧ inV v xs = b) ∨
    (∃ p q ds, Dp K H v p ∧ Dp K H u q ∧ (q = .tuple ds ∨ q = .list ds) ∧ SeqAt.shaped p = true ∧ SeqAt.shaped q = true ∧ p.depth ≤ 8 ∧ (ds.any fun z => PyData.eqv z p) = b) := by
  unfold isIn at e
  rw [hd] at e
  simp only at e
  cases h : seqW y st with
  | none => rw [h] at e; cases e
  | some ds =>
    rw [h] at e
    simp only at e
    split at e
    · rename_i hf
      rw [Bool.and_eq_true] at hf
      obtain ⟨a, vs, e1, e2, rs⟩ := seqW_ok S ry h
      exact .inl ⟨a, vs, e1, e2, flat_ok rx hf.1, flats_ok rs hf.2, (inV_ok rx hf.1 rs hf.2).trans (Option.some.inj e)⟩
    · right
      have lk := fun l a b p h e => lookP_ok S 8 l a b p h e
      unfold inP at e
      split at e
      · rename_i d qs h1 h2
        split at e
        · rename_i hc
          simp only [Bool.and_eq_true, decide_eq_true_eq] at hc
          exact ⟨d, _, qs, toP_ok lk rx h1, toP_ok lk ry h2, .inl rfl, hc.1, hc.2.1, hc.2.2, Option.some.inj e⟩
        · cases e
      · rename_i d qs h1 h2
        split at e
        · rename_i hc
          simp only [Bool.and_eq_true, decide_eq_true_eq] at hc
          exact ⟨d, _, qs, toP_ok lk rx h1, toP_ok lk ry h2, .inr rfl, hc.1, hc.2.1, hc.2.2, Option.some.inj e⟩
        · cases e
      · cases e
theorem isInD_ok {K : PySem.W.Frag} {F : Nm} {μ : Mu} {H : Hp} {st : Store} {x y : D} {v u : V} {b t : Bool} {kvs : List (D × D)} (S : Sto K F μ st H) (rx : Rp K μ H x v) (ry : Rp K μ H y u) (hd : dctOf y st = some (t, kvs)) (e : isIn x y st = some b) :
    ∃ a o, u = .ref a ∧ DGet H a v o ∧ o.isSome = b := by
  unfold isIn at e
  rw [hd] at e
  simp only at e
  split at e
  · rename_i hk
    obtain ⟨l, a, rfl, rfl, h1, h2, h3⟩ := dctOf_ok S ry hd
    rcases dget_ok h3 rx hk with ⟨e1, g⟩ | ⟨d, w, e1, g, _⟩
    · rw [e1] at e; cases e; exact ⟨a, none, rfl, g, rfl⟩
    · rw [e1] at e; cases e; exact ⟨a, some w, rfl, g, rfl⟩
  · cases e
theorem intsOf_ok {K : PySem.W.Frag} {μ : Mu} {H : Hp} : ∀ {ds : List D} {vs : List V} {ns : List Int}, Rps K μ H ds vs → intsOf ds = some ns → vs = ns.map V.int
  | _, _, _, .nil, e => by simp only [intsOf, Option.some.injEq] at e; subst e; rfl
  | d :: ds, _, _, .cons h t, e => by
    cases h <;> simp only [intsOf, reduceCtorEq] at e
    rename_i i
    cases q : intsOf ds with
    | none => rw [q] at e; cases e
    | some is =>
      rw [q] at e
      simp only [Option.some.injEq] at e
      subst e
      rw [intsOf_ok t q]; rfl
theorem lexAt_gtI : ∀ (ns ms : List Int) (e r : Nat → Bool) (k : Nat), (∀ j, e (k + j) = decide (ns.getD j 0 = ms.getD j 0)) → (∀ j, r (k + j) = decide (ms.getD j 0 < ns.getD j 0)) → Ob.lexAt e r (decide (ns.length > ms.length)) k (min ns.length ms.length) = gtI ns ms
  | [], ms, e, r, k, _, _ => by simp [gtI, Ob.lexAt_zero]
  | n :: ns, [], e, r, k, _, _ => by simp [gtI, Ob.lexAt_zero]
  | n :: ns, m :: ms, e, r, k, he, hr => by
    have e0 := he 0
    have r0 := hr 0
    simp only [Nat.add_zero, List.getD_cons_zero] at e0 r0
    have ih := lexAt_gtI ns ms e r (k + 1) (fun j => by have := he (j + 1); rw [show k + (j + 1) = k + 1 + j by omega] at this; simpa using this) (fun j => by have := hr (j + 1); rw [show k + (j + 1) = k + 1 + j by omega] at this; simpa using this)
    rw [show min (n :: ns).length (m :: ms).length = min ns.length ms.length + 1 by simp only [List.length_cons]; omega, Ob.lexAt_succ, e0, r0]
    rw [show decide ((n :: ns).length > (m :: ms).length) = decide (ns.length > ms.length) from decide_eq_decide.mpr (by simp only [List.length_cons]; omega), ih]
    have g : gtI (n :: ns) (m :: ms) = if n = m then gtI ns ms else decide (m < n) := by rw [gtI]
    rw [g]
    by_cases q : n = m
    · rw [decide_eq_true q, if_pos rfl, if_pos q]
    · rw [decide_eq_false q, if_neg Bool.false_ne_true, if_neg q]
def rGtT (K : PySem.W.Frag) : R2 := fun x y H Q => ∃ (a b : Addr) (ns ms : List Int), x = .ref a ∧ y = .ref b ∧ SqT K H a (ns.map V.int) ∧ SqT K H b (ms.map V.int) ∧ Q (.bl (gtI ns ms)) H
theorem op_gtT {X : Cx} (hu : X.A.units < cLine) : OpR X (compareOp .Gt) (rGtT X.K) := by
  intro pins s σ H x y v u Q I rx ry h
  obtain ⟨a, b, ns, ms, rfl, rfl, ha, hb, q⟩ := h
  cases rx
  cases ry
  obtain ⟨its, r1, p1, _⟩ := I.tuple ha
  obtain ⟨its2, r2, p2, _⟩ := I.tuple hb
  have i1 : IntsAre its ns := Vals.ints r1
  have i2 : IntsAre its2 ms := Vals.ints r2
  have e1 : its.toArray.size = ns.length := by rw [List.size_toArray]; exact i1.length
  have e2 : its2.toArray.size = ms.length := by rw [List.size_toArray]; exact i2.length
  have at1 : ∀ j (h1 : j < its.toArray.size), ∃ t, its.toArray[j] = .int (ns.getD j 0) t := fun j h1 => PyProof.Rows.IntsAre.int_at i1 _ _ (by simp at h1; simp [h1])
  have at2 : ∀ j (h1 : j < its2.toArray.size), ∃ t, its2.toArray[j] = .int (ms.getD j 0) t := fun j h1 => PyProof.Rows.IntsAre.int_at i2 _ _ (by simp at h1; simp [h1])
  have R := Ob.RcOp.tuples_gt (A := X.A) (s := s) (e := fun j => decide (ns.getD j 0 = ms.getD j 0)) (r := fun j => decide (ms.getD j 0 < ns.getD j 0)) p1 p2 hu (fun j h1 h2 => by
    obtain ⟨t, et⟩ := at1 j h1
    obtain ⟨t', et'⟩ := at2 j h2
    rw [et, et']
    have z : (ns.getD j 0 == ms.getD j 0) = decide (ns.getD j 0 = ms.getD j 0) := by
      by_cases q : ns.getD j 0 = ms.getD j 0
      · rw [decide_eq_true q]; exact beq_iff_eq.mpr q
      · rw [decide_eq_false q]; exact beq_eq_false_iff_ne.mpr q
    rw [← z]
    exact SeqAt.EqAt.int_int _ _ _ _) (fun j h1 h2 _ => by
    obtain ⟨t, et⟩ := at1 j h1
    obtain ⟨t', et'⟩ := at2 j h2
    rw [et, et']
    exact Ob.RcOp.gt_int _ _ _ _)
  rw [e1, e2, lexAt_gtI ns ms _ _ 0 (fun j => by simp) (fun j => by simp)] at R
  have z : wpAny (model X.prog X.w) X.A (compareOp .Gt (.ref a) (.ref b)) (EP X pins σ Q) X.xe s := R X.prog X.w X.xe (EP X pins σ Q) ⟨.bl _, H, I, rfl, q⟩
  exact z
theorem cmp_ok (hu : X.A.units + 64 < cLine) (op : CmpOp) : OpR X (compareOp op) (rD X.K F (cmpop (trCmp op))) := by
  cases op with
  | Eq => exact eq_ok hu
  | NotEq => exact ne_ok hu
  | Is =>
    intro pins s σ H x y v u Q I rx ry h
    obtain ⟨μ, st, d, e, S, r1, r2, w⟩ := h
    cases r2 with
    | non =>
      have w : WP X.K F μ H (.ok (.bl (decide (d = .non))) st) (VQ X.K Q) := w
      refine op_isN pins s σ H x _ v u Q I rx ry ⟨rfl, ?_⟩
      have q := w.ok S _ (.bl _)
      cases r1 <;> exact q
    | bl b =>
      cases r1 with
      | bl a => exact op_isBl pins s σ H _ _ v u Q I rx ry ⟨a, b, rfl, rfl, WP.ok S (show WP X.K F μ H (.ok (.bl (decide (a = b))) st) (VQ X.K Q) from w) _ (.bl _)⟩
      | _ => exact w.elim
    | _ => exact w.elim
  | IsNot =>
    intro pins s σ H x y v u Q I rx ry h
    obtain ⟨μ, st, d, e, S, r1, r2, w⟩ := h
    cases r2 with
    | non =>
      have w : WP X.K F μ H (.ok (.bl (!decide (d = .non))) st) (VQ X.K Q) := w
      refine op_notN pins s σ H x _ v u Q I rx ry ⟨rfl, ?_⟩
      have q := w.ok S _ (.bl _)
      cases r1 <;> exact q
    | bl b =>
      cases r1 with
      | bl a => exact op_notBl pins s σ H _ _ v u Q I rx ry ⟨a, b, rfl, rfl, WP.ok S (show WP X.K F μ H (.ok (.bl (!decide (a = b))) st) (VQ X.K Q) from w) _ (.bl _)⟩
      | _ => exact w.elim
    | _ => exact w.elim
  | In =>
    intro pins s σ H x y v u Q I rx ry h
    obtain ⟨μ, st, d, e, S, r1, r2, w⟩ := h
    have w : WP X.K F μ H (R.ofB (isIn d e st) st) (VQ X.K Q) := w
    cases hk : isIn d e st with
    | none => rw [hk] at w; exact w.elim
    | some b =>
      rw [hk] at w
      have q : Q (.bl b) H := w.ok S _ (.bl b)
      cases hdc : dctOf e st with
      | some tk =>
        obtain ⟨a, o', rfl, g, ho⟩ := isInD_ok S r1 r2 hdc hk
        cases ry
        exact d_in (by omega) I g rx fun s' I' => ⟨.bl b, H, I', by rw [ho]; rfl, q⟩
      | none =>
      rcases isIn_ok S r1 r2 hdc hk with ⟨p, xs, e1, e2, e3, e4, e5⟩ | ⟨p, z, ds, hp, hz, hq, s1, s2, hdp, hb⟩
      · exact op_in_seq pins s σ H x y v u Q I rx ry ⟨p, xs, e1, e2, e3, e4, by rw [if_neg Bool.false_ne_true, e5]; exact q⟩
      · obtain ⟨as, t1⟩ := Dp.reads I p x v hp rx
        obtain ⟨bs, t2⟩ := Dp.reads I z y u hz ry
        subst hb
        rcases hq with rfl | rfl
        · exact SeqAt.in_tuple_reads t2 t1 (SeqAt.canLay_of_shaped s2) (SeqAt.canLay_of_shaped s1) (by show X.A.units + 1 + _ < cLine; omega) ⟨.bl _, H, I, rfl, q⟩
        · exact SeqAt.in_list_reads t2 t1 (SeqAt.canLay_of_shaped s2) (SeqAt.canLay_of_shaped s1) (by show X.A.units + 1 + _ < cLine; omega) ⟨.bl _, H, I, rfl, q⟩
  | NotIn =>
    intro pins s σ H x y v u Q I rx ry h
    obtain ⟨μ, st, d, e, S, r1, r2, w⟩ := h
    have w : WP X.K F μ H (R.ofB ((isIn d e st).map not) st) (VQ X.K Q) := w
    cases hk : isIn d e st with
    | none => rw [hk] at w; exact w.elim
    | some b =>
      rw [hk] at w
      have q : Q (.bl (!b)) H := w.ok S _ (.bl (!b))
      cases hdc : dctOf e st with
      | some tk =>
        obtain ⟨a, o', rfl, g, ho⟩ := isInD_ok S r1 r2 hdc hk
        cases ry
        exact d_notIn (by omega) I g rx fun s' I' => ⟨.bl (!b), H, I', by rw [ho]; rfl, q⟩
      | none =>
      rcases isIn_ok S r1 r2 hdc hk with ⟨p, xs, e1, e2, e3, e4, e5⟩ | ⟨p, z, ds, hp, hz, hq, s1, s2, hdp, hb⟩
      · exact op_notIn_seq pins s σ H x y v u Q I rx ry ⟨p, xs, e1, e2, e3, e4, by rw [if_pos rfl, e5]; exact q⟩
      · obtain ⟨as, t1⟩ := Dp.reads I p x v hp rx
        obtain ⟨bs, t2⟩ := Dp.reads I z y u hz ry
        subst hb
        rcases hq with rfl | rfl
        · exact SeqAt.notIn_tuple_reads t2 t1 (SeqAt.canLay_of_shaped s2) (SeqAt.canLay_of_shaped s1) (by show X.A.units + 1 + _ < cLine; omega) ⟨.bl _, H, I, rfl, q⟩
        · exact SeqAt.notIn_list_reads t2 t1 (SeqAt.canLay_of_shaped s2) (SeqAt.canLay_of_shaped s1) (by show X.A.units + 1 + _ < cLine; omega) ⟨.bl _, H, I, rfl, q⟩
  | Lt =>
    intro pins s σ H x y v u Q I rx ry h
    obtain ⟨μ, st, d, e, S, r1, r2, w⟩ := h
    cases r1 <;> cases r2 <;> first | exact w.elim | exact op_lt pins s σ H _ _ v u Q I rx ry ⟨_, _, rfl, rfl, WP.ok S w _ (.bl _)⟩
  | LtE =>
    intro pins s σ H x y v u Q I rx ry h
    obtain ⟨μ, st, d, e, S, r1, r2, w⟩ := h
    cases r1 <;> cases r2 <;> first | exact w.elim | exact op_le pins s σ H _ _ v u Q I rx ry ⟨_, _, rfl, rfl, WP.ok S w _ (.bl _)⟩
  | Gt =>
    intro pins s σ H x y v u Q I rx ry h
    obtain ⟨μ, st, d, e, S, r1, r2, w⟩ := h
    cases r1 with
    | int i =>
      cases r2 with
      | int j => exact op_gt pins s σ H _ _ v u Q I rx ry ⟨_, _, rfl, rfl, WP.ok S w _ (.bl _)⟩
      | _ => exact w.elim
    | @tup as a vs h1 t1 =>
      cases r2 with
      | @tup bs b us h2 t2 =>
        have w : WP X.K F μ H (R.ofB (gtT as bs) st) (VQ X.K Q) := w
        cases k1 : intsOf as with
        | none => unfold gtT at w; rw [k1] at w; exact w.elim
        | some is =>
          cases k2 : intsOf bs with
          | none => unfold gtT at w; rw [k1, k2] at w; exact w.elim
          | some js =>
            have kk : gtT as bs = some (gtI is js) := by unfold gtT; rw [k1, k2]
            rw [kk] at w
            have q : Q (.bl (gtI is js)) H := w.ok S _ (.bl _)
            have z1 := intsOf_ok t1 k1
            have z2 := intsOf_ok t2 k2
            subst z1 z2
            exact op_gtT (by omega) pins s σ H _ _ v u Q I rx ry ⟨a, b, is, js, rfl, rfl, .of h1, .of h2, q⟩
      | _ => exact w.elim
    | _ => cases r2 <;> exact w.elim
  | GtE =>
    intro pins s σ H x y v u Q I rx ry h
    obtain ⟨μ, st, d, e, S, r1, r2, w⟩ := h
    cases r1 <;> cases r2 <;> first | exact w.elim | exact op_ge pins s σ H _ _ v u Q I rx ry ⟨_, _, rfl, rfl, WP.ok S w _ (.bl _)⟩
end
end Nz
namespace Nz
open PySem L2 PyProof.Rows
section
variable {X : Cx} {F : Nm}
theorem getAt_ok {K : PySem.W.Frag} {μ : Mu} {H : Hp} {ds : List D} {vs : List V} {i : Int} {d : D} (r : Rps K μ H ds vs) (h : getAt ds i = some d) : ∃ v, atI vs i = some v ∧ Rp K μ H d v := by
  unfold getAt at h
  have e : place ds.length i = ixN vs.length i := by rw [r.length]; rfl
  rw [e] at h
  unfold atI
  cases hj : ixN vs.length i with
  | none => rw [hj] at h; cases h
  | some j =>
    rw [hj] at h
    exact r.get h
theorem index_ok (hu : X.A.units + 64 < cLine) : IxR X (rD X.K F index) := by
  intro value slice pins s σ H x y v u Q I rx ry h hs
  obtain ⟨μ, st, d, e, S, r1, r2, w⟩ := h
  unfold index at w
  cases hdc : dctOf d st with
  | some tk =>
    obtain ⟨t, kvs⟩ := tk
    obtain ⟨l, a, rfl, rfl, h1, h2, h3⟩ := dctOf_ok S r1 hdc
    rw [hdc] at w
    obtain ⟨hk, w⟩ := WP.grd w
    rcases dget_ok h3 r2 hk with ⟨e1, g⟩ | ⟨z, zv, e1, g, rz⟩
    · rw [e1] at w; exact w.elim
    · rw [e1] at w
      exact ix_dct hu value slice pins s σ H _ _ v u Q I rx ry ⟨a, zv, rfl, g, w.ok S _ rz⟩ hs
  | none =>
  rw [hdc] at w
  cases r2 with
  | int i =>
    have w : WP X.K F μ H (match seqW d st with
      | some ds => (match getAt ds i with
        | some d => .ok d st
        | none => .no)
      | none => .no) (VQ X.K Q) := w
    cases h1 : seqW d st with
    | none => rw [h1] at w; exact w.elim
    | some ds =>
      rw [h1] at w
      obtain ⟨a, vs, rfl, hq, rs⟩ := seqW_ok S r1 h1
      cases h2 : getAt ds i with
      | none => simp only [h2] at w; exact w.elim
      | some z =>
        simp only [h2] at w
        obtain ⟨zv, e1, rz⟩ := getAt_ok rs h2
        have q := w.ok S _ rz
        rcases hq with hq | hq
        · exact ix_list value slice pins s σ H _ _ v u Q I rx ry ⟨a, vs, i, zv, rfl, rfl, hq, e1, q⟩ hs
        · exact ix_tup value slice pins s σ H _ _ v u Q I rx ry ⟨a, vs, i, zv, rfl, rfl, hq, e1, q⟩ hs
  | _ => exact w.elim
theorem cut_ok {K : PySem.W.Frag} {μ : Mu} {H : Hp} {ds : List D} {vs : List V} (r : Rps K μ H ds vs) (lo hi : Option Int) : Rps K μ H (cut ds lo hi) (cutV vs lo hi) := by
  unfold cut cutV
  rw [r.length]
  exact (r.drop _).take _
def rSlD (K : PySem.W.Frag) (F : Nm) : V → Option Int → Option Int → Hp → VK → Prop := fun x lo hi H Q => ∃ μ st d, Sto K F μ st H ∧ Rp K μ H d x ∧ WP K F μ H (slice d lo hi st) (VQ K Q)
theorem slice_ok : SlR X (rSlD X.K F) := by
  intro pins s σ H x v vl vu lo hi sl Q I rx hs pl pu h
  obtain ⟨μ, st, d, S, r, w⟩ := h
  cases r with
  | @tup ds a vs h1 rs =>
    have w : WP X.K F μ H (.ok (.tup (cut ds lo hi)) st) (VQ X.K Q) := w
    refine sl_tupA pins s σ H _ v vl vu lo hi sl Q I rx hs pl pu ⟨a, vs, rfl, .of h1, fun hw => ?_, fun hw p hp => ?_⟩
    · have hw' : bnd ds.length 0 lo = 0 ∧ bnd ds.length ds.length hi = ds.length := by
        rw [rs.length]; exact hw
      have e : cut ds lo hi = ds := by
        unfold cut
        rw [hw'.1, hw'.2]; simp
      rw [e] at w
      exact w.ok S _ (.tup h1 rs)
    · have P := Post.fresh (u := .tup (cutV vs lo hi)) S hp
      exact w _ _ P _ (.tup upd_same ((cut_ok rs lo hi).post P))
  | @ref l a _ hl =>
    obtain ⟨ds, hd, w2⟩ : ∃ ds, (st[l]? = some (.lst ds) ∨ st[l]? = some (.frz ds)) ∧ WP X.K F μ H (newL (cut ds lo hi) st) (VQ X.K Q) := by
      simp only [slice] at w
      split at w
      · exact ⟨_, .inl (by assumption), w⟩
      · exact ⟨_, .inr (by assumption), w⟩
      · exact w.elim
    obtain ⟨vs, h1, rs⟩ := S.list hd hl
    exact sl_list pins s σ H _ v vl vu lo hi sl Q I rx hs pl pu ⟨a, vs, rfl, h1, (newL_ok S (cut_ok rs lo hi) w2).2⟩
  | @wt ds a vs h1 rs =>
    simp only [slice] at w
    refine sl_tupA pins s σ H _ v vl vu lo hi sl Q I rx hs pl pu ⟨a, vs, rfl, h1, fun hw => ?_, fun hw p hp => ?_⟩
    · have hw' : bnd ds.length 0 lo = 0 ∧ bnd ds.length ds.length hi = ds.length := by
        rw [rs.length]; exact hw
      rw [if_pos hw'] at w
      exact w.ok S _ (.wt h1 rs)
    · have hw' : ¬ (bnd ds.length 0 lo = 0 ∧ bnd ds.length ds.length hi = ds.length) := by
        rw [rs.length]; exact hw
      rw [if_neg hw'] at w
      have P := Post.fresh (u := .tup (cutV vs lo hi)) S hp
      exact w _ _ P _ (.tup upd_same ((cut_ok rs lo hi).post P))
  | _ => exact w.elim
theorem tru_ok' {K : PySem.W.Frag} {μ : Mu} {H : Hp} {st : Store} {d : D} {v : V} {b : Bool} (S : Sto K F μ st H) (r : Rp K μ H d v) (h : tru d st = some b) : TruV K v H b := by
  cases r with
  | non => simp only [tru, Option.some.injEq] at h; exact h.symm
  | bl b' => simp only [tru, Option.some.injEq] at h; exact h.symm
  | int i => simp only [tru, Option.some.injEq] at h; exact h.symm
  | str s => cases h
  | @tup ds a vs h1 rs =>
    simp only [tru, Option.some.injEq] at h
    exact .inr (.inl ⟨vs, .of h1, by rw [← h, rs.empty]⟩)
  | @wt ds a vs h1 rs =>
    simp only [tru, Option.some.injEq] at h
    exact .inr (.inl ⟨vs, h1, by rw [← h, rs.empty]⟩)
  | @ref l a _ hl =>
    obtain ⟨ds, hd, e⟩ : ∃ ds, (st[l]? = some (.lst ds) ∨ st[l]? = some (.frz ds)) ∧ (!ds.isEmpty) = b := by
      simp only [tru] at h
      split at h
      · exact ⟨_, .inl (by assumption), Option.some.inj h⟩
      · exact ⟨_, .inr (by assumption), Option.some.inj h⟩
      · cases h
    obtain ⟨vs, h1, rs⟩ := S.list hd hl
    exact .inl ⟨vs, h1, by rw [← e, rs.empty]⟩
def rB (K : PySem.W.Frag) (F : Nm) (f : List D → Store → R D) : List V → Hp → VK → Prop := fun xs H Q => ∃ μ st ds, Sto K F μ st H ∧ Rps K μ H ds xs ∧ WP K F μ H (f ds st) (VQ K Q)
theorem b1_ok {K : PySem.W.Frag} {μ : Mu} {H : Hp} {st : Store} {f : D → Store → R D} {ds : List D} {vs : List V} {Q : VK} (r : Rps K μ H ds vs) (w : WP K F μ H (b1 f ds st) (VQ K Q)) : ∃ d v, vs = [v] ∧ Rp K μ H d v ∧ WP K F μ H (f d st) (VQ K Q) := by
  cases r with
  | nil => exact w.elim
  | cons h t =>
    cases t with
    | nil => exact ⟨_, _, rfl, h, w⟩
    | cons _ _ => exact w.elim
theorem len_ok : CallR X (.builtin "len") (rB X.K F (b1 biLen)) := by
  intro pins s σ H xs us Q I r h
  obtain ⟨μ, st, ds, S, rs, w⟩ := h
  obtain ⟨d, v, rfl, rd, w⟩ := b1_ok rs w
  unfold biLen at w
  cases h1 : seqW d st with
  | none => rw [h1] at w; exact w.elim
  | some es =>
    rw [h1] at w
    obtain ⟨a, vs, rfl, hq, re⟩ := seqW_ok S rd h1
    have q := w.ok S _ (.int _)
    rw [re.length] at q
    rcases hq with hq | hq
    · exact call_len pins s σ H _ us Q I r ⟨_, vs.length, rfl, .inl ⟨vs, hq, rfl⟩, q⟩
    · exact call_len pins s σ H _ us Q I r ⟨_, vs.length, rfl, .inr ⟨vs, hq, rfl⟩, q⟩
theorem abs_ok : CallR X (.builtin "abs") (rB X.K F (b1 biAbs)) := by
  intro pins s σ H xs us Q I r h
  obtain ⟨μ, st, ds, S, rs, w⟩ := h
  obtain ⟨d, v, rfl, rd, w⟩ := b1_ok rs w
  cases rd <;> first
    | exact w.elim
    | exact call_abs pins s σ H _ us Q I r ⟨_, rfl, w.ok S _ (.int _)⟩
theorem int_ok : CallR X (.type "int") (rB X.K F (b1 biInt)) := by
  intro pins s σ H xs us Q I r h
  obtain ⟨μ, st, ds, S, rs, w⟩ := h
  obtain ⟨d, v, rfl, rd, w⟩ := b1_ok rs w
  cases rd with
  | int i => exact call_int1 pins s σ H _ us Q I r (.inl ⟨_, rfl, w.ok S _ (.int _)⟩)
  | bl b => exact call_int1 pins s σ H _ us Q I r (.inr ⟨_, rfl, w.ok S _ (.int _)⟩)
  | _ => exact w.elim
theorem RpD.keys {K : PySem.W.Frag} {μ : Mu} {H : Hp} : ∀ {kvs : List (D × D)} {kv : List (L2.Key × V)}, RpD keyD K μ H kvs kv → Rps K μ H (kvs.map (·.1)) (kv.map fun p => L2.kV p.1)
  | _, _, .nil => .nil
  | _, _, .cons (a := a) (b := b) h t => by
    refine .cons ?_ (RpD.keys t)
    show Rp K μ H a.1 (L2.kV b.1)
    rw [h.1]
    cases b.1 with
    | inl i => exact .int i
    | inr x => exact .str x
theorem mkd_ok : CallR X (.type "dict") (rB X.K F (b1 biMkd)) := by
  intro pins s σ H xs us Q I r h
  obtain ⟨μ, st, ds, S, rs, w⟩ := h
  obtain ⟨d, v, rfl, rd, w⟩ := b1_ok rs w
  unfold biMkd at w
  split at w
  · rename_i kvs hd
    obtain ⟨l, a, rfl, rfl, hl, hs, kv, h, q⟩ := dctOf_ok S rd hd
    refine call_dictD pins s σ H _ us Q I r ⟨a, kv, rfl, .of h, fun p hp => ?_⟩
    have kt : ∀ b xs, H b = some (.tup xs) → upd H p (.dK kv) b = some (.tup xs) := fun b xs e => by
      rw [upd_ne (fun z => by subst z; rw [hp] at e; cases e)]; exact e
    have kf : ∀ b o w, H b = some (.frz o w) → upd H p (.dK kv) b = some (.frz o w) := fun b o w e => by
      rw [upd_ne (fun z => by subst z; rw [hp] at e; cases e)]; exact e
    have P := Post.push (u := .dK kv) (o := .dct false kvs) S hp ⟨kv, upd_same, q.mono (List.prefix_append _ _) kt kf⟩
    exact w _ _ P _ (.ref (b := false) (by rw [← S.len]; simp))
  · exact w.elim
theorem mkl_ok (hc : X.calm = true) : CallR X (.type "list") (rB X.K F (b1 biMkl)) := by
  intro pins s σ H xs us Q I r h
  obtain ⟨μ, st, ds, S, rs, w⟩ := h
  obtain ⟨d, v, rfl, rd, w⟩ := b1_ok rs w
  unfold biMkl at w
  cases h1 : seqOf d st with
  | none =>
    rw [h1] at w
    simp only at w
    split at w
    · rename_i kvs hd
      obtain ⟨l, a, rfl, rfl, hl, hs, kv, h, q⟩ := dctOf_ok S rd hd
      exact call_list_dK hc pins s σ H _ us Q I r ⟨a, kv, rfl, h, (newL_ok S q.keys w).2⟩
    · exact w.elim
  | some es =>
    rw [h1] at w
    obtain ⟨a, vs, rfl, hq, re⟩ := seqOf_ok S rd h1
    exact call_list_of pins s σ H _ us Q I r ⟨a, vs, rfl, hq, (newL_ok S re w).2⟩
theorem mkt_ok : CallR X (.type "tuple") (rB X.K F (b1 biMkt)) := by
  intro pins s σ H xs us Q I r h
  obtain ⟨μ, st, ds, S, rs, w⟩ := h
  obtain ⟨d, v, rfl, rd, w⟩ := b1_ok rs w
  cases rd with
  | @wt es a vs hq re => exact call_tuple_of pins s σ H _ us Q I r ⟨a, vs, rfl, .inr ⟨hq, WP.ok S (show WP X.K F μ H (.ok (.wt es) st) (VQ X.K Q) from w) _ (.wt hq re)⟩⟩
  | @tup es a vs hq re =>
    have w : WP X.K F μ H (newT es st) (VQ X.K Q) := w
    exact call_tuple_of pins s σ H _ us Q I r ⟨a, vs, rfl, .inr ⟨.of hq, (w.grd.2).ok S _ (.tup hq re)⟩⟩
  | @ref l a b hl =>
    have w : WP X.K F μ H (match seqOf (.ref l) st with
      | some ds => newT ds st
      | none => .no) (VQ X.K Q) := w
    cases h1 : seqOf (.ref l) st with
    | none => rw [h1] at w; exact w.elim
    | some es =>
      rw [h1] at w
      have hd : st[l]? = some (.lst es) ∨ st[l]? = some (.frz es) := by
        simp only [seqOf] at h1
        split at h1
        · cases h1; exact .inl (by assumption)
        · cases h1; exact .inr (by assumption)
        · cases h1
      obtain ⟨vs, hq, re⟩ := S.list hd hl
      exact call_tuple_of pins s σ H _ us Q I r ⟨a, vs, rfl, .inl ⟨hq, (newT_ok S re w).2⟩⟩
  | _ => exact w.elim
theorem boolsOf_ok {K : PySem.W.Frag} {μ : Mu} {H : Hp} : ∀ {ds : List D} {vs : List V} {ns : List Bool}, Rps K μ H ds vs → boolsOf ds = some ns → vs = ns.map V.bl
  | _, _, _, .nil, e => by simp only [boolsOf, Option.some.injEq] at e; subst e; rfl
  | d :: ds, _, _, .cons h t, e => by
    cases h <;> simp only [boolsOf, reduceCtorEq] at e
    rename_i i
    cases q : boolsOf ds with
    | none => rw [q] at e; cases e
    | some is =>
      rw [q] at e
      simp only [Option.some.injEq] at e
      subst e
      rw [boolsOf_ok t q]; rfl
theorem lstOf_ok {K : PySem.W.Frag} {μ : Mu} {H : Hp} {st : Store} {x : D} {v : V} {ds : List D} (S : Sto K F μ st H) (r : Rp K μ H x v) (h : lstOf x st = some ds) : ∃ a vs, v = .ref a ∧ SqL K H a vs ∧ Rps K μ H ds vs := by
  cases r with
  | @ref l a _ h1 =>
    obtain hd : st[l]? = some (.lst ds) ∨ st[l]? = some (.frz ds) := by
      simp only [lstOf] at h
      split at h
      · cases h; exact .inl (by assumption)
      · cases h; exact .inr (by assumption)
      · cases h
    obtain ⟨vs, h2, rs⟩ := S.list hd h1
    exact ⟨_, _, rfl, h2, rs⟩
  | _ => cases h
theorem sum_ok (hc : X.calm = true) : CallR X (.builtin "sum") (rB X.K F (b1 biSum)) := by
  intro pins s σ H xs us Q I r h
  obtain ⟨μ, st, ds, S, rs, w⟩ := h
  obtain ⟨d, v, rfl, rd, w⟩ := b1_ok rs w
  unfold biSum at w
  cases h1 : lstOf d st with
  | none => rw [h1] at w; exact w.elim
  | some es =>
    rw [h1] at w
    obtain ⟨a, vs, rfl, hq, re⟩ := lstOf_ok S rd h1
    cases h2 : intsOf es with
    | none => simp only [h2] at w; exact w.elim
    | some ns =>
      simp only [h2] at w
      have e := intsOf_ok re h2
      subst e
      exact cr_sum hc pins s σ H _ us Q I r ⟨a, ns, rfl, hq, w.ok S _ (.int _)⟩
theorem max1_ok (hc : X.calm = true) : CallR X (.builtin "max") (rB X.K F (b1 biMax1)) := by
  intro pins s σ H xs us Q I r h
  obtain ⟨μ, st, ds, S, rs, w⟩ := h
  obtain ⟨d, v, rfl, rd, w⟩ := b1_ok rs w
  unfold biMax1 at w
  cases h1 : lstOf d st with
  | none => rw [h1] at w; exact w.elim
  | some es =>
    rw [h1] at w
    obtain ⟨a, vs, rfl, hq, re⟩ := lstOf_ok S rd h1
    cases h2 : intsOf es with
    | none => simp only [h2] at w; exact w.elim
    | some ns =>
      simp only [h2] at w
      cases h3 : ns.max? with
      | none => simp only [h3] at w; exact w.elim
      | some k =>
        simp only [h3] at w
        have e := intsOf_ok re h2
        subst e
        obtain ⟨k1, k2⟩ := List.max?_eq_some_iff.mp h3
        refine cr_max hc pins s σ H _ us Q I r ⟨a, ns, rfl, hq, List.length_pos_of_mem k1, fun m m1 m2 => ?_⟩
        have : m = k := Int.le_antisymm (k2 m m1) (m2 k k1)
        subst this
        exact w.ok S _ (.int _)
theorem minOf_fold : ∀ (xs : List Int) (x : Int), PySem.W.minOf x xs = xs.foldl min x
  | [], _ => rfl
  | y :: ys, x => by
    have e : (if PySem.W.DatumOrd.lt y x = true then y else x) = min x y := by
      show (if decide (y < x) = true then y else x) = min x y
      by_cases h : y < x
      · rw [if_pos (decide_eq_true h)]; omega
      · rw [if_neg (by simpa using h)]; omega
    have := minOf_fold ys (min x y)
    unfold PySem.W.minOf at this ⊢
    rw [List.foldl_cons, List.foldl_cons, e, this]
theorem min1_ok (hu : X.A.units + 64 < cLine) (hc : X.calm = true) : CallR X (.builtin "min") (rB X.K F (b1 biMin1)) := by
  intro pins s σ H xs us Q I r h
  obtain ⟨μ, st, ds, S, rs, w⟩ := h
  obtain ⟨d, v, rfl, rd, w⟩ := b1_ok rs w
  unfold biMin1 at w
  cases h1 : tlOf d st with
  | none => rw [h1] at w; exact w.elim
  | some es =>
    rw [h1] at w
    cases h2 : intsOf es with
    | none => simp only [h2] at w; exact w.elim
    | some ns =>
      simp only [h2] at w
      cases h3 : ns.min? with
      | none => simp only [h3] at w; exact w.elim
      | some k =>
        simp only [h3] at w
        by_cases ht : ∃ ts, d = .tup ts
        · obtain ⟨ts, rfl⟩ := ht
          have e0 : ts = es := by unfold tlOf at h1; exact Option.some.inj h1
          subst e0
          cases rd with
          | @tup _ a vs g1 g2 =>
            have e := intsOf_ok g2 h2
            subst e
            obtain ⟨its, r1, p1, _⟩ := I.tuple (.of g1)
            have i1 : IntsAre its ns := Vals.ints r1
            rw [Vals.ref1 r]
            cases ns with
            | nil => cases h3
            | cons x xs =>
              rw [List.min?_cons', Option.some.injEq] at h3
              refine PySem.W.min_tuple_datum (α := Int) (x := x) (xs := xs) (I.ok.hd hc) p1 (PySem.W.HoldAll.of_ints i1) ?_ fun i v h' tk hi Hv hk => ?_
              · have : PySem.W.Datum.depth Int ≤ 1 := by decide
                omega
              · rw [minOf_fold] at Hv
                have hv := PySem.W.HoldAll.toInts (PySem.W.HoldAll.cons Hv PySem.W.HoldAll.nil)
                cases hv with
                | cons n t _ =>
                  refine ⟨.int _, H, I.kept hk, ⟨_, rfl⟩, ?_⟩
                  have e9 : xs.foldl min x = k := h3
                  rw [e9]
                  exact w.ok S _ (.int _)
        · have h1 : lstOf d st = some es := by
            cases d <;> first | exact h1 | exact absurd ⟨_, rfl⟩ ht
          obtain ⟨a, vs, rfl, hq, re⟩ := lstOf_ok S rd h1
          have e := intsOf_ok re h2
          subst e
          obtain ⟨k1, k2⟩ := List.min?_eq_some_iff.mp h3
          refine cr_min hc pins s σ H _ us Q I r ⟨a, ns, rfl, hq, List.length_pos_of_mem k1, fun m m1 m2 => ?_⟩
          have : m = k := Int.le_antisymm (m2 k k1) (k2 m m1)
          subst this
          exact w.ok S _ (.int _)
theorem sortI_perm {is : List Int} : (sortI is).Perm is := List.mergeSort_perm ..
theorem sortI_sorted {is : List Int} : (sortI is).Pairwise (· ≤ ·) := by
  have := List.pairwise_mergeSort (le := fun a b : Int => decide (a ≤ b)) (by intro a b c; simp; omega) (by intro a b; simp; omega) is
  exact this.imp (by intro a b h; simpa using h)
theorem leP_anti {a b : Int × Int} (h1 : leP a b = true) (h2 : leP b a = true) : a = b := by
  unfold leP at h1 h2
  have h1 := of_decide_eq_true h1
  have h2 := of_decide_eq_true h2
  obtain ⟨a1, a2⟩ := a
  obtain ⟨b1, b2⟩ := b
  simp only at h1 h2
  have e1 : a1 = b1 := by omega
  have e2 : a2 = b2 := by omega
  rw [e1, e2]
theorem sortP_perm {ps : List (Int × Int)} : (sortP ps).Perm ps := List.mergeSort_perm ..
theorem sortP_sorted {ps : List (Int × Int)} : (sortP ps).Pairwise fun a b => leP a b = true := by
  refine List.pairwise_mergeSort (le := leP) (fun a b c h1 h2 => ?_) (fun a b => ?_) ps
  · unfold leP at *
    have h1 := of_decide_eq_true h1
    have h2 := of_decide_eq_true h2
    exact decide_eq_true (by omega)
  · unfold leP
    rw [Bool.or_eq_true, decide_eq_true_eq, decide_eq_true_eq]
    omega
/-- the ints of a pair -/
def keyP (H : Hp) (v : V) : Int × Int := match v with
  | .ref t => (match H t with
    | some (.tup [.int a, .int b]) => (a, b)
    | _ => (0, 0))
  | _ => (0, 0)
theorem prsOf_ok {K : PySem.W.Frag} {μ : Mu} {H : Hp} : ∀ {ds : List D} {vs : List V} {ps : List (Int × Int)}, Rps K μ H ds vs → prsOf ds = some ps → (∀ v ∈ vs, ∃ t, v = V.ref t ∧ H t = some (.tup [.int (keyP H v).1, .int (keyP H v).2])) ∧ vs.map (keyP H) = ps
  | _, _, _, .nil, e => by simp only [prsOf, Option.some.injEq] at e; subst e; exact ⟨fun _ h => by simp at h, rfl⟩
  | _, _, ps, .cons (d := d) (v := v) (ds := ds) (vs := vs) h t, e => by
    unfold prsOf at e
    split at e
    · cases e_ : ds <;> simp_all
    · rename_i a b ds' hd
      cases hd
      split at e
      · rename_i qs hqs
        cases e
        obtain ⟨i1, i2⟩ := prsOf_ok t hqs
        cases h with
        | @tup _ t0 _ h1 r1 =>
          cases r1 with
          | cons x1 r2 =>
            cases r2 with
            | cons x2 r3 =>
              cases r3
              cases x1
              cases x2
              have kk : keyP H (.ref t0) = (a, b) := by unfold keyP; simp only [h1]
              refine ⟨fun u hu => ?_, by rw [List.map_cons, i2, kk]⟩
              rcases List.mem_cons.mp hu with rfl | hu
              · exact ⟨_, rfl, by rw [kk]; exact h1⟩
              · exact i1 u hu
      · cases e
    · cases e
/-- the ints of a triple -/
def keyT (H : Hp) (v : V) : T3 := match v with
  | .ref t => (match H t with
    | some (.tup [.int a, .int b, .int c]) => (a, b, c)
    | _ => (0, 0, 0))
  | _ => (0, 0, 0)
theorem sortT3_perm {ps : List T3} : (sortT3 ps).Perm ps := List.mergeSort_perm ..
theorem sortT3_sorted {ps : List T3} : (sortT3 ps).Pairwise fun a b => code3 a ≤ code3 b := by
  have := List.pairwise_mergeSort (le := fun a b : T3 => decide (code3 a ≤ code3 b)) (by intro a b c; simp; omega) (by intro a b; simp; omega) ps
  exact this.imp (by intro a b h; simpa using h)
theorem trsOf_ok {K : PySem.W.Frag} {μ : Mu} {H : Hp} : ∀ {ds : List D} {vs : List V} {ps : List T3}, Rps K μ H ds vs → trsOf ds = some ps →
    (∀ v ∈ vs, ∃ t, v = V.ref t ∧ H t = some (.tup [.int (keyT H v).1, .int (keyT H v).2.1, .int (keyT H v).2.2]) ∧ (0 ≤ (keyT H v).1 ∧ (keyT H v).1 < 1048576) ∧ (0 ≤ (keyT H v).2.1 ∧ (keyT H v).2.1 < 1048576) ∧ (0 ≤ (keyT H v).2.2 ∧ (keyT H v).2.2 < 1048576)) ∧ vs.map (keyT H) = ps ∧ True
  | _, _, _, .nil, e => by simp only [trsOf, Option.some.injEq] at e; subst e; exact ⟨fun _ h => by simp at h, rfl, trivial⟩
  | _, _, ps, .cons (d := d) (v := v) (ds := ds) (vs := vs) h t, e => by
    unfold trsOf at e
    split at e
    · cases e_ : ds <;> simp_all
    · rename_i a b c ds' hd
      cases hd
      split at e
      · rename_i qs hqs
        split at e
        · rename_i hsm
          cases e
          simp only [Bool.and_eq_true, sm3, decide_eq_true_eq] at hsm
          obtain ⟨i1, i2, _⟩ := trsOf_ok t hqs
          cases h with
          | @tup _ t0 _ h1 r1 =>
            cases r1 with
            | cons x1 r2 =>
              cases r2 with
              | cons x2 r3 =>
                cases r3 with
                | cons x3 r4 =>
                  cases r4
                  cases x1
                  cases x2
                  cases x3
                  have kk : keyT H (.ref t0) = (a, b, c) := by unfold keyT; simp only [h1]
                  refine ⟨fun u hu => ?_, by rw [List.map_cons, i2, kk], trivial⟩
                  rcases List.mem_cons.mp hu with rfl | hu
                  · exact ⟨_, rfl, by rw [kk]; exact h1, by rw [kk]; exact hsm⟩
                  · exact i1 u hu
        · cases e
      · cases e
    · cases e
theorem sorted_ok : CallR X (.builtin "sorted") (rB X.K F (b1 biSorted)) := by
  intro pins s σ H xs us Q I r h
  obtain ⟨μ, st, ds, S, rs, w⟩ := h
  obtain ⟨d, v, rfl, rd, w⟩ := b1_ok rs w
  unfold biSorted at w
  cases h1 : lstOf d st with
  | none => rw [h1] at w; exact w.elim
  | some es =>
    rw [h1] at w
    obtain ⟨a, vs, rfl, hq, re⟩ := lstOf_ok S rd h1
    cases h2 : intsOf es with
    | none =>
      simp only [h2] at w
      cases h3 : prsOf es with
      | none =>
        simp only [h3] at w
        cases h4 : trsOf es with
        | none => simp only [h4] at w; exact w.elim
        | some ps =>
          simp only [h4] at w
          obtain ⟨h64, w⟩ := w.grd
          have h64 := of_decide_eq_true h64
          obtain ⟨k1, k2, k3⟩ := trsOf_ok re h4
          refine cr_sortT (d := 3) (B := 1048576) (by decide) pins s σ H _ us Q I r ⟨a, vs, rfl, hq, by rw [← List.length_map (f := keyT H), k2]; exact h64, fun x hx => ?_, fun ys p h5 h6 hp => ?_⟩
          · obtain ⟨t, e1, e2, e3, e4, e5⟩ := k1 x hx
            exact ⟨[(keyT H x).1, (keyT H x).2.1, (keyT H x).2.2], ⟨t, e1, .of e2⟩, rfl, fun m hm => by
              simp only [List.mem_cons, List.not_mem_nil, or_false] at hm
              rcases hm with rfl | rfl | rfl
              · exact e3
              · exact e4
              · exact e5⟩
          have k4 : ∀ y ∈ ys, y ∈ vs := fun y hy => h5.mem_iff.mp hy
          have cd : ∀ y, TS.code 1048576 [(keyT H y).1, (keyT H y).2.1, (keyT H y).2.2] = code3 (keyT H y) := fun y => by
            show (keyT H y).1 * 1048576 ^ 2 + ((keyT H y).2.1 * 1048576 ^ 1 + ((keyT H y).2.2 * 1048576 ^ 0 + 0)) = _
            unfold code3
            have p2 : (1048576 : Int) ^ 2 = 1099511627776 := by decide
            have p1 : (1048576 : Int) ^ 1 = 1048576 := by decide
            have p0 : (1048576 : Int) ^ 0 = 1 := by decide
            rw [p2, p1, p0]; omega
          have bd : ∀ q ∈ ps, (0 ≤ q.1 ∧ q.1 < 1048576) ∧ (0 ≤ q.2.1 ∧ q.2.1 < 1048576) ∧ (0 ≤ q.2.2 ∧ q.2.2 < 1048576) := fun q hq => by
            rw [← k2] at hq
            obtain ⟨x, hx, rfl⟩ := List.mem_map.mp hq
            obtain ⟨t, e1, e2, e3, e4, e5⟩ := k1 x hx
            exact ⟨e3, e4, e5⟩
          have e : ys.map (keyT H) = sortT3 ps := by
            have q1 : (ys.map (keyT H)).Perm ps := by rw [← k2]; exact h5.map _
            have q2 : (ys.map (keyT H)).Pairwise fun a b => code3 a ≤ code3 b := by
              refine List.pairwise_map.mpr (h6.imp_of_mem fun {x y} hx hy hxy => ?_)
              obtain ⟨t, e1, e2, _⟩ := k1 x (k4 x hx)
              obtain ⟨t', e1', e2', _⟩ := k1 y (k4 y hy)
              have := hxy [(keyT H x).1, (keyT H x).2.1, (keyT H x).2.2] [(keyT H y).1, (keyT H y).2.1, (keyT H y).2.2] ⟨t, e1, .of e2⟩ ⟨t', e1', .of e2'⟩
              rw [cd, cd] at this
              exact this
            refine (q1.trans sortT3_perm.symm).eq_of_pairwise (fun a b ha hb h1 h2 => ?_) q2 sortT3_sorted
            have ba := bd a (q1.mem_iff.mp ha)
            have bb := bd b (sortT3_perm.mem_iff.mp hb)
            obtain ⟨a1, a2, a3⟩ := a
            obtain ⟨b1, b2, b3⟩ := b
            simp only at ba bb
            unfold code3 at h1 h2
            simp only at h1 h2
            have g1 : a1 = b1 := by omega
            subst g1
            have g2 : a2 = b2 := by omega
            subst g2
            have g3 : a3 = b3 := by omega
            rw [g3]
          have rr : Rps X.K μ H ((sortT3 ps).map td3) ys := by
            rw [← e]
            have k5 := k4
            clear h5 h6 e k4
            induction ys with
            | nil => exact .nil
            | cons y ys ih =>
              obtain ⟨t, e1, e2, _⟩ := k1 y (k5 y (List.mem_cons_self ..))
              refine .cons ?_ (ih fun z hz => k5 z (List.mem_cons_of_mem _ hz))
              obtain ⟨q, hq⟩ : ∃ q, q = keyT H y := ⟨_, rfl⟩
              rw [← hq] at e2 ⊢
              subst e1
              exact .tup e2 (.cons (.int _) (.cons (.int _) (.cons (.int _) .nil)))
          exact (newL_ok S rr w).2 p hp
      | some ps =>
        simp only [h3] at w
        obtain ⟨k1, k2⟩ := prsOf_ok re h3
        refine cr_sortedPO pins s σ H _ us Q I r ⟨a, vs, keyP H, rfl, hq, k1, fun ys p h4 h5 hp => ?_⟩
        have k3 : ∀ y ∈ ys, ∃ t, y = V.ref t ∧ H t = some (.tup [.int (keyP H y).1, .int (keyP H y).2]) := fun y hy => k1 y (h5.perm.mem_iff.mp hy)
        have e : ys.map (keyP H) = sortP ps := by
          have q1 : (ys.map (keyP H)).Perm ps := by rw [← k2]; exact h5.perm.map _
          have q2 : (ys.map (keyP H)).Pairwise fun a b => leP a b = true := by
            refine List.pairwise_map.mpr (h4.imp fun {x y} hxy => ?_)
            have := SrtO.lexB_no.mp hxy
            unfold leP
            refine decide_eq_true ?_
            omega
          exact (q1.trans sortP_perm.symm).eq_of_pairwise (fun a b _ _ h1 h2 => leP_anti h1 h2) q2 sortP_sorted
        have rr : Rps X.K μ H ((sortP ps).map pd2) ys := by
          rw [← e]
          clear h4 h5 e
          induction ys with
          | nil => exact .nil
          | cons y ys ih =>
            obtain ⟨t, e1, e2⟩ := k3 y (List.mem_cons_self ..)
            refine .cons ?_ (ih fun z hz => k3 z (List.mem_cons_of_mem _ hz))
            obtain ⟨q, hq⟩ : ∃ q, q = keyP H y := ⟨_, rfl⟩
            rw [← hq] at e2 ⊢
            subst e1
            exact .tup e2 (.cons (.int _) (.cons (.int _) .nil))
        exact (newL_ok S rr w).2 p hp
    | some ns =>
      simp only [h2] at w
      have e := intsOf_ok re h2
      subst e
      refine cr_sortedI pins s σ H _ us Q I r ⟨a, ns, rfl, hq, fun ns' p h1 h2 hp => ?_⟩
      have e : ns' = sortI ns := (h1.trans sortI_perm.symm).eq_of_pairwise (fun a b _ _ h1 h2 => Int.le_antisymm h1 h2) h2 sortI_sorted
      subst e
      have rr : Rps X.K μ H ((sortI ns).map .int) ((sortI ns).map V.int) := by
        generalize sortI ns = l
        induction l with
        | nil => exact .nil
        | cons i l ih => exact .cons (.int _) ih
      exact (newL_ok S rr w).2 p hp
theorem all_ok (hc : X.calm = true) : CallR X (.builtin "all") (rB X.K F (b1 biAll)) := by
  intro pins s σ H xs us Q I r h
  obtain ⟨μ, st, ds, S, rs, w⟩ := h
  obtain ⟨d, v, rfl, rd, w⟩ := b1_ok rs w
  unfold biAll at w
  cases h1 : lstOf d st with
  | none => rw [h1] at w; exact w.elim
  | some es =>
    rw [h1] at w
    obtain ⟨a, vs, rfl, hq, re⟩ := lstOf_ok S rd h1
    cases h2 : boolsOf es with
    | none => simp only [h2] at w; exact w.elim
    | some ns =>
      simp only [h2] at w
      have e := boolsOf_ok re h2
      subst e
      exact cr_all hc pins s σ H _ us Q I r ⟨a, ns, rfl, hq, w.ok S _ (.bl _)⟩
theorem any_ok (hc : X.calm = true) : CallR X (.builtin "any") (rB X.K F (b1 biAny)) := by
  intro pins s σ H xs us Q I r h
  obtain ⟨μ, st, ds, S, rs, w⟩ := h
  obtain ⟨d, v, rfl, rd, w⟩ := b1_ok rs w
  unfold biAny at w
  cases h1 : lstOf d st with
  | none => rw [h1] at w; exact w.elim
  | some es =>
    rw [h1] at w
    obtain ⟨a, vs, rfl, hq, re⟩ := lstOf_ok S rd h1
    cases h2 : boolsOf es with
    | none => simp only [h2] at w; exact w.elim
    | some ns =>
      simp only [h2] at w
      have e := boolsOf_ok re h2
      subst e
      exact cr_any hc pins s σ H _ us Q I r ⟨a, ns, rfl, hq, w.ok S _ (.bl _)⟩
theorem bi2_ok {K : PySem.W.Frag} {μ : Mu} {H : Hp} {st : Store} {f : Int → Int → Int} {ds : List D} {vs : List V} {Q : VK} (S : Sto K F μ st H) (r : Rps K μ H ds vs) (w : WP K F μ H (bi2 f ds st) (VQ K Q)) : ∃ i j, vs = [.int i, .int j] ∧ Q (.int (f i j)) H := by
  obtain ⟨i, j, rfl, w2⟩ : ∃ i j, ds = [.int i, .int j] ∧ WP K F μ H (.ok (.int (f i j)) st) (VQ K Q) := by
    unfold bi2 at w
    split at w
    · exact ⟨_, _, rfl, w⟩
    · exact w.elim
  cases r with
  | cons h t =>
    cases t with
    | cons h' t' =>
      cases t'
      cases h
      cases h'
      exact ⟨i, j, rfl, w2.ok S _ (.int _)⟩
theorem max2_ok (hc : X.calm = true) : CallR X (.builtin "max") (rB X.K F (bi2 fun i j => if j > i then j else i)) := by
  intro pins s σ H xs us Q I r h
  obtain ⟨μ, st, ds, S, rs, w⟩ := h
  obtain ⟨i, j, rfl, q⟩ := bi2_ok S rs w
  exact call_max2 hc pins s σ H _ us Q I r ⟨i, j, rfl, q⟩
theorem min2_ok (hc : X.calm = true) : CallR X (.builtin "min") (rB X.K F (bi2 fun i j => if j < i then j else i)) := by
  intro pins s σ H xs us Q I r h
  obtain ⟨μ, st, ds, S, rs, w⟩ := h
  obtain ⟨i, j, rfl, q⟩ := bi2_ok S rs w
  exact call_min2 hc pins s σ H _ us Q I r ⟨i, j, rfl, q⟩
end
/-- what is asked of the classes -/
structure Kit (K : PySem.W.Frag) (F : Nm) : Prop where
  cl : ∀ (c : Nat) (C : Addr), F.cls c = some C → Cls K C
  ha : ∀ (c : Nat) (C : Addr), F.cls c = some C → PySem.W.findIn K (.ref C) "__class__" = some (some (.builtin "object.__class__")) ∧ PySem.W.specialIn K (.builtin "object.__class__") "__get__" = some (some (.builtin "getset_descriptor.__get__")) ∧
    PySem.W.takesIn K (.builtin "object.__class__") = some true ∧ PySem.W.mroIn K C (.type "object") = some true
  tc : ∀ (c : Nat) (C : Addr) (n : String), F.cls c = some C → n ∈ ["NoneType", "bool", "int", "str", "list", "tuple"] → PySem.W.kitOne K (.type n) (.ref C) = some false
  ct : ∀ (c : Nat) (C : Addr) (n : String), F.cls c = some C → n ∈ ["bool", "int", "str", "list", "tuple"] → PySem.W.kitOne K (.ref C) (.type n) = some false
  cc : ∀ (c d : Nat) (C E : Addr), F.cls c = some C → F.cls d = some E → d ≠ 9 → PySem.W.kitOne K (.ref C) (.ref E) = some (c == d)
  ij : ∀ (c d : Nat) (C : Addr), F.cls c = some C → F.cls d = some C → c = d
def tyVal (F : Nm) : Ty → Option Value
  | .int => some (.type "int")
  | .bool => some (.type "bool")
  | .str => some (.type "str")
  | .tuple => some (.type "tuple")
  | .list => some (.type "list")
  | .cls c => (F.cls c).map .ref
def tyV : Value → V
  | .type n => .ty n
  | .ref a => .ref a
  | _ => .non
theorem tyVal_cls {F : Nm} {k : Ty} {u : Value} (h : tyVal F k = some u) : ClsV (tyV u) u := by
  cases k <;> simp only [tyVal, Option.some.injEq] at h <;> first
    | (subst h; exact .ty _)
    | (rename_i c
       cases e : F.cls c with
       | none => rw [e] at h; cases h
       | some C =>
         rw [e] at h
         simp only [Option.map_some, Option.some.injEq] at h
         subst h
         exact .own C)
section
variable {K : PySem.W.Frag} {F : Nm} {μ : Mu} {H : Hp} {st : Store}
theorem isTy_ok (Z : Kit K F) (S : Sto K F μ st H) {x : D} {v : V} (r : Rp K μ H x v) : ∃ t, ∀ {k : Ty} {b : Bool} {u : Value}, isTy k x st = some b → tyVal F k = some u → TyX K H v t ∧ PySem.W.kitOne K t u = some b := by
  cases r with
  | non => exact ⟨.type "NoneType", fun {k b u} h1 h2 => ⟨.base .non, by
      cases k <;> simp only [isTy, Option.some.injEq, tyVal] at h1 h2 <;> subst h1 <;> first
        | (subst h2; exact kit_ty (by decide +kernel))
        | (rename_i c
           cases e : F.cls c with
           | none => rw [e] at h2; cases h2
           | some C => rw [e] at h2; simp only [Option.map_some, Option.some.injEq] at h2; subst h2; exact Z.tc c C _ e (by simp))⟩⟩
  | bl b => exact ⟨.type "bool", fun {k b u} h1 h2 => ⟨.base (.bl _), by
      cases k <;> simp only [isTy, Option.some.injEq, tyVal] at h1 h2 <;> subst h1 <;> first
        | (subst h2; exact kit_ty (by decide +kernel))
        | (rename_i c
           cases e : F.cls c with
           | none => rw [e] at h2; cases h2
           | some C => rw [e] at h2; simp only [Option.map_some, Option.some.injEq] at h2; subst h2; exact Z.tc c C _ e (by simp))⟩⟩
  | int b => exact ⟨.type "int", fun {k b u} h1 h2 => ⟨.base (.int _), by
      cases k <;> simp only [isTy, Option.some.injEq, tyVal] at h1 h2 <;> subst h1 <;> first
        | (subst h2; exact kit_ty (by decide +kernel))
        | (rename_i c
           cases e : F.cls c with
           | none => rw [e] at h2; cases h2
           | some C => rw [e] at h2; simp only [Option.map_some, Option.some.injEq] at h2; subst h2; exact Z.tc c C _ e (by simp))⟩⟩
  | str b => exact ⟨.type "str", fun {k b u} h1 h2 => ⟨.base (.str _), by
      cases k <;> simp only [isTy, Option.some.injEq, tyVal] at h1 h2 <;> subst h1 <;> first
        | (subst h2; exact kit_ty (by decide +kernel))
        | (rename_i c
           cases e : F.cls c with
           | none => rw [e] at h2; cases h2
           | some C => rw [e] at h2; simp only [Option.map_some, Option.some.injEq] at h2; subst h2; exact Z.tc c C _ e (by simp))⟩⟩
  | @tup ds a vs hq rs =>
    have ty : TyX K H (.ref a) (.type "tuple") := by
      exact .base (.tup hq)
    exact ⟨.type "tuple", fun {k b u} h1 h2 => ⟨ty, by
      cases k <;> simp only [isTy, Option.some.injEq, tyVal] at h1 h2 <;> subst h1 <;> first
        | (subst h2; exact kit_ty (by decide +kernel))
        | (rename_i c
           cases e : F.cls c with
           | none => rw [e] at h2; cases h2
           | some C => rw [e] at h2; simp only [Option.map_some, Option.some.injEq] at h2; subst h2; exact Z.tc c C _ e (by simp))⟩⟩
  | @wt ds a vs hq rs =>
    have ty : TyX K H (.ref a) (.type "tuple") := by
      rcases hq with (h | ⟨o, h⟩) | ⟨o, its, n, h1, h2, _⟩
      · exact .base (.tup h)
      · exact .fTuple h
      · exact .kTuple h1 h2
    exact ⟨.type "tuple", fun {k b u} h1 h2 => ⟨ty, by
      cases k <;> simp only [isTy, Option.some.injEq, tyVal] at h1 h2 <;> subst h1 <;> first
        | (subst h2; exact kit_ty (by decide +kernel))
        | (rename_i c
           cases e : F.cls c with
           | none => rw [e] at h2; cases h2
           | some C => rw [e] at h2; simp only [Option.map_some, Option.some.injEq] at h2; subst h2; exact Z.tc c C _ e (by simp))⟩⟩
  | @ref l a _ hl =>
    have hlt : l < st.length := by rw [← S.len]; exact (List.getElem?_eq_some_iff.mp hl).1
    have lists : ∀ ds, (st[l]? = some (.lst ds) ∨ st[l]? = some (.frz ds)) → TyX K H (.ref a) (.type "list") := fun ds hd => by
      obtain ⟨vs, hq, _⟩ := S.list hd hl
      rcases hq with (h | ⟨o, h⟩) | ⟨o, its, n, h1, h2, _⟩
      · exact .base (.lst h)
      · exact .base (.frz h)
      · exact .kList h1 h2
    cases e0 : st[l]? with
    | none => rw [List.getElem?_eq_none_iff] at e0; omega
    | some o =>
      cases o with
      | lst ds => exact ⟨.type "list", fun {k b u} h1 h2 => ⟨lists ds (.inl e0), by
          cases k <;> simp only [isTy, e0, Option.some.injEq, tyVal] at h1 h2 <;> subst h1 <;> first
            | (subst h2; exact kit_ty (by decide +kernel))
            | (rename_i c
               cases e : F.cls c with
               | none => rw [e] at h2; cases h2
               | some C => rw [e] at h2; simp only [Option.map_some, Option.some.injEq] at h2; subst h2; exact Z.tc c C _ e (by simp))⟩⟩
      | frz ds => exact ⟨.type "list", fun {k b u} h1 h2 => ⟨lists ds (.inr e0), by
          cases k <;> simp only [isTy, e0, Option.some.injEq, tyVal] at h1 h2 <;> subst h1 <;> first
            | (subst h2; exact kit_ty (by decide +kernel))
            | (rename_i c
               cases e : F.cls c with
               | none => rw [e] at h2; cases h2
               | some C => rw [e] at h2; simp only [Option.map_some, Option.some.injEq] at h2; subst h2; exact Z.tc c C _ e (by simp))⟩⟩
      | ins c' fs =>
        obtain ⟨C', dx, fv, hc', hH, _⟩ := S.back e0 hl rfl
        obtain ⟨k1, k2, k3, k4⟩ := Z.ha c' C' hc'
        exact ⟨.ref C', fun {k b u} h1 h2 => ⟨.base (.ins hH (Z.cl c' C' hc') k1 k2 k3 k4), by
          unfold isTy at h1
          simp only [e0] at h1
          split at h1
          · cases h1
          rename_i hb
          cases k <;> simp only [Option.some.injEq, tyVal] at h1 h2 <;> subst h1 <;> first
            | (subst h2; exact Z.ct c' C' _ hc' (by simp))
            | (rename_i c
               cases e : F.cls c with
               | none => rw [e] at h2; cases h2
               | some C => rw [e] at h2; simp only [Option.map_some, Option.some.injEq] at h2; subst h2; exact Z.cc c' c C' C hc' e (by simpa using hb))⟩⟩
      | dct kvs => exact ⟨.none, fun {k b u} h1 h2 => by simp only [isTy, e0, reduceCtorEq] at h1⟩
      | dlk kvs => exact ⟨.none, fun {k b u} h1 h2 => by simp only [isTy, e0, reduceCtorEq] at h1⟩
def tyVals (F : Nm) : List Ty → Option (List Value)
  | [] => some []
  | k :: ks => (match tyVal F k with
    | some u => (match tyVals F ks with
      | some us => some (u :: us)
      | none => none)
    | none => none)
theorem tyVals_cls {F : Nm} : ∀ {ks : List Ty} {us : List Value}, tyVals F ks = some us → Paired ClsV (us.map tyV) us
  | [], us, h => by simp only [tyVals, Option.some.injEq] at h; subst h; exact .nil
  | k :: ks, us, h => by
    simp only [tyVals] at h
    cases e : tyVal F k with
    | none => rw [e] at h; cases h
    | some u =>
      rw [e] at h
      cases e' : tyVals F ks with
      | none => rw [e'] at h; cases h
      | some vs =>
        rw [e'] at h
        simp only [Option.some.injEq] at h
        subst h
        exact .cons (tyVal_cls e) (tyVals_cls e')
theorem isAny_ok (Z : Kit K F) (S : Sto K F μ st H) {x : D} {v : V} (r : Rp K μ H x v) : ∃ t, ∀ {ks : List Ty} {b : Bool} {us : List Value}, ks ≠ [] → isAny x st ks = some b → tyVals F ks = some us → TyX K H v t ∧ PySem.W.kitAny K t us = some b := by
  obtain ⟨t, ht⟩ := isTy_ok Z S r
  refine ⟨t, fun {ks} => ?_⟩
  induction ks with
  | nil => exact fun h => absurd rfl h
  | cons k ks ih =>
    intro b us _ h1 h2
    simp only [tyVals] at h2
    cases e : tyVal F k with
    | none => rw [e] at h2; cases h2
    | some u =>
      rw [e] at h2
      cases e' : tyVals F ks with
      | none => rw [e'] at h2; cases h2
      | some vs =>
        rw [e'] at h2
        simp only [Option.some.injEq] at h2
        subst h2
        simp only [isAny] at h1
        cases q : isTy k x st with
        | none => rw [q] at h1; cases h1
        | some c =>
          rw [q] at h1
          obtain ⟨g1, g2⟩ := ht q e
          refine ⟨g1, kitAny_cons g2 (fun hc => ?_) (fun hc => ?_)⟩
          · subst hc
            cases ks with
            | nil =>
              simp only [tyVals, Option.some.injEq] at e'
              subst e'
              simp only [isAny] at h1
              rw [← h1]; rfl
            | cons k' ks' => exact (ih (by simp) h1 e').2
          · subst hc
            exact (Option.some.inj h1).symm
end
end Nz
namespace Nz
open PySem L2 PyProof.Rows
def tE (K : PySem.W.Frag) (F : Nm) (f : Env → Store → R D) : TE := fun σ H Q => ∃ μ ρ st, Sim K F μ ρ st σ H ∧ WP K F μ H (f ρ st) (VQ K Q)
def tCo (K : PySem.W.Frag) (F : Nm) (f : Env → Store → R Bool) : TT := fun σ H Q => ∃ μ ρ st, Sim K F μ ρ st σ H ∧ WP K F μ H (f ρ st) fun b _ _ H' => Q b H'
def tAs (K : PySem.W.Frag) (F : Nm) (f : Env → Store → R (List D)) : TA := fun σ H Q => ∃ μ ρ st, Sim K F μ ρ st σ H ∧ WP K F μ H (f ρ st) fun ds _ μ' H' => ∀ vs, Rps K μ' H' ds vs → Q vs H'
def tOi (K : PySem.W.Frag) (F : Nm) (f : Env → Store → R (Option Int)) : TO := fun σ H Q => ∃ μ ρ st, Sim K F μ ρ st σ H ∧ WP K F μ H (f ρ st) fun o _ _ H' => Q o H'
/-- what a walk gives -/
def Wlk (K : PySem.W.Frag) (F : Nm) (μ1 : Mu) (H1 : Hp) (w : Wk) (J : It) : Prop :=
  ∀ s2 μ2 H2, Post K F μ1 H1 s2 μ2 H2 → watOk w.wat s2 = true →
    (∀ i, i < w.its.length → J.go i H2) ∧ J.stop w.its.length H2 ∧ ∀ i x H3, i < w.its.length → J.yld i H2 x H3 → ∃ d, w.its[i]? = some d ∧ Post K F μ2 H2 s2 μ2 H3 ∧ Rp K μ2 H3 d x
def tIt (K : PySem.W.Frag) (F : Nm) (f : Env → Store → R Wk) : TI := fun σ H R => ∃ μ ρ st, Sim K F μ ρ st σ H ∧ WP K F μ H (f ρ st) fun w _ μ' H' => ∀ J, Wlk K F μ' H' w J → R J H'
theorem impE {X : Cx} {e : Expr} {t t' : TE} (h : PE X e t) (k : ∀ σ H Q, t' σ H Q → t σ H Q) : PE X e t' := ⟨fun pins s σ H Q I w => h.run pins s σ H Q I (k σ H Q w)⟩
theorem impT {X : Cx} {e : Expr} {t t' : TT} (h : PT X e t) (k : ∀ σ H Q, t' σ H Q → t σ H Q) : PT X e t' := ⟨fun pins s σ H Q I w => h.run pins s σ H Q I (k σ H Q w)⟩
theorem impW {X : Cx} {e : Expr} {t t' : TT} (h : PW X e t) (k : ∀ σ H Q, t' σ H Q → t σ H Q) : PW X e t' := ⟨fun wh pins s σ H Q I w => h.run wh pins s σ H Q I (k σ H Q w)⟩
theorem impA {X : Cx} {e : List Expr} {t t' : TA} (h : PA X e t) (k : ∀ σ H Q, t' σ H Q → t σ H Q) : PA X e t' := ⟨fun p pins s σ H Q I w => h.run p pins s σ H Q I (k σ H Q w)⟩
theorem impO {X : Cx} {e : Option Expr} {t t' : TO} (h : PO X e t) (k : ∀ σ H Q, t' σ H Q → t σ H Q) : PO X e t' := ⟨fun pins s σ H Q I w => h.run pins s σ H Q I (k σ H Q w)⟩
theorem impI {X : Cx} {tg e : Expr} {t t' : TI} (h : PI X tg e t) (k : ∀ σ H Q, t' σ H Q → t σ H Q) : PI X tg e t' := ⟨fun pins s σ H Q I w => h.run pins s σ H Q I (k σ H Q w)⟩
section
variable {K : PySem.W.Frag} {F : Nm} {μ : Mu} {H : Hp} {st : Store}
theorem watOk_mem {w : List (Nat × O)} {st : Store} (h : watOk w st = true) {l : Nat} {o : O} (m : (l, o) ∈ w) : st[l]? = some o := by
  have := List.all_eq_true.mp h (l, o) m
  cases e : st[l]? with
  | none => simp only [e] at this; cases this
  | some p =>
    simp only [e] at this
    rw [O.beq_eq this]
theorem wlk_tup {ds : List D} {a : Addr} {vs : List V} (h : SqT K H a vs) (rs : Rps K μ H ds vs) : Wlk K F μ H ⟨ds, []⟩ (Itt K a) := by
  intro s2 μ2 H2 P _
  have h2 : SqT K H2 a vs := tup_mono P.tups P.frzs h
  have r2 := rs.post P
  have W := walk_tup (K := K) (a := a) (xs := vs)
  rw [show (⟨ds, []⟩ : Wk).its = ds from rfl, rs.length]
  refine ⟨fun i hi => W.goes i H2 hi h2, W.stops H2 h2, fun i x H3 hi y => ?_⟩
  obtain ⟨rfl, hx⟩ := W.yields i H2 x H3 hi h2 y
  have hd : ds[i]? = some (ds[i]'(by rw [rs.length]; exact hi)) := by simp [rs.length, hi]
  obtain ⟨v, e1, e2⟩ := r2.get hd
  rw [hx] at e1; cases e1
  exact ⟨_, hd, .refl P.sto, e2⟩
theorem wlk_list {l : Nat} {a : Addr} {b : Bool} {ds : List D} {o : O} (hl : μ[l]? = some (a, b)) (ho : o = .lst ds ∨ o = .frz ds) : Wlk K F μ H ⟨ds, [(l, o)]⟩ (Itl K a) := by
  intro s2 μ2 H2 P hw
  have e := watOk_mem hw (l := l) (o := o) (by simp)
  obtain ⟨vs, h2, r2⟩ := P.sto.list (ds := ds) (by rcases ho with rfl | rfl; exact .inl e; exact .inr e) (pre_get P.pre hl)
  have W := walk_list (K := K) (a := a) (xs := vs)
  rw [show (⟨ds, [(l, o)]⟩ : Wk).its = ds from rfl, r2.length]
  refine ⟨fun i hi => W.goes i H2 hi h2, W.stops H2 h2, fun i x H3 hi y => ?_⟩
  obtain ⟨rfl, hx⟩ := W.yields i H2 x H3 hi h2 y
  have hd : ds[i]? = some (ds[i]'(by rw [r2.length]; exact hi)) := by simp [r2.length, hi]
  obtain ⟨v, e1, e2⟩ := r2.get hd
  rw [hx] at e1; cases e1
  exact ⟨_, hd, .refl P.sto, e2⟩
theorem wlk_range {lo : Int} {n : Nat} : Wlk K F μ H ⟨rangeL lo n, []⟩ (Itr lo n) := by
  intro s2 μ2 H2 P _
  have W := walk_range (lo := lo) (n := n)
  have hl : (⟨rangeL lo n, []⟩ : Wk).its.length = n := by simp [rangeL]
  rw [hl]
  refine ⟨fun i hi => W.goes i H2 hi trivial, W.stops H2 trivial, fun i x H3 hi y => ?_⟩
  obtain ⟨rfl, rfl⟩ := W.yields i H2 x H3 hi trivial y
  exact ⟨.int (lo + i), by simp [rangeL, hi], .refl P.sto, .int _⟩
end
section
variable {X : Cx} {F : Nm} {tg : Expr}
theorem pi_seqN {e : Expr} {f : Env → Store → R D} (he : PE X e (tE X.K F f)) : PI X tg e (tIt X.K F fun ρ st => (f ρ st).bind fun x s => wkSeq x s) := by
  refine ⟨fun pins s σ H R I h => ?_⟩
  obtain ⟨μ, ρ, st, S, w⟩ := h
  have w := w.bind
  cases hf : f ρ st with
  | no => rw [hf] at w; exact w.elim
  | ok d s1 =>
    rw [hf] at w
    cases d with
    | tup ds =>
      refine (pi_tup he).run pins s σ H R I ⟨μ, ρ, st, S, ?_⟩
      rw [hf]
      intro μ1 H1 P1 v r
      cases r with
      | @tup _ a vs hq rs =>
        refine ⟨a, rfl, ⟨vs, .of hq⟩, ?_⟩
        have w1 := w μ1 H1 P1
        exact WP.ok P1.sto w1 (Itt X.K a) (wlk_tup (.of hq) rs)
    | wt ds =>
      refine (pi_tup he).run pins s σ H R I ⟨μ, ρ, st, S, ?_⟩
      rw [hf]
      intro μ1 H1 P1 v r
      cases r with
      | @wt _ a vs hq rs =>
        refine ⟨a, rfl, ⟨vs, hq⟩, ?_⟩
        have w1 := w μ1 H1 P1
        exact WP.ok P1.sto w1 (Itt X.K a) (wlk_tup hq rs)
    | ref l =>
      refine (pi_list he).run pins s σ H R I ⟨μ, ρ, st, S, ?_⟩
      rw [hf]
      intro μ1 H1 P1 v r
      cases r with
      | @ref _ a _ hl =>
        have w1 := w μ1 H1 P1
        obtain ⟨ds, o, ho, hd, w2⟩ : ∃ ds o, (o = .lst ds ∨ o = .frz ds) ∧ s1[l]? = some o ∧ WP X.K F μ1 H1 (.ok ⟨ds, [(l, o)]⟩ s1) (fun w _ μ' H' => ∀ J, Wlk X.K F μ' H' w J → R J H') := by
          simp only [wkSeq] at w1
          split at w1
          · exact ⟨_, _, .inl rfl, by assumption, w1⟩
          · exact ⟨_, _, .inr rfl, by assumption, w1⟩
          · exact w1.elim
        obtain ⟨vs, hq, rs⟩ := P1.sto.list (ds := ds) (by rcases ho with rfl | rfl; exact .inl hd; exact .inr hd) hl
        exact ⟨a, rfl, ⟨vs, hq⟩, WP.ok P1.sto w2 (Itl X.K a) (wlk_list hl ho)⟩
    | _ =>
      have P : ∀ μ1 H1, ¬ Post X.K F μ H s1 μ1 H1 := fun μ1 H1 P => (w μ1 H1 P).elim
      refine (pi_tup he).run pins s σ H R I ⟨μ, ρ, st, S, ?_⟩
      rw [hf]
      exact fun μ1 H1 P1 => (P μ1 H1 P1).elim
theorem rngOk_ok {i : Int} (h : rngOk i = true) : -(2 ^ 62) ≤ i ∧ i < 2 ^ 62 := by
  have e : (2 : Int) ^ 62 = 4611686018427387904 := by rfl
  rw [e]
  exact of_decide_eq_true h
theorem wkRng_ok {K : PySem.W.Frag} {μ : Mu} {H : Hp} {st : Store} {x y : D} {v u : V} {Φ : Wk → Store → Mu → Hp → Prop} (S : Sto K F μ st H) (r1 : Rp K μ H x v) (r2 : Rp K μ H y u) (w : WP K F μ H (wkRng x y st) Φ) :
    ∃ i j, v = .int i ∧ u = .int j ∧ (-(2 ^ 62) ≤ i ∧ i < 2 ^ 62 ∧ -(2 ^ 62) ≤ j ∧ j < 2 ^ 62) ∧ Φ ⟨rangeL i (j - i).toNat, []⟩ st μ H := by
  cases r1 with
  | int i =>
    cases r2 with
    | int j =>
      obtain ⟨hb, w⟩ := w.grd
      rw [Bool.and_eq_true] at hb
      exact ⟨i, j, rfl, rfl, ⟨(rngOk_ok hb.1).1, (rngOk_ok hb.1).2, (rngOk_ok hb.2).1, (rngOk_ok hb.2).2⟩, w.ok S⟩
    | _ => exact w.elim
  | _ => exact w.elim
theorem pi_rng1N {a : Expr} {f : Env → Store → R D} {p pos : Pos} (hg : Gl X "range") (hm : X.mg "range" = none) (he : PE X a (tE X.K F f)) (hs : starEach [a] X.env = [(false, eval a X.env)]) :
    PI X tg (.Call (.Name "range" p) [a] [] pos) (tIt X.K F fun ρ st => (f ρ st).bind fun x s => wkRng (.int 0) x s) := by
  refine impI (pi_range1 hg hm (pa_cons he pa_nil hs) hs) fun σ H R h => ?_
  obtain ⟨μ, ρ, st, S, w⟩ := h
  refine ⟨μ, ρ, st, S, w.bind.mono fun d s μ1 H1 P1 w1 v r => ?_⟩
  obtain ⟨i, j, e1, rfl, hb, q⟩ := wkRng_ok (Φ := fun w _ μ' H' => ∀ J, Wlk X.K F μ' H' w J → R J H') P1.sto (.int 0) r w1
  cases e1
  refine ⟨j, rfl, hb.2.2.1, hb.2.2.2, ?_⟩
  have e : (j - 0).toNat = j.toNat := by simp
  rw [e] at q
  exact q _ wlk_range
theorem pi_rng2N {a b : Expr} {f g : Env → Store → R D} {p pos : Pos} (hg : Gl X "range") (hm : X.mg "range" = none) (ha : PE X a (tE X.K F f)) (hb : PE X b (tE X.K F g)) (hs : starEach [a, b] X.env = [(false, eval a X.env), (false, eval b X.env)]) (hs2 : starEach [b] X.env = [(false, eval b X.env)]) :
    PI X tg (.Call (.Name "range" p) [a, b] [] pos) (tIt X.K F fun ρ st => (f ρ st).bind fun x s => (g ρ s).bind fun y s => wkRng x y s) := by
  refine impI (pi_range2 hg hm (pa_cons ha (pa_cons hb pa_nil hs2) (by rw [hs, hs2])) hs hs2) fun σ H R h => ?_
  obtain ⟨μ, ρ, st, S, w⟩ := h
  refine ⟨μ, ρ, st, S, w.bind.mono fun d s μ1 H1 P1 w1 v r => ?_⟩
  refine ⟨μ1, ρ, s, S.post P1, w1.bind.mono fun d' s' μ2 H2 P2 w2 v' r' => ?_⟩
  obtain ⟨i, j, rfl, rfl, hb, q⟩ := wkRng_ok (Φ := fun w _ μ' H' => ∀ J, Wlk X.K F μ' H' w J → R J H') P2.sto (r.post P2) r' w2
  exact ⟨i, j, rfl, hb, q _ wlk_range⟩
end
end Nz
namespace Nz
open PySem L2 PyProof.Rows
theorem enum_new1 {v : Value} {o : Obj} {Hs : Heap → Prop} (B : Begins v o Hs) :
    Meets (Builtin.«enumerate.__new__» ⟨[.type "enumerate", v], []⟩) (fun _ R s => Hs s.heap ∧
      R (.ok (.ret (.ref (s.heap.push o).objs.size))) { s with heap := (s.heap.push o).push { cls := .type "enumerate", data := .fields #[.none, .bool false, .ref s.heap.objs.size, rawInt 0, .none, .none] } }) :=
  .of_wp fun prog w A R s hyp => by
    obtain ⟨hp, gn, dr, tk, os⟩ := s
    obtain ⟨hyp1, hyp⟩ := hyp
    have hsb := sub_enumerate
    have it1 : ∀ {A' : Around} {E : Value → Shared → Prop} {Q : Value → Shared → Prop}, Q (.ref hp.objs.size) ⟨hp.push o, gn, dr, tk, os⟩ → wpAny (model prog w) A' (pyIter v) Q E ⟨hp, gn, dr, tk, os⟩ :=
      fun z => B.iter prog w _ _ ⟨hp, gn, dr, tk, os⟩ _ hyp1 z
    wp_walk using it1
    refine wpAny_stack_any fun stk => wpAny_pure ?_
    split
    · rename_i c _ _ _ _ _
      cases (c == Value.type "enumerate")
      · wp_walk using it1
        exact ⟨_, rfl, hyp⟩
      · wp_walk using it1
        exact ⟨_, rfl, hyp⟩
    · wp_walk using it1
      exact ⟨_, rfl, hyp⟩
section
variable {prog : Program} {w : World} {A : Around} {E : Value → Shared → Prop} {s : Shared}
/-- enumerate(v): its two new cells -/
theorem enum_call1 {v : Value} {o : Obj} {Hs : Heap → Prop} {Q : Value → Shared → Prop} (B : Begins v o Hs) (h1 : Hs s.heap)
    (hyp : ∀ h', IsEnum h' (s.heap.objs.size + 1) s.heap.objs.size 0 .none → h'.get? s.heap.objs.size = some o → (∀ b u, s.heap.get? b = some u → h'.get? b = some u) → Q (.ref (s.heap.objs.size + 1)) { s with heap := h' }) :
    wpAny (model prog w) A (call (.type "enumerate") [v]) Q E s := by
  refine callType_new F.called_enumerate (by decide) (F.typeCall_enumerate_1 _) (F.newCall_enumerate_1 _) (fun ob => F.args_object_init_2 ob _) F.entry_enumerate_new (enum_new1 B) ⟨h1, ?_⟩
  have hsz : (s.heap.push o).objs.size = s.heap.objs.size + 1 := Heap.size_push ..
  show _ ∧ _
  rw [hsz]
  have hen : IsEnum ((s.heap.push o).push { cls := .type "enumerate", data := .fields #[.none, .bool false, .ref s.heap.objs.size, rawInt 0, .none, .none] }) (s.heap.objs.size + 1) s.heap.objs.size 0 .none := by
    have z := Heap.get?_push_size (s.heap.push o) (o := { cls := .type "enumerate", data := .fields #[.none, .bool false, .ref s.heap.objs.size, rawInt 0, .none, .none] }) rfl
    rwa [hsz] at z
  exact ⟨⟨_, hen, rfl⟩, hyp _ hen (Heap.get?_push_of_some _ (Heap.get?_push_size _ B.free)) fun b u x => Heap.get?_push_of_some _ (Heap.get?_push_of_some _ x)⟩
end
/-- the tuple at a, each item in a new pair -/
def IteT (K : PySem.W.Frag) (a : Addr) : It :=
  ⟨fun i H => ∃ (xs : List V) (x : V), SqT K H a xs ∧ xs[i]? = some x, fun i H v H' => ∃ T x, v = .ref T ∧ H T = none ∧ H' = upd H T (.tup [.int (i : Nat), x]) ∧ ∀ xs, SqT K H a xs → xs[i]? = some x, fun i H => ∃ xs : List V, SqT K H a xs ∧ xs.length = i⟩
theorem turn_enumT {P : Program} {w : World} {K : PySem.W.Frag} {elts : List Expr} {kk : Nat} {tpos : Pos} (a e it : Addr) :
    Turn P w K (.Tuple elts kk tpos) (IteT K a) [e, it] e (fun i h => (∃ old, IsEnum h e it ((i : Nat) : Int) old) ∧ h.IsTupleIter it a i ∧ e ≠ it) where
  mem := by simp
  obj := fun i h st b hb => by
    obtain ⟨⟨old, he⟩, ⟨ob, hob, _, hdt⟩, _⟩ := st
    rcases List.mem_cons.mp hb with z | z
    · subst z; exact ⟨_, he, fun v q => nomatch q⟩
    · have z := List.mem_singleton.mp z
      subst z; exact ⟨ob, hob, fun v q => by rw [hdt] at q; cases q⟩
  keep := fun i h h' st k => by
    obtain ⟨⟨old, he⟩, hi, hne⟩ := st
    exact ⟨⟨old, k e (by simp) _ he⟩, hi.at fun u q => k it (by simp) u q, hne⟩
  item := by
    intro X hP hw hK hcalm i pins s σ H E I hfp st hgo
    subst hP hw hK
    obtain ⟨⟨old, he⟩, hit, hne⟩ := st
    obtain ⟨xs, x, hq, hx⟩ := hgo
    obtain ⟨its, rv, tp, hz⟩ := I.tuple hq
    obtain ⟨u, hu, ru⟩ := rv.get hx
    have hel : e < s.heap.objs.size := Heap.lt_size he
    have hil : it < s.heap.objs.size := by obtain ⟨_, q, _⟩ := hit; exact Heap.lt_size q
    have hai : a ≠ it := fun z => by
      obtain ⟨o1, g1, c1, _⟩ := id tp
      obtain ⟨o2, g2, c2, _⟩ := id hit
      rw [z, g2] at g1
      cases g1
      rw [c1] at c2
      injection c2 with q
      exact absurd q (by decide)
    have hea : e ∉ [it, a] := fun z => by
      rcases List.mem_cons.mp z with z | z
      · exact hne z
      · have z := List.mem_singleton.mp z
        obtain ⟨o1, g1, c1, _⟩ := id tp
        rw [← z, he] at g1
        cases g1
        injection c1 with q
        exact absurd q (by decide)
    have hlt : i < its.toArray.size := by
      have := (List.getElem?_eq_some_iff.mp hu).1
      simpa using this
    refine wpAny_pyNext_enum_itemC (Draws.tuple (show X.A.in1.handled = none from I.ok.hd hcalm) it a hai its.toArray) he ⟨hit, tp⟩ hlt hne hea fun u' h' tk hu' hout hst' hT hsz hk => ?_
    have eu : u' = u := by
      have hu2 : its.toArray[i]? = some u := by simpa using hu
      rw [hu2] at hu'
      exact (Option.some.inj hu').symm
    subst eu
    refine ⟨_, rfl, wpAny_letOwnedTupleGo_enum (s := { s with heap := h', toks := tk + 1 }) hout fun h'' he' sb => ?_⟩
    have hT2 : h''.get? s.heap.objs.size = some { cls := .type "tuple", data := .seq #[.int i tk, u'] } := (sb.2 _ (Nat.ne_of_gt hel)).trans hT
    have fresh : ObjOk X.prog X.w (upd H s.heap.objs.size (.tup [.int (i : Nat), x])) h'' s.heap.objs.size (.tup [.int (i : Nat), x]) :=
      ⟨by show 2 ≤ sizeLine; decide, [.int i tk, u'], .cons ⟨_, rfl⟩ (.cons ru .nil), ⟨_, hT2, rfl, _, rfl⟩⟩
    have I1 : Inv X pins σ (upd H s.heap.objs.size (.tup [.int (i : Nat), x])) { s with heap := h'', toks := tk + 1 } :=
      I.turnedNew (t' := tk + 1) (ch := [e, it]) (fun b ob hb q => (sb.2 b (fun z => hb (by simp [z]))).trans (hk b ob (fun z => hb (by simp [z])) (fun z => hb (by simp [z])) q)) hfp (Nat.le_refl _) fresh
    refine ⟨.ref s.heap.objs.size, _, I1, rfl, ⟨_, x, rfl, I.hok.fresh (Nat.le_refl _), rfl, fun ys hy => by rw [I.tuple_inj hy hq]; exact hx⟩, ⟨⟨u', ?_⟩, hst'.1.at fun ob q => (sb.2 it (Ne.symm hne)).trans q, hne⟩, fun b hb => ?_⟩
    · have e1 : ((i + 1 : Nat) : Int) = (i : Int) + 1 := by omega
      rw [e1]
      exact he'
    · have hb' : b < s.heap.objs.size := by
        rcases List.mem_cons.mp hb with z | z
        · rw [z]; exact hel
        · rw [List.mem_singleton.mp z]; exact hil
      rw [upd_ne (Nat.ne_of_lt hb')]
      exact (hfp b hb).1
  done := by
    intro X hP hw hK hcalm i pins s σ H E I hfp st hgo
    subst hP hw hK
    obtain ⟨⟨old, he⟩, hit, hne⟩ := st
    obtain ⟨xs, hq, hx⟩ := hgo
    obtain ⟨its, rv, tp, hz⟩ := I.tuple hq
    obtain ⟨f0, f1, f2, f3, f4, f5⟩ := hfp it (by simp)
    have hai : a ≠ it := fun z => by
      obtain ⟨o1, g1, c1, _⟩ := id tp
      obtain ⟨o2, g2, c2, _⟩ := id hit
      rw [z, g2] at g1
      cases g1
      rw [c1] at c2
      injection c2 with q
      exact absurd q (by decide)
    have hl : i = its.toArray.size := by
      have := rv.length
      simp only [List.size_toArray]
      omega
    subst hl
    exact wpAny_pyNext_enum_endD (Draws.tuple (show X.A.in1.handled = none from I.ok.hd hcalm) it a hai its.toArray) he ⟨hit, tp⟩ fun h' eb => ⟨rfl, I.turned (t' := s.toks) (fun b ob hb q => eb b ob hb q) f0 f1 f3 f4 f5⟩
  self := fun A i s Q E st hyp => by
    obtain ⟨⟨_, he⟩, _⟩ := st
    exact wpAny_pyIter_enum he hyp
theorem numbered_get {i : Nat} : ∀ {n : Nat} {ds : List D}, (numbered n ds)[i]? = (ds[i]?).map fun d => .tup [.int (n + i : Nat), d] := by
  intro n ds
  induction ds generalizing n i with
  | nil => simp [numbered]
  | cons d ds ih =>
    cases i with
    | zero => simp [numbered]
    | succ i =>
      simp only [numbered, List.getElem?_cons_succ]
      rw [ih, show n + 1 + i = n + (i + 1) by omega]
theorem numbered_len {n : Nat} {ds : List D} : (numbered n ds).length = ds.length := by
  induction ds generalizing n with
  | nil => rfl
  | cons d ds ih => simp [numbered, ih]
theorem pair_new {K : PySem.W.Frag} {F : Nm} {μ : Mu} {H : Hp} {st : Store} {T : Addr} {x y : V} {d e : D} (S : Sto K F μ st H) (hT : H T = none) (r1 : Rp K μ H d x) (r2 : Rp K μ H e y) :
    Post K F μ H st μ (upd H T (.tup [x, y])) ∧ Rp K μ (upd H T (.tup [x, y])) (.tup [d, e]) (.ref T) := by
  have P := Post.fresh (u := .tup [x, y]) S hT
  exact ⟨P, .tup (vs := [x, y]) upd_same (.cons (r1.post P) (.cons (r2.post P) .nil))⟩
section
variable {K : PySem.W.Frag} {F : Nm} {μ : Mu} {H : Hp} {st : Store}
theorem wlk_enumT {ds : List D} {a : Addr} {vs : List V} (h : SqT K H a vs) (rs : Rps K μ H ds vs) : Wlk K F μ H ⟨numbered 0 ds, []⟩ (IteT K a) := by
  intro s2 μ2 H2 P _
  have h2 : SqT K H2 a vs := tup_mono P.tups P.frzs h
  have r2 := rs.post P
  have hl := r2.length
  simp only [numbered_len]
  refine ⟨fun i hi => ⟨vs, vs[i]'(by omega), h2, by simp [← hl, hi]⟩, ⟨vs, h2, hl.symm⟩, fun i x H3 hi y => ?_⟩
  obtain ⟨T, z, rfl, hT, rfl, hz⟩ := y
  have hz := hz vs h2
  have hd : ds[i]? = some ds[i] := by simp [hi]
  obtain ⟨v, e1, e2⟩ := r2.get hd
  rw [hz] at e1
  cases e1
  obtain ⟨q1, q2⟩ := pair_new P.sto hT (.int (i : Nat)) e2
  exact ⟨_, by rw [numbered_get, hd]; simp, q1, q2⟩
theorem wlk_enumL {l : Nat} {a : Addr} {b : Bool} {ds : List D} {o : O} (hl : μ[l]? = some (a, b)) (ho : o = .lst ds ∨ o = .frz ds) : Wlk K F μ H ⟨numbered 0 ds, [(l, o)]⟩ (Ite K a) := by
  intro s2 μ2 H2 P hw
  have e := watOk_mem hw (l := l) (o := o) (by simp)
  obtain ⟨vs, h2, r2⟩ := P.sto.list (ds := ds) (by rcases ho with rfl | rfl; exact .inl e; exact .inr e) (pre_get P.pre hl)
  have hl := r2.length
  simp only [numbered_len]
  refine ⟨fun i hi => ⟨vs, vs[i]'(by omega), h2, by simp [← hl, hi]⟩, ⟨vs, h2, Nat.le_of_eq hl.symm⟩, fun i x H3 hi y => ?_⟩
  obtain ⟨T, z, rfl, hT, rfl, hz⟩ := y
  have hz := hz vs h2
  have hd : ds[i]? = some ds[i] := by simp [hi]
  obtain ⟨v, e1, e2⟩ := r2.get hd
  rw [hz] at e1
  cases e1
  obtain ⟨q1, q2⟩ := pair_new P.sto hT (.int (i : Nat)) e2
  exact ⟨_, by rw [numbered_get, hd]; simp, q1, q2⟩
end
section
variable {X : Cx} {F : Nm}
def iEnumT (K : PySem.W.Frag) (ta : TA) : TI := fun σ H R => ta σ H fun vs H1 => ∃ a xs, vs = [.ref a] ∧ SqT K H1 a xs ∧ R (IteT K a) H1
theorem pi_enumT {e : Expr} {ta : TA} {p pos tpos : Pos} {elts : List Expr} {kk : Nat} (hg : Gl X "enumerate") (hm : X.mg "enumerate" = none) (ha : PA X [e] ta) (hs : starEach [e] X.env = [(false, eval e X.env)]) :
    PI X (.Tuple elts kk tpos) (.Call (.Name "enumerate" p) [e] [] pos) (iEnumT X.K ta) := by
  refine ⟨fun pins s σ H R I hyp => ?_⟩
  refine Call_ (ld_blt I hg hm boot_enumerate (PyProof.Rows.callWith_type1 (thn (ha.run pos pins s σ H _ I hyp) fun us s1 ⟨vs, H1, I1, r1, q1⟩ => ?_) hs rfl))
  obtain ⟨a, xs, ex, hq, q⟩ := q1
  subst ex
  cases r1 with
  | cons r rr =>
    cases rr
    cases r
    obtain ⟨its, rv, tp, hz⟩ := I1.tuple hq
    refine enum_call1 (begins_tuple a its.toArray) (show s1.heap.IsTuple a its.toArray from tp) fun h' he hit hk => wpAny_pyIter_enum he ?_
    have I2 : Inv X pins σ H1 { s1 with heap := h' } := I1.kept (t' := s1.toks) hk
    refine ⟨s1.heap.objs.size + 1, [s1.heap.objs.size + 1, s1.heap.objs.size], _, _, H1, rfl, I2, turn_enumT a (s1.heap.objs.size + 1) s1.heap.objs.size, ⟨⟨.none, he⟩, ⟨_, hit, rfl, rfl⟩, Nat.succ_ne_self _⟩, fun b hb => ?_, q⟩
    have hle : s1.heap.objs.size ≤ b := by
      rcases List.mem_cons.mp hb with z | z
      · rw [z]; exact Nat.le_add_right _ _
      · rw [List.mem_singleton.mp z]; exact Nat.le_refl _
    exact I1.fpOk hle (I1.hok.fresh hle)
theorem pi_enumN {e : Expr} {f : Env → Store → R D} {p pos tpos : Pos} {elts : List Expr} {kk : Nat} (hg : Gl X "enumerate") (hm : X.mg "enumerate" = none) (he : PE X e (tE X.K F f)) (hs : starEach [e] X.env = [(false, eval e X.env)]) :
    PI X (.Tuple elts kk tpos) (.Call (.Name "enumerate" p) [e] [] pos) (tIt X.K F fun ρ st => (f ρ st).bind fun x s => wkEnum x s) := by
  refine ⟨fun pins s σ H R I hyp => ?_⟩
  obtain ⟨μ, ρ, st, S, w⟩ := hyp
  have w := w.bind
  have hA := pa_cons he pa_nil hs
  cases hf : f ρ st with
  | no => rw [hf] at w; exact w.elim
  | ok d s1 =>
    rw [hf] at w
    cases d with
    | tup ds =>
      refine (pi_enumT hg hm hA hs).run pins s σ H R I ⟨μ, ρ, st, S, ?_⟩
      rw [hf]
      intro μ1 H1 P1 v r
      cases r with
      | @tup _ a vs hq rs =>
        have w1 := w μ1 H1 P1
        exact ⟨a, vs, rfl, .of hq, WP.ok P1.sto w1 (IteT X.K a) (wlk_enumT (.of hq) rs)⟩
    | wt ds =>
      refine (pi_enumT hg hm hA hs).run pins s σ H R I ⟨μ, ρ, st, S, ?_⟩
      rw [hf]
      intro μ1 H1 P1 v r
      cases r with
      | @wt _ a vs hq rs =>
        have w1 := w μ1 H1 P1
        exact ⟨a, vs, rfl, hq, WP.ok P1.sto w1 (IteT X.K a) (wlk_enumT hq rs)⟩
    | ref l =>
      refine (pi_enum hg hm hA hs).run pins s σ H R I ⟨μ, ρ, st, S, ?_⟩
      rw [hf]
      intro μ1 H1 P1 v r
      cases r with
      | @ref _ a _ hl =>
        have w1 := w μ1 H1 P1
        obtain ⟨ds, o, ho, hd, w2⟩ : ∃ ds o, (o = .lst ds ∨ o = .frz ds) ∧ s1[l]? = some o ∧ WP X.K F μ1 H1 (.ok ⟨numbered 0 ds, [(l, o)]⟩ s1) (fun w _ μ' H' => ∀ J, Wlk X.K F μ' H' w J → R J H') := by
          simp only [wkEnum, wkSeq] at w1
          cases hst : s1[l]? with
          | none => rw [hst] at w1; exact w1.elim
          | some o =>
            rw [hst] at w1
            cases o with
            | lst ds => exact ⟨_, _, .inl rfl, rfl, w1⟩
            | frz ds => exact ⟨_, _, .inr rfl, rfl, w1⟩
            | _ => exact w1.elim
        obtain ⟨vs, hq, rs⟩ := P1.sto.list (ds := ds) (by rcases ho with rfl | rfl; exact .inl hd; exact .inr hd) hl
        exact ⟨a, vs, rfl, hq, WP.ok P1.sto w2 (Ite X.K a) (wlk_enumL hl ho)⟩
    | _ =>
      have P : ∀ μ1 H1, ¬ Post X.K F μ H s1 μ1 H1 := fun μ1 H1 P => (w μ1 H1 P).elim
      refine (pi_enumT hg hm hA hs).run pins s σ H R I ⟨μ, ρ, st, S, ?_⟩
      rw [hf]
      exact fun μ1 H1 P1 => (P μ1 H1 P1).elim
end
end Nz
namespace Nz
open PySem L2 PyProof.Rows
theorem rev_get {n i : Nat} (h : i < n) : (rangeL 0 n).reverse[i]? = some (.int ((n : Int) - 1 - i)) := by
  have hl : (rangeL 0 n).length = n := by simp [rangeL]
  rw [List.getElem?_reverse (by rw [hl]; exact h), hl]
  simp only [rangeL]
  rw [List.getElem?_map, List.getElem?_range (by omega)]
  simp only [Option.map_some, Option.some.injEq, D.int.injEq]
  omega
theorem wlk_rrange {K : PySem.W.Frag} {F : Nm} {μ : Mu} {H : Hp} {n : Nat} : Wlk K F μ H ⟨(rangeL 0 n).reverse, []⟩ (Itc ((n : Int) - 1) (-1) n) := by
  intro s2 μ2 H2 P _
  have hl : (⟨(rangeL 0 n).reverse, []⟩ : Wk).its.length = n := by simp [rangeL]
  rw [hl]
  refine ⟨fun i hi => hi, Nat.le_refl n, fun i x H3 hi y => ?_⟩
  obtain ⟨rfl, rfl⟩ := y
  refine ⟨.int ((n : Int) - 1 - i), rev_get hi, .refl P.sto, ?_⟩
  rw [show ((n : Int) - 1 + (i : Nat) * (-1)) = (n : Int) - 1 - i by omega]
  exact .int _
section
variable {X : Cx} {F : Nm} {tg : Expr}
theorem pi_rrng1N {a : Expr} {f : Env → Store → R D} {p p2 pos pos2 : Pos} (hg : Gl X "reversed") (hm : X.mg "reversed" = none) (hg2 : Gl X "range") (hm2 : X.mg "range" = none) (he : PE X a (tE X.K F f)) (hs : starEach [a] X.env = [(false, eval a X.env)]) :
    PI X tg (.Call (.Name "reversed" p) [.Call (.Name "range" p2) [a] [] pos2] [] pos) (tIt X.K F fun ρ st => (f ρ st).bind fun x s => (wkRng (.int 0) x s).bind fun w s => .ok ⟨w.its.reverse, []⟩ s) := by
  refine impI (pi_revR hg hm (prg_1 hg2 hm2 he hs) (by rfl)) fun σ H R h => ?_
  obtain ⟨μ, ρ, st, S, w⟩ := h
  refine ⟨μ, ρ, st, S, w.bind.mono fun d s μ1 H1 P1 w1 v r => ?_⟩
  obtain ⟨i, j, e1, rfl, hb, q⟩ := wkRng_ok (Φ := fun w s μ' H' => WP X.K F μ' H' (.ok ⟨w.its.reverse, []⟩ s) fun w _ μ'' H'' => ∀ J, Wlk X.K F μ'' H'' w J → R J H'') P1.sto (.int 0) r w1.bind
  cases e1
  have q := q.ok P1.sto
  refine ⟨j, rfl, hb.1, hb.2.1, hb.2.2.1, hb.2.2.2, ?_⟩
  have e : (j - 0).toNat = j.toNat := by simp
  rw [e] at q ⊢
  have := q _ wlk_rrange
  rw [show (0 : Int) + ((j.toNat : Nat) : Int) - 1 = (j.toNat : Int) - 1 by omega]
  exact this
end
end Nz
namespace Nz
open PySem PySem.Spec L2 PyProof.Rows
/-- the tuple at a and the list at b as they stand at each turn -/
def ItzM (K : PySem.W.Frag) (a b : Addr) : It :=
  ⟨fun i H => ∃ (xs ys : List V) (x y : V), SqT K H a xs ∧ SqL K H b ys ∧ xs[i]? = some x ∧ ys[i]? = some y,
    fun i H v H' => ∃ T x y, v = .ref T ∧ H T = none ∧ H' = upd H T (.tup [x, y]) ∧ (∀ xs, SqT K H a xs → xs[i]? = some x) ∧ ∀ ys, SqL K H b ys → ys[i]? = some y,
    fun i H => ∃ xs ys : List V, SqT K H a xs ∧ SqL K H b ys ∧ ((i = xs.length ∧ i ≤ ys.length) ∨ (i = ys.length ∧ i ≤ xs.length))⟩
/-- the cells of such a walk -/
structure MSt (h : Heap) (z TI TO i1 i2 a b : Addr) (i : Nat) : Prop where
  hz : IsZip h z TI TO .none
  ti : IsTupOf2 h TI (.ref i1) (.ref i2)
  tO : ∃ x y, IsTupOf2 h TO x y
  x1 : h.IsTupleIter i1 a i
  x2 : h.IsListIter i2 b i
theorem turn_zipM {P : Program} {w : World} {K : PySem.W.Frag} {elts : List Expr} {kk : Nat} {tpos : Pos} {a b z TI TO i1 i2 : Addr} (D : ZipSep2 z TI TO i1 i2 [i1, a] [i2, b]) (na : a ≠ i1) (nb : b ≠ i2) (n12 : i1 ≠ i2) :
    Turn P w K (.Tuple elts kk tpos) (ItzM K a b) [z, TI, TO, i1, i2] z (fun i h => MSt h z TI TO i1 i2 a b i) where
  mem := List.mem_cons_self
  obj := fun i h st c hc => by
    obtain ⟨x, y, hTO⟩ := st.tO
    obtain ⟨o1, e1, _, d1⟩ := st.x1
    obtain ⟨o2, e2, _, d2⟩ := st.x2
    simp only [List.mem_cons, List.not_mem_nil, or_false] at hc
    rcases hc with rfl | rfl | rfl | rfl | rfl
    · exact ⟨_, st.hz, fun v q => nomatch q⟩
    · exact ⟨_, st.ti, fun v q => nomatch q⟩
    · exact ⟨_, hTO, fun v q => nomatch q⟩
    · exact ⟨o1, e1, fun v q => by rw [d1] at q; cases q⟩
    · exact ⟨o2, e2, fun v q => by rw [d2] at q; cases q⟩
  keep := fun i h h' st k => by
    obtain ⟨x, y, hTO⟩ := st.tO
    exact ⟨k z (by simp) _ st.hz, k TI (by simp) _ st.ti, ⟨x, y, k TO (by simp) _ hTO⟩, st.x1.at fun o q => k i1 (by simp) o q, st.x2.at fun o q => k i2 (by simp) o q⟩
  item := by
    intro X hP hw hK hc i pins s σ H E I hf st hg
    subst hP hw hK
    obtain ⟨xs, ys, x, y, hqx, hqy, hx, hy⟩ := hg
    obtain ⟨its, rv, p, _⟩ := I.tuple hqx
    obtain ⟨its2, rv2, p2, _⟩ := I.list hqy
    obtain ⟨u, hu, ru⟩ := rv.get hx
    obtain ⟨u2, hu2, ru2⟩ := rv2.get hy
    obtain ⟨x0, y0, hTO⟩ := st.tO
    have hh := I.ok.hd hc
    have zl : z < s.heap.objs.size := Heap.lt_size st.hz
    have hi1 : i < its.toArray.size := by have := (List.getElem?_eq_some_iff.mp hu).1; simpa using this
    have hi2 : i < its2.toArray.size := by have := (List.getElem?_eq_some_iff.mp hu2).1; simpa using this
    refine wpAny_pyNext_zipD2_item D (Draws.tuple (A := X.A.in1) hh i1 a na its.toArray) (Draws.list (A := X.A.in1) hh i2 b nb its2.toArray) st.hz st.ti hTO ⟨st.x1, p⟩ ⟨st.x2, p2.isList⟩ hi1 hi2 fun x1 x2 h' tk y1 y2 z' TO' s1' s2' hT hsz hk => ?_
    have e1 : x1 = u := by simp only [List.getElem?_toArray] at y1; rw [hu] at y1; exact (Option.some.inj y1).symm
    have e2 : x2 = u2 := by simp only [List.getElem?_toArray] at y2; rw [hu2] at y2; exact (Option.some.inj y2).symm
    subst e1 e2
    refine ⟨_, rfl, wpAny_letOwnedTupleGo_zip (s := { s with heap := h', toks := tk }) z' fun h'' z'' sb => ?_⟩
    have hT2 := (sb.2 _ (Nat.ne_of_gt zl)).trans hT
    have new : ObjOk X.prog X.w (upd H s.heap.objs.size (.tup [x, y])) h'' s.heap.objs.size (.tup [x, y]) :=
      ⟨by show 2 ≤ sizeLine; decide, [x1, x2], .cons ru (.cons ru2 .nil), ⟨_, hT2, rfl, _, rfl⟩⟩
    have I1 : Inv X pins σ (upd H s.heap.objs.size (.tup [x, y])) { s with heap := h'', toks := tk } :=
      I.turnedNew (t' := tk) (ch := [z, TI, TO, i1, i2]) (fun c o hb q => by
        simp only [List.mem_cons, List.not_mem_nil, or_false, not_or] at hb
        exact (sb.2 c hb.1).trans (hk c o hb.1 hb.2.2.1 hb.2.2.2.1 hb.2.2.2.2 q)) hf (Nat.le_refl _) new
    refine ⟨.ref s.heap.objs.size, _, I1, rfl, ⟨_, x, y, rfl, I.hok.fresh (Nat.le_refl _), rfl, fun l hl => by rw [I.tuple_inj hl hqx]; exact hx, fun l hl => by rw [I.list_inj hl hqy]; exact hy⟩, ⟨z'', ?_, ⟨x1, x2, ?_⟩, ?_, ?_⟩, fun c hcm => ?_⟩
    · exact (sb.2 _ D.TIz).trans (hk _ _ D.TIz D.TITO D.TIi1 D.TIi2 st.ti)
    · exact (sb.2 _ D.TOz).trans TO'
    · exact s1'.1.at fun o q => (sb.2 _ (Ne.symm D.zi1)).trans q
    · exact s2'.1.at fun o q => (sb.2 _ (Ne.symm D.zi2)).trans q
    · have hlt : c < s.heap.objs.size := by
        simp only [List.mem_cons, List.not_mem_nil, or_false] at hcm
        obtain ⟨o1, e1, _⟩ := st.x1
        obtain ⟨o2, e2, _⟩ := st.x2
        rcases hcm with rfl | rfl | rfl | rfl | rfl
        · exact zl
        · exact Heap.lt_size st.ti
        · exact Heap.lt_size hTO
        · exact Heap.lt_size e1
        · exact Heap.lt_size e2
      rw [upd_ne (Nat.ne_of_lt hlt)]
      exact (hf c hcm).1
  done := by
    intro X hP hw hK hc i pins s σ H E I hf st hg
    subst hP hw hK
    obtain ⟨xs, ys, hqx, hqy, hend⟩ := hg
    obtain ⟨its, rv, p, _⟩ := I.tuple hqx
    obtain ⟨its2, rv2, p2, _⟩ := I.list hqy
    obtain ⟨x0, y0, hTO⟩ := st.tO
    have hh := I.ok.hd hc
    have l1 : its.toArray.size = xs.length := by simp [rv.length]
    have l2 : its2.toArray.size = ys.length := by simp [rv2.length]
    exact wpAny_pyNext_zipD2_end D (Draws.tuple (A := X.A.in1) hh i1 a na its.toArray) (Draws.list (A := X.A.in1) hh i2 b nb its2.toArray) st.hz st.ti hTO ⟨st.x1, p⟩ ⟨st.x2, p2.isList⟩ (by omega) (by omega) (by omega) fun h' tk hk => ⟨rfl, I.turnedL (t' := tk) (ch := [z, TI, TO, i1, i2]) (fun c o hb q => by
      simp only [List.mem_cons, List.not_mem_nil, or_false, not_or] at hb
      exact hk c o hb.1 hb.2.2.1 hb.2.2.2.1 hb.2.2.2.2 q) hf⟩
  self := fun A i s Q E st h => wpAny_pyIter_zip st.hz h
theorem zsep {n a b : Nat} (la : a < n) (lb : b < n) : ZipSep2 (n + 4) (n + 2) (n + 3) n (n + 1) [n, a] [n + 1, b] := by
  have q : ∀ x u v : Nat, x ≠ u → x ≠ v → x ∉ [u, v] := fun x u v h1 h2 hm => by
    simp only [List.mem_cons, List.not_mem_nil, or_false] at hm
    exact hm.elim h1 h2
  have r : ∀ x u : Nat, (x < u ∨ u < x) → x ≠ u := fun x u h => by omega
  exact ⟨r _ _ (by omega), r _ _ (by omega), r _ _ (by omega), r _ _ (by omega), List.mem_cons_self, q _ _ _ (by omega) (by omega), q _ _ _ (by omega) (by omega), r _ _ (by omega), List.mem_cons_self, q _ _ _ (by omega) (by omega), q _ _ _ (by omega) (by omega), q _ _ _ (by omega) (by omega), q _ _ _ (by omega) (by omega)⟩
def iZipM (K : PySem.W.Frag) (ta : TA) : TI := fun σ H R => ta σ H fun vs H1 => ∃ a b xs ys, vs = [.ref a, .ref b] ∧ ((SqL K H1 a xs ∧ SqL K H1 b ys ∧ R (Itz K a b) H1) ∨ (SqT K H1 a xs ∧ SqT K H1 b ys ∧ R (RZ.ItzT K a b) H1) ∨ (SqT K H1 a xs ∧ SqL K H1 b ys ∧ R (ItzM K a b) H1))
theorem pi_zipM {X : Cx} {e e2 : Expr} {ta : TA} {p pos tpos : Pos} {elts : List Expr} {kk : Nat} (hg : Gl X "zip") (hm : X.mg "zip" = none) (ha : PA X [e, e2] ta)
    (hs : starEach [e, e2] X.env = (false, eval e X.env) :: starEach [e2] X.env) (hpl : (backTo pos (starEach [e2] X.env)).any (·.1) = false) :
    PI X (.Tuple elts kk tpos) (.Call (.Name "zip" p) [e, e2] [] pos) (iZipM X.K ta) := by
  refine ⟨fun pins s σ H R I h => Call_ (ld_blt I hg hm PyProof.Rows.boot_zip (PyProof.Rows.callWith_type1 (thn (ha.run pos pins s σ H _ I h) fun us s1 ⟨vs, H1, I1, r1, q1⟩ => ?_) hs hpl))⟩
  obtain ⟨a, b, xs, ys, ex, q1⟩ := q1
  subst ex
  cases r1 with
  | cons r rr =>
  cases rr with
  | cons r' rr =>
  cases rr
  cases r
  cases r'
  have fresh5 : ∀ c, c ∈ [s1.heap.objs.size + 4, s1.heap.objs.size + 2, s1.heap.objs.size + 3, s1.heap.objs.size, s1.heap.objs.size + 1] → FpOk X pins H1 c := fun c hcm => by
    have hle : s1.heap.objs.size ≤ c := by simp only [List.mem_cons, List.not_mem_nil, or_false] at hcm; omega
    exact I1.fpOk hle (I1.hok.fresh hle)
  rcases q1 with ⟨hqx, hqy, q⟩ | ⟨hqx, hqy, q⟩ | ⟨hqx, hqy, q⟩
  · obtain ⟨its, rv, p1, _⟩ := I1.list hqx
    obtain ⟨its2, rv2, p2, _⟩ := I1.list hqy
    refine call_zip_2 p1.isList p2.isList fun h' hz hTI hTO h1 h2 hsz hk => wpAny_pyIter_zip hz ?_
    exact ⟨_, _, _, _, H1, rfl, I1.kept (t' := s1.toks) hk, turn_zip (PySem.W.ktu_apart s1.heap.objs.size a b p1.lt p2.lt), ⟨hz, hTI, ⟨_, _, hTO⟩, h1, h2⟩, fresh5, q⟩
  · obtain ⟨its, rv, p1, _⟩ := I1.tuple hqx
    obtain ⟨its2, rv2, p2, _⟩ := I1.tuple hqy
    obtain ⟨o1, ho1, _⟩ := id p1
    obtain ⟨o2, ho2, _⟩ := id p2
    refine RZ.call_zipT (show s1.heap.IsTuple a its.toArray from p1) (show s1.heap.IsTuple b its2.toArray from p2) fun h' hz hTI hTO h1 h2 hsz hk => wpAny_pyIter_zip hz ?_
    exact ⟨_, _, _, _, H1, rfl, I1.kept (t' := s1.toks) hk, RZ.turn_zipT (PySem.W.ktu_apart s1.heap.objs.size a b (Heap.lt_size ho1) (Heap.lt_size ho2)), ⟨hz, hTI, ⟨_, _, hTO⟩, h1, h2⟩, fresh5, q⟩
  · obtain ⟨its, rv, p1, _⟩ := I1.tuple hqx
    obtain ⟨its2, rv2, p2, _⟩ := I1.list hqy
    obtain ⟨o1, ho1, _⟩ := id p1
    have la : a < s1.heap.objs.size := Heap.lt_size ho1
    have lb : b < s1.heap.objs.size := p2.lt
    refine zip_begins2 (begins_tuple a its.toArray) (begins_list b its2.toArray) p1 p2.isList fun h' hz hTI hTO h1 h2 hsz hk => wpAny_pyIter_zip hz ?_
    exact ⟨_, _, _, _, H1, rfl, I1.kept (t' := s1.toks) hk, turn_zipM (zsep la lb) (Nat.ne_of_lt la) (Nat.ne_of_lt (Nat.lt_succ_of_lt lb)) (Nat.ne_of_lt (Nat.lt_succ_self _)), ⟨hz, hTI, ⟨_, _, hTO⟩, ⟨_, h1, rfl, rfl⟩, ⟨_, h2, rfl, rfl⟩⟩, fresh5, q⟩
end Nz
namespace Nz
open PySem L2 PyProof.Rows
theorem pairs_get {f : D → D → D} : ∀ {a b : List D} {i : Nat} {x y : D}, a[i]? = some x → b[i]? = some y → (pairs f a b)[i]? = some (f x y) := by
  intro a
  induction a with
  | nil => intro b i x y h; simp at h
  | cons u a ih =>
    intro b i x y h h2
    cases b with
    | nil => simp at h2
    | cons v b =>
      cases i with
      | zero => simp at h h2; subst h h2; rfl
      | succ i => simp only [List.getElem?_cons_succ] at h h2; exact ih h h2
theorem pairs_len {f : D → D → D} : ∀ {a b : List D}, (pairs f a b).length = min a.length b.length := by
  intro a
  induction a with
  | nil => intro b; simp [pairs]
  | cons u a ih =>
    intro b
    cases b with
    | nil => simp [pairs]
    | cons v b => simp only [pairs, List.length_cons, ih]; omega
section
variable {K : PySem.W.Frag} {F : Nm} {μ : Mu} {H : Hp} {st : Store}
theorem wlk_zipT {ds es : List D} {a b : Addr} {vs us : List V} (h : SqT K H a vs) (rs : Rps K μ H ds vs) (h' : SqT K H b us) (rs' : Rps K μ H es us) : Wlk K F μ H ⟨pairs (fun a b => .tup [a, b]) ds es, []⟩ (RZ.ItzT K a b) := by
  intro s2 μ2 H2 P _
  have h2 : SqT K H2 a vs := tup_mono P.tups P.frzs h
  have h2' : SqT K H2 b us := tup_mono P.tups P.frzs h'
  have r2 := rs.post P
  have r2' := rs'.post P
  have hl := r2.length
  have hl' := r2'.length
  simp only [pairs_len]
  refine ⟨fun i hi => ⟨vs, us, vs[i]'(by omega), us[i]'(by omega), h2, h2', by simp, by simp⟩, ⟨vs, us, h2, h2', by omega⟩, fun i x H3 hi y => ?_⟩
  obtain ⟨T, z, z', rfl, hT, rfl, hz, hz'⟩ := y
  have hz := hz vs h2
  have hz' := hz' us h2'
  have hd : ds[i]? = some (ds[i]'(by omega)) := List.getElem?_eq_getElem (by omega)
  have hd' : es[i]? = some (es[i]'(by omega)) := List.getElem?_eq_getElem (by omega)
  obtain ⟨v, e1, e2⟩ := r2.get hd
  obtain ⟨v', e1', e2'⟩ := r2'.get hd'
  rw [hz] at e1
  rw [hz'] at e1'
  cases e1
  cases e1'
  obtain ⟨q1, q2⟩ := pair_new P.sto hT e2 e2'
  exact ⟨_, pairs_get hd hd', q1, q2⟩
theorem wlk_zipL {l m : Nat} {a b : Addr} {p q : Bool} {ds es : List D} (hl : μ[l]? = some (a, p)) (hm : μ[m]? = some (b, q)) : Wlk K F μ H ⟨pairs (fun a b => .tup [a, b]) ds es, [(l, .lst ds), (m, .lst es)]⟩ (Itz K a b) := by
  intro s2 μ2 H2 P hw
  have e := watOk_mem hw (l := l) (o := .lst ds) (by simp)
  have e' := watOk_mem hw (l := m) (o := .lst es) (by simp)
  obtain ⟨vs, h2, r2⟩ := P.sto.list (ds := ds) (.inl e) (pre_get P.pre hl)
  obtain ⟨us, h2', r2'⟩ := P.sto.list (ds := es) (.inl e') (pre_get P.pre hm)
  have hl := r2.length
  have hl' := r2'.length
  simp only [pairs_len]
  refine ⟨fun i hi => ⟨vs, us, vs[i]'(by omega), us[i]'(by omega), h2, h2', by simp, by simp⟩, ⟨vs, us, h2, h2', by omega⟩, fun i x H3 hi y => ?_⟩
  obtain ⟨T, z, z', rfl, hT, rfl, hz, hz'⟩ := y
  have hz := hz vs h2
  have hz' := hz' us h2'
  have hd : ds[i]? = some (ds[i]'(by omega)) := List.getElem?_eq_getElem (by omega)
  have hd' : es[i]? = some (es[i]'(by omega)) := List.getElem?_eq_getElem (by omega)
  obtain ⟨v, e1, e2⟩ := r2.get hd
  obtain ⟨v', e1', e2'⟩ := r2'.get hd'
  rw [hz] at e1
  rw [hz'] at e1'
  cases e1
  cases e1'
  obtain ⟨q1, q2⟩ := pair_new P.sto hT e2 e2'
  exact ⟨_, pairs_get hd hd', q1, q2⟩
theorem wlk_zipM {m : Nat} {a b : Addr} {q : Bool} {vs : List V} {ds es : List D} (h : SqT K H a vs) (rs : Rps K μ H ds vs) (hm : μ[m]? = some (b, q)) : Wlk K F μ H ⟨pairs (fun a b => .tup [a, b]) ds es, [(m, .lst es)]⟩ (ItzM K a b) := by
  intro s2 μ2 H2 P hw
  have e' := watOk_mem hw (l := m) (o := .lst es) (by simp)
  have h2 : SqT K H2 a vs := tup_mono P.tups P.frzs h
  have r2 := rs.post P
  obtain ⟨us, h2', r2'⟩ := P.sto.list (ds := es) (.inl e') (pre_get P.pre hm)
  have hl := r2.length
  have hl' := r2'.length
  simp only [pairs_len]
  refine ⟨fun i hi => ⟨vs, us, vs[i]'(by omega), us[i]'(by omega), h2, h2', by simp, by simp⟩, ⟨vs, us, h2, h2', by omega⟩, fun i x H3 hi y => ?_⟩
  obtain ⟨T, z, z', rfl, hT, rfl, hz, hz'⟩ := y
  have hz := hz vs h2
  have hz' := hz' us h2'
  have hd : ds[i]? = some (ds[i]'(by omega)) := List.getElem?_eq_getElem (by omega)
  have hd' : es[i]? = some (es[i]'(by omega)) := List.getElem?_eq_getElem (by omega)
  obtain ⟨v, e1, e2⟩ := r2.get hd
  obtain ⟨v', e1', e2'⟩ := r2'.get hd'
  rw [hz] at e1
  rw [hz'] at e1'
  cases e1
  cases e1'
  obtain ⟨q1, q2⟩ := pair_new P.sto hT e2 e2'
  exact ⟨_, pairs_get hd hd', q1, q2⟩
end
section
variable {X : Cx} {F : Nm}
theorem pi_zipN {a b : Expr} {f g : Env → Store → R D} {p pos tpos : Pos} {elts : List Expr} {kk : Nat} (hg : Gl X "zip") (hm : X.mg "zip" = none) (ha : PE X a (tE X.K F f)) (hb : PE X b (tE X.K F g)) (hs : starEach [a, b] X.env = [(false, eval a X.env), (false, eval b X.env)]) (hs2 : starEach [b] X.env = [(false, eval b X.env)]) :
    PI X (.Tuple elts kk tpos) (.Call (.Name "zip" p) [a, b] [] pos) (tIt X.K F fun ρ st => (f ρ st).bind fun x s => (g ρ s).bind fun y s => wkZip x y s) := by
  have e1 : starEach [a, b] X.env = (false, eval a X.env) :: starEach [b] X.env := by rw [hs, hs2]
  refine impI (pi_zipM hg hm (pa_cons ha (pa_cons hb pa_nil hs2) e1) e1 (by rw [hs2]; rfl)) fun σ H R h => ?_
  obtain ⟨μ, ρ, st, S, w⟩ := h
  refine ⟨μ, ρ, st, S, w.bind.mono fun d s μ1 H1 P1 w1 v r => ?_⟩
  refine ⟨μ1, ρ, s, S.post P1, w1.bind.mono fun d' s' μ2 H2 P2 w2 v' r' => ?_⟩
  have r := r.post P2
  cases r with
  | @tup ds A vs hq rs =>
    cases r' with
    | @tup es B us hq' rs' =>
      exact ⟨A, B, vs, us, rfl, .inr (.inl ⟨.of hq, .of hq', WP.ok P2.sto w2 (RZ.ItzT X.K A B) (wlk_zipT (.of hq) rs (.of hq') rs')⟩)⟩
    | @ref m B q hm =>
      simp only [wkZip] at w2
      split at w2
      · rename_i es h2
        obtain ⟨us, hq', rs'⟩ := P2.sto.list (ds := es) (.inl h2) hm
        exact ⟨A, B, vs, us, rfl, .inr (.inr ⟨.of hq, hq', WP.ok P2.sto w2 (ItzM X.K A B) (wlk_zipM (.of hq) rs hm)⟩)⟩
      · exact w2.elim
    | _ => exact w2.elim
  | @ref l A p hl =>
    cases r' with
    | @ref m B q hm =>
      simp only [wkZip] at w2
      split at w2
      · rename_i ds es h1 h2
        obtain ⟨vs, hq, rs⟩ := P2.sto.list (ds := ds) (.inl h1) hl
        obtain ⟨us, hq', rs'⟩ := P2.sto.list (ds := es) (.inl h2) hm
        exact ⟨A, B, vs, us, rfl, .inl ⟨hq, hq', WP.ok P2.sto w2 (Itz X.K A B) (wlk_zipL hl hm)⟩⟩
      · exact w2.elim
    | _ => exact w2.elim
  | _ =>
    cases r' <;> exact w2.elim
theorem wlk_range3 {K : PySem.W.Frag} {μ : Mu} {H : Hp} {lo c : Int} {n : Nat} : Wlk K F μ H ⟨range3L lo c n, []⟩ (Itc lo c n) := by
  intro s2 μ2 H2 P _
  have hl : (range3L lo c n).length = n := by simp [range3L]
  simp only [hl]
  refine ⟨fun i hi => hi, Nat.le_refl _, fun i x H3 hi y => ?_⟩
  obtain ⟨rfl, rfl⟩ := y
  exact ⟨_, by simp [range3L, hi], .refl P.sto, .int _⟩
theorem pi_rng3N {tg a b c : Expr} {f g h : Env → Store → R D} {p pos : Pos} (hg : Gl X "range") (hm : X.mg "range" = none) (ha : PE X a (tE X.K F f)) (hb : PE X b (tE X.K F g)) (hc : PE X c (tE X.K F h)) (hs1 : starEach [a, b, c] X.env = (false, eval a X.env) :: starEach [b, c] X.env) (hs : starEach [b, c] X.env = [(false, eval b X.env), (false, eval c X.env)]) (hs2 : starEach [c] X.env = [(false, eval c X.env)]) :
    PI X tg (.Call (.Name "range" p) [a, b, c] [] pos) (tIt X.K F fun ρ st => (f ρ st).bind fun x s => (g ρ s).bind fun y s => (h ρ s).bind fun z s => wkRng3 x y z s) := by
  have e1 : starEach [b, c] X.env = (false, eval b X.env) :: starEach [c] X.env := by rw [hs, hs2]
  refine impI (pi_range3 hg hm (pa_cons ha (pa_cons hb (pa_cons hc pa_nil hs2) e1) hs1) hs1 (by rw [hs]; rfl)) fun σ H R h => ?_
  obtain ⟨μ, ρ, st, S, w⟩ := h
  refine ⟨μ, ρ, st, S, w.bind.mono fun d s μ1 H1 P1 w1 v r => ?_⟩
  refine ⟨μ1, ρ, s, S.post P1, w1.bind.mono fun d' s' μ2 H2 P2 w2 v' r' => ?_⟩
  refine ⟨μ2, ρ, s', (S.post P1).post P2, w2.bind.mono fun d3 s3 μ3 H3 P3 w3 v3 r3 => ?_⟩
  have r := (r.post P2).post P3
  have r' := r'.post P3
  cases r with
  | int i =>
    cases r' with
    | int j =>
      cases r3 with
      | int k =>
        simp only [wkRng3] at w3
        obtain ⟨hb, w3⟩ := w3.grd
        simp only [Bool.and_eq_true, decide_eq_true_eq] at hb
        obtain ⟨b1, b2, b3⟩ := hb
        have hn : Builtin.Range.rangeSize i j k = ((Builtin.Range.rangeSize i j k).toNat : Int) := by
          have : 0 ≤ Builtin.Range.rangeSize i j k := by
            unfold Builtin.Range.rangeSize
            split
            · split
              · have := Int.ediv_nonneg (a := j - i - 1) (b := k) (by omega) (by omega); omega
              · omega
            · split
              · have := Int.ediv_nonneg (a := i - j - 1) (b := -k) (by omega) (by omega); omega
              · omega
          omega
        exact ⟨i, j, k, _, rfl, ⟨b1, b2, b3, hn⟩, WP.ok P3.sto w3 _ wlk_range3⟩
      | _ => exact w3.elim
    | _ => exact w3.elim
  | _ => exact w3.elim
theorem splA {a : Expr} {es : List Expr} {f : Env → Store → R D} {k : Env → Store → R (List D)} {p : Pos} (ha : PE X a (tE X.K F f)) (hb : PA X es (tAs X.K F k)) :
    PA X (.Starred a p :: es) (tAs X.K F fun ρ st => (f ρ st).bind fun x s => (seqR x s).bind fun ds s => (k ρ s).bind fun xs s => .ok (ds ++ xs) s) :=
  impA (StX.pa_star ha hb (by rfl)) fun σ H Q w => by
    obtain ⟨μ, ρ, st, S, w⟩ := w
    refine ⟨μ, ρ, st, S, w.bind.mono fun d s μ1 H1 P1 w1 v rv => ?_⟩
    unfold seqR at w1
    cases h1 : seqW d s with
    | none => rw [h1] at w1; exact w1.elim
    | some ds =>
      rw [h1] at w1
      simp only [R.bind_ok] at w1
      obtain ⟨a, vs, rfl, hq, re⟩ := seqW_ok P1.sto rv h1
      refine ⟨a, vs, rfl, hq.symm, μ1, ρ, s, S.post P1, w1.bind.mono fun es s2 μ2 H2 P2 w2 us rs => ?_⟩
      exact WP.ok P2.sto w2 _ ((re.post P2).append rs)
theorem bitsE {a : Expr} {f : Env → Store → R D} {apos pos : Pos} (ha : PE X a (tE X.K F f)) (hb : attributeBase a "bit_length" X.env (eval a X.env) = eval a X.env) (hline : (apos.endLine == pos.line) = true) :
    PE X (.Call (.Attribute a "bit_length" apos) [] [] pos) (tE X.K F fun ρ st => ((f ρ st).bind fun x s => .ok [x] s).bind fun ds s => b1 biBits ds s) :=
  impE (pe_bits ha hb hline) fun σ H Q w => by
    obtain ⟨μ, ρ, st, S, w⟩ := w
    simp only [R.bind_assoc, R.bind_ok] at w
    refine ⟨μ, ρ, st, S, w.bind.mono fun d s μ1 H1 P1 w1 v rv => ?_⟩
    cases rv with
    | int i => exact ⟨i, rfl, WP.ok P1.sto w1 _ (.int _)⟩
    | _ => exact w1.elim
end
end Nz
namespace Nz
open PySem L2 PyProof.Rows
section
variable {K : PySem.W.Frag} {F : Nm} {μ μ' : Mu} {H H' : Hp} {st s : Store}
mutual
theorem Rp.closed : ∀ {d : D} {v : V}, Rp K μ H d v → D.cl μ.length d = true
  | _, _, .non => by simp only [D.cl]
  | _, _, .bl _ => by simp only [D.cl]
  | _, _, .int _ => by simp only [D.cl]
  | _, _, .str _ => by simp only [D.cl]
  | _, _, .tup _ r => by simp only [D.cl]; exact Rps.closed r
  | _, _, .wt _ r => by simp only [D.cl]; exact Rps.closed r
  | _, _, .ref h => by
    simp only [D.cl, decide_eq_true_eq]
    exact (List.getElem?_eq_some_iff.mp h).1
theorem Rps.closed : ∀ {d : List D} {v : List V}, Rps K μ H d v → D.cls μ.length d = true
  | _, _, .nil => by simp only [D.cls]
  | _, _, .cons h t => by simp only [D.cls, Bool.and_eq_true]; exact ⟨Rp.closed h, Rps.closed t⟩
end
mutual
theorem Rp.low (p : μ <+: μ') : ∀ {d : D} {v : V}, Rp K μ' H d v → D.cl μ.length d = true → Rp K μ H d v
  | _, _, .non, _ => .non
  | _, _, .bl _, _ => .bl _
  | _, _, .int _, _ => .int _
  | _, _, .str _, _ => .str _
  | .tup ds, _, .tup h r, c => .tup h (Rps.low p r (by simpa only [D.cl] using c))
  | .wt ds, _, .wt h r, c => .wt h (Rps.low p r (by simpa only [D.cl] using c))
  | .ref l, _, .ref h, c => by
    simp only [D.cl, decide_eq_true_eq] at c
    obtain ⟨t, rfl⟩ := p
    rw [List.getElem?_append_left c] at h
    exact .ref h
theorem Rps.low (p : μ <+: μ') : ∀ {d : List D} {v : List V}, Rps K μ' H d v → D.cls μ.length d = true → Rps K μ H d v
  | _, _, .nil, _ => .nil
  | d :: ds, _, .cons h t, c => by
    simp only [D.cls, Bool.and_eq_true] at c
    exact .cons (Rp.low p h c.1) (Rps.low p t c.2)
end
theorem RpF.closed : ∀ {fs : List (Nat × D)} {fv : List (Str × V)}, RpF K F μ H fs fv → D.cls μ.length (fs.map (·.2)) = true
  | _, _, .nil => by simp only [List.map_nil, D.cls]
  | _, _, .cons h t => by simp only [List.map_cons, D.cls, Bool.and_eq_true]; exact ⟨h.2.closed, RpF.closed t⟩
theorem RpF.low (p : μ <+: μ') : ∀ {fs : List (Nat × D)} {fv : List (Str × V)}, RpF K F μ' H fs fv → D.cls μ.length (fs.map (·.2)) = true → RpF K F μ H fs fv
  | _, _, .nil, _ => .nil
  | f :: fs, _, .cons h t, c => by
    simp only [List.map_cons, D.cls, Bool.and_eq_true] at c
    exact .cons ⟨h.1, h.2.low p c.1⟩ (RpF.low p t c.2)
theorem keyD_cl (n : Nat) (k : L2.Key) : D.cl n (keyD k) = true := by cases k <;> simp only [keyD, D.cl]
theorem keysD_cl (n : Nat) (k : List L2.Key) : D.cl n (keysD k) = true := by
  simp only [keysD, D.cl]
  induction k with
  | nil => simp only [List.map_nil, D.cls]
  | cons a l ih => simp only [List.map_cons, D.cls, keyD_cl, ih, Bool.and_self]
theorem RpD.closed {κ : Type} {kd : κ → D} (hk : ∀ n k, D.cl n (kd k) = true) : ∀ {fs : List (D × D)} {fv : List (κ × V)}, RpD kd K μ H fs fv → D.cls μ.length (fs.map (·.1)) = true ∧ D.cls μ.length (fs.map (·.2)) = true
  | _, _, .nil => by simp only [List.map_nil, D.cls, and_self]
  | _, _, .cons h t => by
    obtain ⟨h1, h2⟩ := RpD.closed hk t
    simp only [List.map_cons, D.cls, Bool.and_eq_true]
    exact ⟨⟨by rw [h.1]; exact hk _ _, h1⟩, ⟨h.2.closed, h2⟩⟩
theorem RpD.low {κ : Type} {kd : κ → D} (p : μ <+: μ') : ∀ {fs : List (D × D)} {fv : List (κ × V)}, RpD kd K μ' H fs fv → D.cls μ.length (fs.map (·.2)) = true → RpD kd K μ H fs fv
  | _, _, .nil, _ => .nil
  | f :: fs, _, .cons h t, c => by
    simp only [List.map_cons, D.cls, Bool.and_eq_true] at c
    exact .cons ⟨h.1, h.2.low p c.1⟩ (RpD.low p t c.2)
theorem RpH.closed {a : Addr} {o : O} (r : RpH K F μ H a o) : O.cl μ.length o = true := by
  cases o with
  | lst ds => obtain ⟨_, _, r⟩ := r; exact r.closed
  | frz ds => obtain ⟨_, _, _, r⟩ := r; exact r.closed
  | ins c fs => obtain ⟨_, _, _, _, _, r⟩ := r; exact RpF.closed r
  | dct t kvs =>
    simp only [O.cl, Bool.and_eq_true]
    cases t with
    | false => obtain ⟨_, _, r⟩ := r; exact r.closed keyD_cl
    | true => obtain ⟨_, _, r⟩ := r; exact r.closed keysD_cl
  | dlk t kvs =>
    simp only [O.cl, Bool.and_eq_true]
    cases t with
    | false => obtain ⟨_, _, _, r⟩ := r; exact r.closed keyD_cl
    | true => obtain ⟨_, _, _, r⟩ := r; exact r.closed keysD_cl
theorem RpK.closed {a : Addr} {o : O} (r : RpK K μ H a o) : O.cl μ.length o = true := by
  cases o with
  | frz ds => obtain ⟨_, _, _, _, _, _, _, _, _, _, r⟩ := r; exact r.closed
  | _ => exact r.elim
theorem RpH.low (p : μ <+: μ') {a : Addr} {o : O} (r : RpH K F μ' H a o) (c : O.cl μ.length o = true) : RpH K F μ H a o := by
  cases o with
  | lst ds => obtain ⟨vs, h, r⟩ := r; exact ⟨vs, h, r.low p c⟩
  | frz ds => obtain ⟨ob, vs, h, r⟩ := r; exact ⟨ob, vs, h, r.low p c⟩
  | ins k fs => obtain ⟨C, dx, fv, h1, h2, r⟩ := r; exact ⟨C, dx, fv, h1, h2, RpF.low p r c⟩
  | dct t kvs =>
    simp only [O.cl, Bool.and_eq_true] at c
    cases t with
    | false => obtain ⟨kv, h, r⟩ := r; exact ⟨kv, h, r.low p c.2⟩
    | true => obtain ⟨kv, h, r⟩ := r; exact ⟨kv, h, r.low p c.2⟩
  | dlk t kvs =>
    simp only [O.cl, Bool.and_eq_true] at c
    cases t with
    | false => obtain ⟨od, kv, h, r⟩ := r; exact ⟨od, kv, h, r.low p c.2⟩
    | true => obtain ⟨od, kv, h, r⟩ := r; exact ⟨od, kv, h, r.low p c.2⟩
theorem RpK.low (p : μ <+: μ') {a : Addr} {o : O} (r : RpK K μ' H a o) (c : O.cl μ.length o = true) : RpK K μ H a o := by
  cases o with
  | frz ds => obtain ⟨vs, o, its, n, q1, q2, q3, q4, q5, q6, r⟩ := r; exact ⟨vs, o, its, n, q1, q2, q3, q4, q5, q6, r.low p c⟩
  | _ => exact r.elim
theorem Sto.closed (S : Sto K F μ st H) {l : Nat} {o : O} (h : st[l]? = some o) : O.cl μ.length o = true := by
  obtain ⟨a, b, _, r⟩ := S.addr h
  rcases r with r | r
  · exact r.closed
  · exact r.closed
theorem pfx_get {n : Nat} : ∀ {st s : Store}, pfx n st s = true → ∀ {l : Nat} {o : O}, st[l]? = some o → ∃ p, s[l]? = some p ∧ (o = p ∨ O.cl n p = true)
  | [], _, _, l, o, e => by simp at e
  | _ :: _, [], h, _, _, _ => by simp [pfx] at h
  | o :: os, p :: ps, h, 0, q, e => by
    simp only [pfx, Bool.and_eq_true, Bool.or_eq_true] at h
    simp at e; subst e
    refine ⟨p, rfl, ?_⟩
    rcases h.1 with h | h
    · exact .inl (O.beq_eq h)
    · exact .inr h
  | o :: os, p :: ps, h, l + 1, q, e => by
    simp only [pfx, Bool.and_eq_true] at h
    simpa using pfx_get h.2 (l := l) (by simpa using e)
theorem pfx_len {n : Nat} : ∀ {st s : Store}, pfx n st s = true → st.length ≤ s.length
  | [], _, _ => Nat.zero_le _
  | _ :: _, [], h => by simp [pfx] at h
  | o :: os, p :: ps, h => by
    simp only [pfx, Bool.and_eq_true] at h
    exact Nat.succ_le_succ (pfx_len h.2)
/-- the first places alone -/
theorem Sto.cutS (S : Sto K F μ st H) (P : Post K F μ H s μ' H') (h : pfx st.length st s = true) : Sto K F μ (s.take st.length) H' := by
  have hlen := pfx_len h
  have in_ : ∀ {l : Nat} {o : O}, (s.take st.length)[l]? = some o → l < st.length ∧ s[l]? = some o := fun {l o} e => by
    rw [List.getElem?_take] at e
    split at e
    · exact ⟨by assumption, e⟩
    · cases e
  have hc : ∀ {l : Nat} {o : O}, l < st.length → s[l]? = some o → O.cl μ.length o = true := fun {l o} hl e => by
    obtain ⟨p, hp, hq⟩ := pfx_get h (l := l) (o := st[l]) (by simp [hl])
    rw [e] at hp
    cases hp
    rcases hq with hq | hq
    · rw [← hq]; exact S.closed (l := l) (by simp [hl])
    · rw [S.len]; exact hq
  refine ⟨by rw [List.length_take, Nat.min_eq_left hlen, S.len], fun l o a e1 e2 => ?_, fun l o a e1 e2 => ?_, S.inj⟩
  · obtain ⟨hl, e⟩ := in_ e1
    exact (P.sto.at_ l o a e (pre_get P.pre e2)).low P.pre (hc hl e)
  · obtain ⟨hl, e⟩ := in_ e1
    exact (P.sto.atk l o a e (pre_get P.pre e2)).low P.pre (hc hl e)
theorem gc_ok {r : R D} {Q : VK} (S : Sto K F μ st H) (w : WP K F μ H (gc st r) (VQ K Q)) : WP K F μ H r (VQ K Q) := by
  cases r with
  | no => exact w
  | ok d s =>
    unfold gc at w
    simp only at w
    split at w
    · rename_i hp
      split at w
      · rename_i hc
        intro μ' H' P v rv
        have S' := S.cutS P hp
        refine w μ H' ⟨List.prefix_refl _, P.frm, fun a h n => absurd h n, S'⟩ v (rv.low P.pre (by rw [S.len]; exact hc))
      · rename_i hc
        split at w
        · rename_i l
          split at w
          · rename_i o ho
            split at w
            · rename_i hoc
              intro μ' H' P v rv
              have S' := S.cutS P hp
              cases rv with
              | @ref _ a b hl =>
                have hln : st.length ≤ l := by
                  simp only [D.cl, decide_eq_true_eq] at hc
                  omega
                have hlen := pfx_len hp
                have tl : (s.take st.length).length = st.length := by rw [List.length_take, Nat.min_eq_left hlen]
                have hoc' : O.cl μ.length o = true := by rw [S.len]; exact hoc
                have cs : ∀ {m : Nat} {q : O}, (s.take st.length ++ [o])[m]? = some q → (m < st.length ∧ (s.take st.length)[m]? = some q) ∨ (m = st.length ∧ q = o) := fun {m q} e1 => by
                  by_cases hm : m < st.length
                  · rw [List.getElem?_append_left (by rw [tl]; exact hm)] at e1
                    exact .inl ⟨hm, e1⟩
                  · have hm' : m = st.length := by
                      have := (List.getElem?_eq_some_iff.mp e1).1
                      rw [List.length_append, tl] at this
                      simp at this; omega
                    subst hm'
                    rw [List.getElem?_append_right (by rw [tl]; exact Nat.le_refl _), tl] at e1
                    simp at e1
                    exact .inr ⟨rfl, e1.symm⟩
                have cm : ∀ {m : Nat} {c : Addr × Bool}, (μ ++ [(a, b)])[m]? = some c → (m < st.length ∧ μ[m]? = some c) ∨ (m = st.length ∧ c = (a, b)) := fun {m c} e1 => by
                  by_cases hm : m < st.length
                  · rw [List.getElem?_append_left (by rw [S.len]; exact hm)] at e1
                    exact .inl ⟨hm, e1⟩
                  · have hm' : m = st.length := by
                      have := (List.getElem?_eq_some_iff.mp e1).1
                      rw [List.length_append, S.len] at this
                      simp at this; omega
                    subst hm'
                    rw [List.getElem?_append_right (by rw [S.len]; exact Nat.le_refl _), S.len] at e1
                    simp at e1
                    exact .inr ⟨rfl, e1.symm⟩
                refine w (μ ++ [(a, b)]) H' ⟨List.prefix_append _ _, P.frm, fun c h n => ?_, ⟨by simp [S'.len], fun m q c e1 e2 => ?_, fun m q c e1 e2 => ?_, fun m m' c e1 e2 => ?_⟩⟩ _ (.ref (b := b) (by rw [← S.len]; simp))
                · rcases List.mem_append.mp h with h | h
                  · exact absurd h n
                  · have e := List.mem_singleton.mp h
                    cases e
                    exact P.new a (List.mem_iff_getElem?.mpr ⟨l, hl⟩) n
                · rcases cs e1 with ⟨k1, k2⟩ | ⟨k1, k2⟩ <;> rcases cm e2 with ⟨j1, j2⟩ | ⟨j1, j2⟩
                  · exact (S'.at_ m q _ k2 j2).keep (List.prefix_append _ _) (fun _ _ h => h) (fun _ _ _ h => h) rfl
                  · omega
                  · omega
                  · cases j2
                    subst k2
                    exact ((P.sto.at_ l q a ho hl).low P.pre hoc').keep (List.prefix_append _ _) (fun _ _ h => h) (fun _ _ _ h => h) rfl
                · rcases cs e1 with ⟨k1, k2⟩ | ⟨k1, k2⟩ <;> rcases cm e2 with ⟨j1, j2⟩ | ⟨j1, j2⟩
                  · exact (S'.atk m q c k2 j2).keep (List.prefix_append _ _) (fun _ _ h => h) (fun _ _ _ h => h)
                  · omega
                  · omega
                  · cases j2
                    subst k2
                    exact ((P.sto.atk l q a ho hl).low P.pre hoc').keep (List.prefix_append _ _) (fun _ _ h => h) (fun _ _ _ h => h)
                · rcases cm e1 with ⟨k1, k2⟩ | ⟨k1, k2⟩ <;> rcases cm e2 with ⟨j1, j2⟩ | ⟨j1, j2⟩
                  · exact S.inj m m' c k2 j2
                  · cases j2
                    have := P.sto.inj m l _ (pre_get P.pre k2) hl
                    omega
                  · cases k2
                    have := P.sto.inj m' l _ (pre_get P.pre j2) hl
                    omega
                  · omega
            · exact w
          · exact w
        · exact w
    · exact w
end
end Nz
namespace Nz
open PySem L2 PyProof.Rows
def spOf (K : PySem.W.Frag) (F : Nm) (g : List D → Store → R D) : Sp := fun vs H Q _ => ∃ μ st ds, Sto K F μ st H ∧ Rps K μ H ds vs ∧ WP K F μ H (g ds st) (VQ K Q)
/-- a def with one keyword-only parameter, its last -/
def KwOk (X : Cx) (F : Nm) (call : Nat → List D → Store → R D) (x : Str) (i : Nat) (kn : Str) (d : Option D) : Prop :=
  ∃ (f : Addr) (fd : FuncData) (ps : List Str) (k n : Nat), X.mg x = some (.ref f) ∧ PySem.W.keepIn X.K (.ref f) = true ∧ Room k X.A ∧ FnOk X.prog X.w X.K X.mg X.base CX0 k f fd ps (spOf X.K F (call i)) ∧ KBn X.K fd ps n [kn] (fun us ws => us ++ ws) (fun vs zs => vs ++ zs) ∧ ps.length = n + 1 ∧
    ∀ d', d = some d' → ∃ (u : Value) (v : V), Binds X.K fd ps [u] ∧ RelV v u ∧ ∀ μ H, Rp X.K μ H d' v
/-- a method with a star parameter, by positional values -/
def spSt (K : PySem.W.Frag) (F : Nm) (g : List D → Store → R D) : Sp := fun vs H Q E => ∃ ws rest, vs = ws ++ rest ∧ ws.length = 1 ∧ rest.length ≤ sizeLine ∧ ∀ p, H p = none → spOf K F g (ws ++ [.ref p]) (upd H p (.tup rest)) Q E
/-- what is known where a translated text runs -/
structure Ok (X : Cx) (F : Nm) (T : Tab) (G : Ctx) (call : Nat → List D → Store → R D) : Prop where
  calm : X.calm = true
  nd : X.N.Nodup
  hN : X.N = T.N
  hu : X.A.units + 64 < cLine
  fns : ∀ (x : Str) (i : Nat), T.fns.lookup x = some i → ∃ (f : Addr) (fd : FuncData) (ps : List Str) (k : Nat), X.mg x = some (.ref f) ∧ PySem.W.keepIn X.K (.ref f) = true ∧ Room k X.A ∧ FnOk X.prog X.w X.K X.mg X.base CX0 k f fd ps (spOf X.K F (call i)) ∧ Binds X.K fd ps []
  cls : ∀ (x : Str) (c : Nat), T.cls.lookup x = some c → ∃ C, F.cls c = some C ∧ X.mg x = some (.ref C)
  cons : ∀ (x : Str) (d : D), T.cons.lookup x = some d → ∃ (u : Value) (v : V), X.mg x = some u ∧ RelV v u ∧ ∀ μ H, Rp X.K μ H d v
  free : ∀ x ∈ T.free, X.mg x = none
  kit : Kit X.K F
  fld : F.fld = T.fld
  fnd : T.fld.Nodup
  noat : ∀ (c : Nat) (C : Addr) (x : Str), F.cls c = some C → x ∈ T.fld → NoAttr X.K C x
  stm : ∀ (m : Nat) (x : Str) (c i : Nat), T.mth[m]? = some x → T.sts.contains x = true → atOf G.meth m c = some i → x ∉ T.fld ∧ ∃ (C f : Addr) (k : Nat), F.cls c = some C ∧ BMeth X.K C x f ∧ Room k X.A ∧ FnR X.prog X.w X.K X.mg X.base CX0 k f (spSt X.K F (call i))
  mth : ∀ (m : Nat) (x : Str) (c i : Nat), T.mth[m]? = some x → T.sts.contains x = false → atOf G.meth m c = some i → x ∉ T.fld ∧ ∃ (C f : Addr) (fd : FuncData) (ps : List Str) (k : Nat), F.cls c = some C ∧ Meth X.K C x f ∧ Room k X.A ∧ FnOk X.prog X.w X.K X.mg X.base CX0 k f fd ps (spOf X.K F (call i)) ∧ Binds X.K fd ps []
  prp : ∀ (m : Nat) (x : Str) (c i : Nat), T.prp[m]? = some x → atOf G.prop m c = some i → ∃ (C p f : Addr) (fd : FuncData) (ps : List Str) (k : Nat), F.cls c = some C ∧ PropOf X.K C x p f ∧ Room (k + 1) X.A ∧ FnOk X.prog X.w X.K X.mg X.base CX0 k f fd ps (spOf X.K F (call i)) ∧ Binds X.K fd ps []
  mks : ∀ (x : Str) (c i : Nat), T.cls.lookup x = some c → G.init[c]? = some (some i) → ∃ (C f : Addr) (fd : FuncData) (ps : List Str) (k : Nat), F.cls c = some C ∧ Mk X.K C f ∧ Room (k + 1) X.A ∧ FnOk X.prog X.w X.K X.mg X.base CX0 k f fd ps (spOf X.K F (call i)) ∧ Binds X.K fd ps []
  kfs : ∀ (x : Str) (i : Nat) (kn : Str) (d : Option D), T.kfs.lookup x = some (i, kn, d) → KwOk X F call x i kn d
section
variable {X : Cx} {F : Nm} {T : Tab} {G : Ctx} {call : Nat → List D → Store → R D}
theorem Ok.blk (o : Ok X F T G call) (s : Shared) (H : Hp) (scope : Scope) (ce : PySem.Env) (fp : List Addr) : Ok (X.blk s H scope ce fp) F T G call :=
  ⟨o.calm, o.nd, o.hN, o.hu, o.fns, o.cls, o.cons, o.free, o.kit, o.fld, o.fnd, o.noat, o.stm, o.mth, o.prp, o.mks, o.kfs⟩
theorem ixOf_ok {x : Str} : ∀ {l : List Str} {i : Nat}, ixOf x l = some i → l[i]? = some x
  | y :: ys, i, h => by
    simp only [ixOf] at h
    split at h
    · rename_i e; cases h; simp [e]
    · split at h
      · rename_i e
        cases h
        simpa using ixOf_ok e
      · cases h
theorem isVis_ok {sc : Scope} {x : Str} (h : isVis sc x = true) : Vis sc x := by
  unfold isVis at h
  unfold Vis
  split at h
  · exact .inl (by assumption)
  · exact .inr (.inl (by assumption))
  · exact .inr (.inr (by assumption))
  · cases h
theorem isLoc_ok {sc : Scope} {x : Str} (h : isLoc sc x = true) : L2.Loc sc x := by
  unfold isLoc at h
  unfold L2.Loc
  split at h
  · exact .inl (by assumption)
  · exact .inr (by assumption)
  · cases h
theorem isGl_ok {X : Cx} {x : Str} (h : isGl X.env.scope x = true) : Gl X x ∧ (x == ("__debug__" : Str)) = false := by
  unfold isGl at h
  split at h
  · refine ⟨by assumption, ?_⟩
    have : ¬ x = ("__debug__" : Str) := by simpa using h
    simpa using this
  · cases h
theorem isFree_ok (o : Ok X F T G call) {x : Str} (h : isFree T X.env.scope x = true) : Gl X x ∧ (x == ("__debug__" : Str)) = false ∧ X.mg x = none := by
  unfold isFree at h
  rw [Bool.and_eq_true] at h
  obtain ⟨h1, h2⟩ := isGl_ok h.1
  obtain ⟨y, hy, e⟩ := List.any_eq_true.mp h.2
  rw [← of_decide_eq_true e]
  exact ⟨by rw [of_decide_eq_true e]; exact h1, by rw [of_decide_eq_true e]; exact h2, o.free y hy⟩
theorem var_ok (o : Ok X F T G call) {x : Str} {i : Nat} {pos : Pos} (h : trVar T X.env.scope x = some i) : PE X (.Name x pos) (tE X.K F fun ρ st => R.ofO (ρ[i]?.join) st) := by
  unfold trVar at h
  split at h
  · rename_i hb
    simp only [Bool.and_eq_true, Bool.not_eq_true', Bool.or_eq_false_iff, decide_eq_false_iff_not] at hb
    have hx : ¬ x = ("__debug__" : Str) := hb.2.1
    have hy : ¬ x = ("__classdict__" : Str) := hb.2.2
    refine impE (pe_var (i := i) (by rw [o.hN]; exact ixOf_ok h) (isVis_ok hb.1) (by simpa using hx) (by simpa using hy)) fun σ H Q w => ?_
    obtain ⟨μ, ρ, st, S, w⟩ := w
    have w : WP X.K F μ H (R.ofO (ρ[i]?.join) st) (VQ X.K Q) := w
    cases e : ρ[i]? with
    | none => rw [e] at w; exact w.elim
    | some d =>
      cases d with
      | none => rw [e] at w; exact w.elim
      | some d =>
        rw [e] at w
        obtain ⟨v, h1, r⟩ := S.env i d e
        exact ⟨v, h1, WP.ok S.sto w v r⟩
  · cases h
theorem con_ok {c : Const} {d : D} {k : Nat} {pos : Pos} (h : (match c with
      | .none => some (E.con .non)
      | .bool b => some (.con (.bl b))
      | .int i => some (.con (.int i))
      | .str s => some (.con (.str s))
      | _ => none) = some (E.con d)) : PE X (.Constant c k pos) (tE X.K F fun _ st => .ok d st) := by
  cases c <;> simp only [Option.some.injEq, E.con.injEq, reduceCtorEq] at h <;> subst h
  · exact impE pe_non fun σ H Q ⟨μ, ρ, st, S, w⟩ => WP.ok S.sto w _ .non
  · exact impE pe_bl fun σ H Q ⟨μ, ρ, st, S, w⟩ => WP.ok S.sto w _ (.bl _)
  · exact impE pe_int fun σ H Q ⟨μ, ρ, st, S, w⟩ => WP.ok S.sto w _ (.int _)
  · exact impE pe_str fun σ H Q ⟨μ, ρ, st, S, w⟩ => WP.ok S.sto w _ (.str _)
section
variable {a b c : Expr} {f g h : Env → Store → R D} {pos : Pos}
/-- two values, one after another -/
theorem two_ok {K : PySem.W.Frag} {j : D → D → Store → R D} {r : R2} (hr : ∀ x y H Q, rD K F j x y H Q → r x y H Q) {σ : L2.St} {H : Hp} {Q : VK} (w : tE K F (fun ρ st => (f ρ st).bind fun x s => (g ρ s).bind fun y s => j x y s) σ H Q) :
    tOp r (tE K F f) (tE K F g) σ H Q := by
  obtain ⟨μ, ρ, st, S, w⟩ := w
  refine ⟨μ, ρ, st, S, w.bind.mono fun d s μ1 H1 P1 w1 v rv => ?_⟩
  refine ⟨μ1, ρ, s, S.post P1, w1.bind.mono fun e s2 μ2 H2 P2 w2 u ru => ?_⟩
  exact hr _ _ _ _ ⟨μ2, s2, d, e, P2.sto, rv.post P2, ru, w2⟩
theorem one_ok {K : PySem.W.Frag} {j : D → Store → R D} {r : V → Hp → VK → Prop} (hr : ∀ (μ : Mu) (st : Store) (d : D) (v : V) (H : Hp) (Q : VK), Sto K F μ st H → Rp K μ H d v → WP K F μ H (j d st) (VQ K Q) → r v H Q) {σ : L2.St} {H : Hp} {Q : VK} (w : tE K F (fun ρ st => (f ρ st).bind fun x s => j x s) σ H Q) :
    tE K F f σ H fun v H1 => r v H1 Q := by
  obtain ⟨μ, ρ, st, S, w⟩ := w
  exact ⟨μ, ρ, st, S, w.bind.mono fun d s μ1 H1 P1 w1 v rv => hr _ _ _ _ _ _ P1.sto rv w1⟩
theorem binE {op : Operator} {o : BinO} (ho : trBin op = some o) (ha : PE X a (tE X.K F f)) (hb : PE X b (tE X.K F g)) : PE X (.BinOp a op b pos) (tE X.K F fun ρ st => (f ρ st).bind fun x s => (g ρ s).bind fun y s => binop o x y s) :=
  impE (pe_op (bin_ok (F := F) ho) ha hb) fun σ H Q w => two_ok (fun _ _ _ _ z => z) w
theorem negE (ha : PE X a (tE X.K F f)) : PE X (.UnaryOp .USub a pos) (tE X.K F fun ρ st => (f ρ st).bind fun x s => (match x with
    | .int i => .ok (.int (-i)) s
    | _ => .no)) :=
  impE (pe_un un_neg ha) fun σ H Q w => one_ok (r := rU fun i => .int (-i)) (fun μ st d v H Q S r w => by
    cases r with
    | int i => exact ⟨i, rfl, WP.ok (Φ := VQ X.K Q) S w _ (.int (-i))⟩
    | _ => exact w.elim) w
theorem notE (ha : PE X a (tE X.K F f)) : PE X (.UnaryOp .Not a pos) (tE X.K F fun ρ st => (f ρ st).bind fun x s => (match x with
    | .bl b => .ok (.bl (!b)) s
    | _ => .no)) :=
  impE (pe_not ha) fun σ H Q w => one_ok (r := fun x H Q => ∃ c, x = .bl c ∧ Q (.bl (!c)) H) (fun μ st d v H Q S r w => by
    cases r with
    | bl i => exact ⟨i, rfl, WP.ok S w _ (.bl _)⟩
    | _ => exact w.elim) w
theorem cmpE (hu : X.A.units + 64 < cLine) {op : CmpOp} (ha : PE X a (tE X.K F f)) (hb : PE X b (tE X.K F g)) (hm : behindInMarks op b = false) : PE X (.Compare a [op] [b] pos) (tE X.K F fun ρ st => (f ρ st).bind fun x s => (g ρ s).bind fun y s => cmpop (trCmp op) x y s) :=
  impE (pe_cmpR (cmp_ok (F := F) hu op) ha hb hm) fun σ H Q w => two_ok (fun _ _ _ _ z => z) w
theorem asB_bl {K : PySem.W.Frag} {μ : Mu} {H : Hp} {r : R D} {Q : Bool → Hp → Prop} (h : ∀ d s, r = .ok d s → ∃ b, d = .bl b) (w : WP K F μ H (r.bind fun d s => R.asB d s) fun b _ _ H' => Q b H') : WP K F μ H r (VQ K fun x H' => ∃ k, x = .bl k ∧ Q k H') := by
  cases r with
  | no => exact w
  | ok d s =>
    obtain ⟨b, rfl⟩ := h d s rfl
    intro μ' H' P v r
    cases r
    exact ⟨b, rfl, w μ' H' P⟩
theorem ofB_bl {o : Option Bool} {st s : Store} {d : D} (h : R.ofB o st = .ok d s) : ∃ b, d = .bl b := by
  cases o with
  | none => cases h
  | some b => cases h; exact ⟨b, rfl⟩
theorem cmpop_bl {o : CmpO} {x y d : D} {st s : Store} (h : cmpop o x y st = .ok d s) : ∃ b, d = .bl b := by
  unfold cmpop at h
  split at h
  · exact ofB_bl h
  · exact ofB_bl h
  · split at h
    · exact ofB_bl h
    · split at h
      · exact ofB_bl h
      · cases h
    · cases h
  · split at h
    · exact ofB_bl h
    · split at h
      · exact ofB_bl h
      · cases h
    · cases h
  · exact ofB_bl h
  · exact ofB_bl h
  · split at h
    · exact ofB_bl h
    · split at h
      · exact ofB_bl h
      · cases h
    · cases h
theorem cmpT (hu : X.A.units + 64 < cLine) {op : CmpOp} (ha : PE X a (tE X.K F f)) (hb : PE X b (tE X.K F g)) (hm : behindInMarks op b = false) : PT X (.Compare a [op] [b] pos) (tCo X.K F fun ρ st => ((f ρ st).bind fun x s => (g ρ s).bind fun y s => cmpop (trCmp op) x y s).bind fun d s => R.asB d s) :=
  impT (pt_cmpR (cmp_ok (F := F) hu op) ha hb hm) fun σ H Q w => by
    obtain ⟨μ, ρ, st, S, w⟩ := w
    refine two_ok (j := cmpop (trCmp op)) (F := F) (fun _ _ _ _ z => z) ⟨μ, ρ, st, S, asB_bl (fun d s e => ?_) w⟩
    cases hf : f ρ st with
    | no => simp only [hf, R.bind_no, reduceCtorEq] at e
    | ok x s1 =>
      simp only [hf, R.bind_ok] at e
      cases hg : g ρ s1 with
      | no => simp only [hg, R.bind_no, reduceCtorEq] at e
      | ok y s2 =>
        simp only [hg, R.bind_ok] at e
        exact cmpop_bl e
/-- a chain of two comparisons -/
abbrev chainR (o p : CmpO) (f g h : Env → Store → R D) : Env → Store → R D := fun ρ st => (f ρ st).bind fun x s => (g ρ s).bind fun y s => (cmpop o x y s).bind fun k s => (match k with
    | .bl true => (h ρ s).bind fun z s => cmpop p y z s
    | .bl false => .ok (.bl false) s
    | _ => .no)
theorem chain_ok {op op' : CmpOp} {σ : L2.St} {H : Hp} {Q : VK} (w : tE X.K F (chainR (trCmp op) (trCmp op') f g h) σ H Q) :
    tChain (rD X.K F (cmpop (trCmp op))) (rD X.K F (cmpop (trCmp op'))) (tE X.K F f) (tE X.K F g) (tE X.K F h) σ H Q := by
  obtain ⟨μ, ρ, st, S, w⟩ := w
  refine ⟨μ, ρ, st, S, w.bind.mono fun d s μ1 H1 P1 w1 v rv => ?_⟩
  refine ⟨μ1, ρ, s, S.post P1, w1.bind.mono fun e s2 μ2 H2 P2 w2 u ru => ?_⟩
  refine ⟨μ2, s2, d, e, P2.sto, rv.post P2, ru, w2.bind.mono fun k s3 μ3 H3 P3 w3 z rz => ?_⟩
  cases rz with
  | bl b =>
    refine ⟨b, rfl, ?_⟩
    cases b with
    | true =>
      rw [if_pos rfl]
      refine ⟨μ3, ρ, s3, (S.post P1).post (P2.trans P3), WP.mono (WP.bind w3) fun k2 s4 μ4 H4 P4 w4 z rz => ?_⟩
      exact ⟨μ4, s4, e, k2, P4.sto, (ru.post P3).post P4, rz, w4⟩
    | false =>
      rw [if_neg Bool.false_ne_true]
      exact WP.ok (Φ := VQ X.K Q) P3.sto w3 _ (.bl false)
  | _ => exact w3.elim
theorem chnE (hu : X.A.units + 64 < cLine) {op op' : CmpOp} (ha : PE X a (tE X.K F f)) (hb : PE X b (tE X.K F g)) (hc : PE X c (tE X.K F h)) (hm : lastMarks [op, op'] [b, c] = false) : PE X (.Compare a [op, op'] [b, c] pos) (tE X.K F (chainR (trCmp op) (trCmp op') f g h)) :=
  impE (pe_chain (cmp_ok (F := F) hu op) (cmp_ok (F := F) hu op') ha hb hc hm) fun σ H Q w => chain_ok w
theorem chainR_bl {o p : CmpO} {ρ : Env} {st s : Store} {d : D} (e : chainR o p f g h ρ st = .ok d s) : ∃ b, d = .bl b := by
  unfold chainR at e
  cases hf : f ρ st with
  | no => simp only [hf, R.bind_no, reduceCtorEq] at e
  | ok x s1 =>
    simp only [hf, R.bind_ok] at e
    cases hg : g ρ s1 with
    | no => simp only [hg, R.bind_no, reduceCtorEq] at e
    | ok y s2 =>
      simp only [hg, R.bind_ok] at e
      cases hk : cmpop o x y s2 with
      | no => simp only [hk, R.bind_no, reduceCtorEq] at e
      | ok k s3 =>
        simp only [hk, R.bind_ok] at e
        split at e
        · cases hh : h ρ s3 with
          | no => simp only [hh, R.bind_no, reduceCtorEq] at e
          | ok z s4 =>
            simp only [hh, R.bind_ok] at e
            exact cmpop_bl e
        · cases e; exact ⟨_, rfl⟩
        · cases e
theorem chnT (hu : X.A.units + 64 < cLine) {op op' : CmpOp} (ha : PE X a (tE X.K F f)) (hb : PE X b (tE X.K F g)) (hc : PE X c (tE X.K F h)) (hm : lastMarks [op, op'] [b, c] = false) : PT X (.Compare a [op, op'] [b, c] pos) (tCo X.K F fun ρ st => (chainR (trCmp op) (trCmp op') f g h ρ st).bind fun d s => R.asB d s) :=
  impT (pt_chain (cmp_ok (F := F) hu op) (cmp_ok (F := F) hu op') ha hb hc hm) fun σ H Q w => by
    obtain ⟨μ, ρ, st, S, w⟩ := w
    exact chain_ok ⟨μ, ρ, st, S, asB_bl (fun d s e => chainR_bl e) w⟩
/-- a value as a test -/
theorem valT (ha : PE X a (tE X.K F f)) (he : ∀ whole, isTrue a X.env whole = (do let v ← whole; standAt a.pos; holding [v] (truthy v))) : PT X a (tCo X.K F fun ρ st => (f ρ st).bind fun d s => R.asB d s) :=
  impT (pt_truth ha he) fun σ H Q w => by
    obtain ⟨μ, ρ, st, S, w⟩ := w
    refine ⟨μ, ρ, st, S, w.bind.mono fun d s μ1 H1 P1 w1 v rv => ?_⟩
    unfold R.asB at w1
    cases e : tru d s with
    | none => rw [e] at w1; exact w1.elim
    | some b =>
      rw [e] at w1
      exact ⟨b, tru_ok' P1.sto rv e, WP.ok P1.sto w1⟩
theorem andE {rest : List Expr} (ha : PE X a (tE X.K F f)) (hb : PE X (.BoolOp .And (b :: rest) pos) (tE X.K F g)) : PE X (.BoolOp .And (a :: b :: rest) pos) (tE X.K F fun ρ st => (f ρ st).bind fun x s => (match x with
    | .bl true => g ρ s
    | .bl false => .ok (.bl false) s
    | _ => .no)) :=
  impE (pe_and ha hb) fun σ H Q w => by
    obtain ⟨μ, ρ, st, S, w⟩ := w
    refine ⟨μ, ρ, st, S, w.bind.mono fun d s μ1 H1 P1 w1 v rv => ?_⟩
    cases rv with
    | bl b =>
      refine ⟨b, rfl, ?_⟩
      cases b with
      | true => rw [if_pos rfl]; exact ⟨μ1, ρ, s, S.post P1, w1⟩
      | false => rw [if_neg Bool.false_ne_true]; exact WP.ok (Φ := VQ X.K Q) P1.sto w1 _ (.bl false)
    | _ => exact w1.elim
theorem orE {rest : List Expr} (ha : PE X a (tE X.K F f)) (hb : PE X (.BoolOp .Or (b :: rest) pos) (tE X.K F g)) : PE X (.BoolOp .Or (a :: b :: rest) pos) (tE X.K F fun ρ st => (f ρ st).bind fun x s => (match x with
    | .bl true => .ok (.bl true) s
    | .bl false => g ρ s
    | _ => .no)) :=
  impE (pe_or ha hb) fun σ H Q w => by
    obtain ⟨μ, ρ, st, S, w⟩ := w
    refine ⟨μ, ρ, st, S, w.bind.mono fun d s μ1 H1 P1 w1 v rv => ?_⟩
    cases rv with
    | bl b =>
      refine ⟨b, rfl, ?_⟩
      cases b with
      | true => rw [if_pos rfl]; exact WP.ok (Φ := VQ X.K Q) P1.sto w1 _ (.bl true)
      | false => rw [if_neg Bool.false_ne_true]; exact ⟨μ1, ρ, s, S.post P1, w1⟩
    | _ => exact w1.elim
theorem iteE {fc : Env → Store → R Bool} (hc : PT X c (tCo X.K F fc)) (ha : PE X a (tE X.K F f)) (hb : PE X b (tE X.K F g)) : PE X (.IfExp c a b pos) (tE X.K F fun ρ st => (fc ρ st).bind fun k s => (match k with
    | true => f ρ s
    | false => g ρ s)) :=
  impE (pe_ifExp hc ha hb) fun σ H Q w => by
    obtain ⟨μ, ρ, st, S, w⟩ := w
    refine ⟨μ, ρ, st, S, w.bind.mono fun k s μ1 H1 P1 w1 => ?_⟩
    cases k with
    | true => rw [if_pos rfl]; exact ⟨μ1, ρ, s, S.post P1, w1⟩
    | false => rw [if_neg Bool.false_ne_true]; exact ⟨μ1, ρ, s, S.post P1, w1⟩
theorem notT {fc : Env → Store → R Bool} (hc : PT X c (tCo X.K F fc)) : PT X (.UnaryOp .Not c pos) (tCo X.K F fun ρ st => (fc ρ st).bind fun b s => .ok (!b) s) :=
  impT (pt_not hc) fun σ H Q w => by
    obtain ⟨μ, ρ, st, S, w⟩ := w
    exact ⟨μ, ρ, st, S, w.bind.mono fun k s μ1 H1 P1 w1 => WP.ok P1.sto w1⟩
theorem andT {rest : List Expr} {fa fb : Env → Store → R Bool} (ha : PT X a (tCo X.K F fa)) (hb : PW X (.BoolOp .And (b :: rest) pos) (tCo X.K F fb)) : PW X (.BoolOp .And (a :: b :: rest) pos) (tCo X.K F fun ρ st => (fa ρ st).bind fun k s => (match k with
    | true => fb ρ s
    | false => .ok false s)) :=
  impW (pw_and ha hb) fun σ H Q w => by
    obtain ⟨μ, ρ, st, S, w⟩ := w
    refine ⟨μ, ρ, st, S, w.bind.mono fun k s μ1 H1 P1 w1 => ?_⟩
    cases k with
    | true => rw [if_pos rfl]; exact ⟨μ1, ρ, s, S.post P1, w1⟩
    | false => rw [if_neg Bool.false_ne_true]; exact WP.ok (Φ := fun b _ _ H' => Q b H') P1.sto w1
theorem orT {rest : List Expr} {fa fb : Env → Store → R Bool} (ha : PT X a (tCo X.K F fa)) (hb : PW X (.BoolOp .Or (b :: rest) pos) (tCo X.K F fb)) : PW X (.BoolOp .Or (a :: b :: rest) pos) (tCo X.K F fun ρ st => (fa ρ st).bind fun k s => (match k with
    | true => .ok true s
    | false => fb ρ s)) :=
  impW (pw_or ha hb) fun σ H Q w => by
    obtain ⟨μ, ρ, st, S, w⟩ := w
    refine ⟨μ, ρ, st, S, w.bind.mono fun k s μ1 H1 P1 w1 => ?_⟩
    cases k with
    | true => rw [if_pos rfl]; exact WP.ok (Φ := fun b _ _ H' => Q b H') P1.sto w1
    | false => rw [if_neg Bool.false_ne_true]; exact ⟨μ1, ρ, s, S.post P1, w1⟩
theorem nilA : PA X [] (tAs X.K F fun _ st => .ok [] st) := impA pa_nil fun σ H Q w => by
  obtain ⟨μ, ρ, st, S, w⟩ := w
  exact WP.ok S.sto w [] .nil
theorem consA {es : List Expr} {k : Env → Store → R (List D)} (ha : PE X a (tE X.K F f)) (hb : PA X es (tAs X.K F k)) (hs : starEach (a :: es) X.env = (false, eval a X.env) :: starEach es X.env) : PA X (a :: es) (tAs X.K F fun ρ st => (f ρ st).bind fun x s => (k ρ s).bind fun xs s => .ok (x :: xs) s) :=
  impA (pa_cons ha hb hs) fun σ H Q w => by
    obtain ⟨μ, ρ, st, S, w⟩ := w
    refine ⟨μ, ρ, st, S, w.bind.mono fun d s μ1 H1 P1 w1 v rv => ?_⟩
    refine ⟨μ1, ρ, s, S.post P1, w1.bind.mono fun ds s2 μ2 H2 P2 w2 vs rs => ?_⟩
    exact WP.ok P2.sto w2 _ (.cons (rv.post P2) rs)
theorem tupE {es : List Expr} {k : Env → Store → R (List D)} {n : Nat} (ha : PA X es (tAs X.K F k)) : PE X (.Tuple es n pos) (tE X.K F fun ρ st => (k ρ st).bind fun ds s => newT ds s) :=
  impE (pe_tup ha) fun σ H Q w => by
    obtain ⟨μ, ρ, st, S, w⟩ := w
    exact ⟨μ, ρ, st, S, w.bind.mono fun ds s μ1 H1 P1 w1 vs rs => newT_ok P1.sto rs w1⟩
theorem lstE {es : List Expr} {k : Env → Store → R (List D)} (ha : PA X es (tAs X.K F k)) : PE X (.List es pos) (tE X.K F fun ρ st => (k ρ st).bind fun ds s => newL ds s) :=
  impE (pe_lst ha) fun σ H Q w => by
    obtain ⟨μ, ρ, st, S, w⟩ := w
    exact ⟨μ, ρ, st, S, w.bind.mono fun ds s μ1 H1 P1 w1 vs rs => newL_ok P1.sto rs w1⟩
theorem idxE (hu : X.A.units + 64 < cLine) (ha : PE X a (tE X.K F f)) (hb : PE X b (tE X.K F g)) (hs : PlainIx b) : PE X (.Subscript a b pos) (tE X.K F fun ρ st => (f ρ st).bind fun x s => (g ρ s).bind fun y s => index x y s) :=
  impE (pe_ix (index_ok (F := F) hu) ha hb hs) fun σ H Q w => two_ok (fun _ _ _ _ z => z) w
theorem noneO : PO X none (tOi X.K F fun _ st => .ok none st) := impO po_none fun σ H Q w => by
  obtain ⟨μ, ρ, st, S, w⟩ := w
  exact WP.ok S.sto w
theorem someO (ha : PE X a (tE X.K F f)) : PO X (some a) (tOi X.K F fun ρ st => (f ρ st).bind fun x s => (match x with
    | .int i => .ok (some i) s
    | _ => .no)) := impO (po_some ha) fun σ H Q w => by
  obtain ⟨μ, ρ, st, S, w⟩ := w
  refine ⟨μ, ρ, st, S, w.bind.mono fun d s μ1 H1 P1 w1 v rv => ?_⟩
  cases rv with
  | int i => exact ⟨i, rfl, WP.ok (Φ := fun o _ _ H' => Q o H') P1.sto w1⟩
  | _ => exact w1.elim
theorem slcE {lo hi : Option Expr} {fl fh : Env → Store → R (Option Int)} {p2 : Pos} (ha : PE X a (tE X.K F f)) (hl : PO X lo (tOi X.K F fl)) (hh : PO X hi (tOi X.K F fh)) : PE X (.Subscript a (.Slice lo hi none p2) pos) (tE X.K F fun ρ st => (f ρ st).bind fun x s => (fl ρ s).bind fun l s => (fh ρ s).bind fun h s => slice x l h s) :=
  impE (pe_slice (slice_ok (F := F)) ha hl hh) fun σ H Q w => by
    obtain ⟨μ, ρ, st, S, w⟩ := w
    refine ⟨μ, ρ, st, S, w.bind.mono fun d s μ1 H1 P1 w1 v rv => ?_⟩
    refine ⟨μ1, ρ, s, S.post P1, w1.bind.mono fun l s2 μ2 H2 P2 w2 => ?_⟩
    refine ⟨μ2, ρ, s2, (S.post P1).post P2, w2.bind.mono fun h s3 μ3 H3 P3 w3 => ?_⟩
    exact ⟨μ3, s3, d, P3.sto, (rv.post P2).post P3, w3⟩
/-- a built-in by its rule -/
theorem biE {es : List Expr} {k : Env → Store → R (List D)} {x : Str} {id : String} {j : List D → Store → R D} {p : Pos} (hr : CallR X (.builtin id) (rB X.K F j)) (hg : Gl X x) (hd : (x == ("__debug__" : Str)) = false) (hm : X.mg x = none) (hv : bootBuiltins x = some (.builtin id)) (ha : PA X (a :: es) (tAs X.K F k))
    (hn : x ≠ "__name__") (he : starEach (a :: es) X.env = (false, eval a X.env) :: starEach es X.env) (hpl : (backTo pos (starEach es X.env)).any (·.1) = false) : PE X (.Call (.Name x p) (a :: es) [] pos) (tE X.K F fun ρ st => (k ρ st).bind fun ds s => j ds s) :=
  impE (pe_callB hr hg hm hv ha hn hd he hpl) fun σ H Q w => by
    obtain ⟨μ, ρ, st, S, w⟩ := w
    exact ⟨μ, ρ, st, S, w.bind.mono fun ds s μ1 H1 P1 w1 vs rs => ⟨μ1, s, ds, P1.sto, rs, w1⟩⟩
theorem tyE {es : List Expr} {k : Env → Store → R (List D)} {x : Str} {id : String} {j : List D → Store → R D} {p : Pos} (hr : CallR X (.type id) (rB X.K F j)) (hg : Gl X x) (hd : (x == ("__debug__" : Str)) = false) (hm : X.mg x = none) (hv : bootBuiltins x = some (.type id)) (ha : PA X (a :: es) (tAs X.K F k))
    (hn : x ≠ "__name__") (he : starEach (a :: es) X.env = (false, eval a X.env) :: starEach es X.env) (hpl : (backTo pos (starEach es X.env)).any (·.1) = false) : PE X (.Call (.Name x p) (a :: es) [] pos) (tE X.K F fun ρ st => (k ρ st).bind fun ds s => j ds s) :=
  impE (pe_callTy hr hg hm hv ha hn hd he hpl) fun σ H Q w => by
    obtain ⟨μ, ρ, st, S, w⟩ := w
    exact ⟨μ, ρ, st, S, w.bind.mono fun ds s μ1 H1 P1 w1 vs rs => ⟨μ1, s, ds, P1.sto, rs, w1⟩⟩
/-- an own def -/
theorem callE0 (o : Ok X F T G call) {x : Str} {i : Nat} {p : Pos} (hx : T.fns.lookup x = some i) (hg : Gl X x) (hd : (x == ("__debug__" : Str)) = false) : PE X (.Call (.Name x p) [] [] pos) (tE X.K F fun _ st => call i [] st) := by
  obtain ⟨f, fd, ps, n, hm, hk, hr, hF, hb⟩ := o.fns x i hx
  refine impE (pe_call0 hF hr hg hm hk hb .nil pass0 hd) fun σ H Q w => ?_
  obtain ⟨μ, ρ, st, S, w⟩ := w
  exact ⟨μ, st, [], S.sto, .nil, w⟩
theorem callE (o : Ok X F T G call) {es : List Expr} {k : Env → Store → R (List D)} {x : Str} {i : Nat} {p : Pos} (hx : T.fns.lookup x = some i) (hg : Gl X x) (hd : (x == ("__debug__" : Str)) = false) (ha : PA X (a :: es) (tAs X.K F k))
    (h1 : starEach (a :: es) X.env = (false, eval a X.env) :: starEach es X.env) (h2 : (backTo pos (starEach es X.env)).any (·.1) = false) : PE X (.Call (.Name x p) (a :: es) [] pos) (tE X.K F fun ρ st => (k ρ st).bind fun ds s => call i ds s) := by
  obtain ⟨f, fd, ps, n, hm, hk, hr, hF, hb⟩ := o.fns x i hx
  refine impE (pe_call hF hr hg hm hk hb .nil pass0 ha hd h1 h2) fun σ H Q w => ?_
  obtain ⟨μ, ρ, st, S, w⟩ := w
  exact ⟨μ, ρ, st, S, w.bind.mono fun ds s μ1 H1 P1 w1 vs rs => ⟨μ1, s, ds, P1.sto, by rw [List.append_nil]; exact rs, w1⟩⟩
theorem evs_snoc (G : Ctx) (call : Nat → List D → Store → R D) (e : E) (ρ : Env) : ∀ (es : Es) (st : Store), evs G call (es.snoc e) ρ st = (evs G call es ρ st).bind fun ds s => (ev G call e ρ s).bind fun d s => .ok (ds ++ [d]) s
  | .nil, st => by
    simp only [Es.snoc]
    rw [evs, evs, R.bind_ok]
    cases ev G call e ρ st with
    | no => rfl
    | ok d s => simp only [R.bind_ok]; rw [evs]; rfl
  | .cons a r, st => by
    simp only [Es.snoc]
    rw [evs, evs]
    cases ev G call a ρ st with
    | no => rfl
    | ok d s =>
      simp only [R.bind_ok]
      rw [evs_snoc G call e ρ r s]
      cases evs G call r ρ s with
      | no => rfl
      | ok ds s2 =>
        simp only [R.bind_ok]
        cases ev G call e ρ s2 with
        | no => rfl
        | ok d2 s3 => rfl
  | .spl a r, st => by
    simp only [Es.snoc]
    rw [evs, evs]
    cases ev G call a ρ st with
    | no => rfl
    | ok d s =>
      simp only [R.bind_ok]
      cases seqR d s with
      | no => rfl
      | ok es s1 =>
        simp only [R.bind_ok]
        rw [evs_snoc G call e ρ r s1]
        cases evs G call r ρ s1 with
        | no => rfl
        | ok ds s2 =>
          simp only [R.bind_ok]
          cases ev G call e ρ s2 with
          | no => rfl
          | ok d2 s3 => simp only [R.bind_ok, List.append_assoc]
theorem Rps.app {K : PySem.W.Frag} {μ : Mu} {H : Hp} {ds es : List D} {vs us : List V} (h : Rps K μ H ds vs) (h2 : Rps K μ H es us) : Rps K μ H (ds ++ es) (vs ++ us) := by
  induction ds generalizing vs with
  | nil => cases h; exact h2
  | cons d ds ih => cases h with
    | cons r rs => exact .cons r (ih rs)
/-- f(a, .., k = b) -/
theorem kwE (o : Ok X F T G call) {es : List Expr} {k : Env → Store → R (List D)} {g : Env → Store → R D} {x kn : Str} {i : Nat} {dd : Option D} {p kp : Pos} {b : Expr} (hx : T.kfs.lookup x = some (i, kn, dd)) (hg : Gl X x) (hd : (x == ("__debug__" : Str)) = false) (ha : PA X (a :: es) (tAs X.K F k)) (hb : PE X b (tE X.K F g))
    (h1 : starEach (a :: es) X.env = (false, eval a X.env) :: starEach es X.env) (h2 : (backTo pos (starEach (a :: es) X.env)).any (·.1) = false) : PE X (.Call (.Name x p) (a :: es) [⟨some kn, b, kp⟩] pos) (tE X.K F fun ρ st => ((k ρ st).bind fun ds s => (g ρ s).bind fun d s => .ok (ds ++ [d]) s).bind fun ds s => call i ds s) := by
  obtain ⟨f, fd, ps, m, n, hm, hk, hr, hF, hbn, hl, _⟩ := o.kfs x i kn dd hx
  refine impE (pe_callN hF hr hg hm hk hbn pass0 ha (pk_cons hb pk_nil) rfl rfl hd h1 (by rw [h2]; rfl)) fun σ H Q w => ?_
  obtain ⟨μ, ρ, st, S, w⟩ := w
  simp only [R.bind_assoc, R.bind_ok] at w
  refine ⟨μ, ρ, st, S, w.bind.mono fun ds s μ1 H1 P1 w1 vs rs => ?_⟩
  refine ⟨μ1, ρ, s, S.post P1, w1.bind.mono fun d s2 μ2 H2 P2 w2 v rv => ?_⟩
  have hs : spOf X.K F (call i) (vs ++ [v]) H2 Q E0 := ⟨μ2, s2, ds ++ [d], P2.sto, (rs.post P2).app (.cons rv .nil), w2⟩
  have hlen := hF.len _ _ _ _ hs
  rw [hl, List.length_append] at hlen
  exact ⟨by simpa using hlen, rfl, hs⟩
/-- f(a, ..), the keyword's value by default -/
theorem kwE0 (o : Ok X F T G call) {es : List Expr} {k : Env → Store → R (List D)} {x kn : Str} {i : Nat} {d : D} {p : Pos} (hx : T.kfs.lookup x = some (i, kn, some d)) (hg : Gl X x) (hd : (x == ("__debug__" : Str)) = false) (ha : PA X (a :: es) (tAs X.K F k))
    (h1 : starEach (a :: es) X.env = (false, eval a X.env) :: starEach es X.env) (h2 : (backTo pos (starEach es X.env)).any (·.1) = false) : PE X (.Call (.Name x p) (a :: es) [] pos) (tE X.K F fun ρ st => ((k ρ st).bind fun ds s => .ok (ds ++ [d]) s).bind fun ds s => call i ds s) := by
  obtain ⟨f, fd, ps, m, n, hm, hk, hr, hF, _, _, hdf⟩ := o.kfs x i kn (some d) hx
  obtain ⟨u, v, hb, rv, rp⟩ := hdf d rfl
  refine impE (pe_call hF hr hg hm hk hb (.cons rv .nil) pass0 ha hd h1 h2) fun σ H Q w => ?_
  obtain ⟨μ, ρ, st, S, w⟩ := w
  simp only [R.bind_assoc, R.bind_ok] at w
  exact ⟨μ, ρ, st, S, w.bind.mono fun ds s μ1 H1 P1 w1 vs rs => ⟨μ1, s, ds ++ [d], P1.sto, rs.app (.cons (rp _ _) .nil), w1⟩⟩
/-- a new instance -/
theorem mkSto {K : PySem.W.Frag} {μ : Mu} {H : Hp} {st : Store} {c : Nat} {C x dx : Addr} (S : Sto K F μ st H) (hc : F.cls c = some C) (hx : H x = none) (hd : H dx = none) (hne : dx ≠ x) : Post K F μ H (st ++ [.ins c []]) (μ ++ [(x, false)]) (upd (upd H dx (.own x)) x (.ins C dx [])) := by
  have P1 := Post.fresh (u := .own x) S hd
  exact P1.trans (Post.push (o := .ins c []) P1.sto (by rw [upd_ne (Ne.symm hne)]; exact hx) ⟨C, dx, [], hc, upd_same, .nil⟩)
theorem mkR_ok {K : PySem.W.Frag} {μ : Mu} {H : Hp} {st : Store} {c i : Nat} {C : Addr} {ds : List D} {vs : List V} {Q : VK} (S : Sto K F μ st H) (hc : F.cls c = some C) (hi : G.init[c]? = some (some i)) (rs : Rps K μ H ds vs)
    (w : WP K F μ H (mkR G call c ds st) (VQ K Q)) : ∀ x dx, H x = none → H dx = none → dx ≠ x → spOf K F (call i) (.ref x :: (vs ++ [])) (upd (upd H dx (.own x)) x (.ins C dx [])) (fun v H2 => v = .non ∧ Q (.ref x) H2) E0 := by
  intro x dx hx hd hne
  have P := mkSto (F := F) S hc hx hd hne
  unfold mkR at w
  simp only [hi] at w
  refine ⟨μ ++ [(x, false)], st ++ [.ins c []], .ref st.length :: ds, P.sto, .cons (.ref (b := false) (by rw [← S.len]; simp)) (by rw [List.append_nil]; exact rs.post P), ?_⟩
  have w1 : WP K F (μ ++ [(x, false)]) (upd (upd H dx (.own x)) x (.ins C dx [])) (call i (.ref st.length :: ds) (st ++ [.ins c []])) fun d s _ _ => WP K F μ H (match d with
      | .non => .ok (.ref st.length) s
      | _ => .no) (VQ K Q) := by
    cases e : call i (.ref st.length :: ds) (st ++ [.ins c []]) with
    | no => rw [e] at w; exact w.elim
    | ok d s => rw [e] at w; exact fun _ _ _ => w
  refine w1.mono fun d s μ1 H1 P1 w2 v rv => ?_
  cases rv with
  | non =>
    refine ⟨rfl, w2 μ1 H1 (P.trans P1) _ (.ref (b := false) (pre_get P1.pre (by rw [← S.len]; simp)))⟩
  | _ => exact w2.elim
theorem mkE0 (o : Ok X F T G call) {x : Str} {c i : Nat} {p : Pos} (hx : T.cls.lookup x = some c) (hi : G.init[c]? = some (some i)) (hg : Gl X x) (hd : (x == ("__debug__" : Str)) = false) : PE X (.Call (.Name x p) [] [] pos) (tE X.K F fun _ st => mkR G call c [] st) := by
  obtain ⟨C, f, fd, ps, n, hc, hM, hr, hF, hb⟩ := o.mks x c i hx hi
  obtain ⟨C', hc', hm⟩ := o.cls x c hx
  rw [hc] at hc'
  cases hc'
  refine impE (pe_make0 hM hF hr hg hm hb .nil pass0 hd) fun σ H Q w => ?_
  obtain ⟨μ, ρ, st, S, w⟩ := w
  exact mkR_ok S.sto hc hi .nil w
theorem mkE (o : Ok X F T G call) {es : List Expr} {k : Env → Store → R (List D)} {x : Str} {c i : Nat} {p : Pos} (hx : T.cls.lookup x = some c) (hi : G.init[c]? = some (some i)) (hg : Gl X x) (hd : (x == ("__debug__" : Str)) = false) (ha : PA X (a :: es) (tAs X.K F k))
    (h1 : starEach (a :: es) X.env = (false, eval a X.env) :: starEach es X.env) (h2 : (backTo pos (starEach es X.env)).any (·.1) = false) : PE X (.Call (.Name x p) (a :: es) [] pos) (tE X.K F fun ρ st => (k ρ st).bind fun ds s => mkR G call c ds s) := by
  obtain ⟨C, f, fd, ps, n, hc, hM, hr, hF, hb⟩ := o.mks x c i hx hi
  obtain ⟨C', hc', hm⟩ := o.cls x c hx
  rw [hc] at hc'
  cases hc'
  refine impE (pe_make hM hF hr hg hm hb .nil pass0 ha hd h1 h2) fun σ H Q w => ?_
  obtain ⟨μ, ρ, st, S, w⟩ := w
  exact ⟨μ, ρ, st, S, w.bind.mono fun ds s μ1 H1 P1 w1 vs rs => mkR_ok P1.sto hc hi rs w1⟩
/-- a field -/
theorem getF_ok {K : PySem.W.Frag} {μ : Mu} {H : Hp} (nd : F.fld.Nodup) {i : Nat} {x : Str} (hx : F.fld[i]? = some x) : ∀ {fs : List (Nat × D)} {fv : List (Str × V)} {d : D}, RpF K F μ H fs fv → getF i fs = some d → ∃ v, fv.lookup x = some v ∧ Rp K μ H d v
  | _, _, _, .nil, e => by cases e
  | (j, d) :: fs, (y, v) :: fv, d', .cons h t, e => by
    simp only [getF] at e
    have hj : F.fld[j]? = some y := h.1
    split at e
    · rename_i hji
      cases e
      subst hji
      rw [hx] at hj; cases hj
      exact ⟨v, by simp [List.lookup], h.2⟩
    · rename_i hji
      obtain ⟨v', e1, e2⟩ := getF_ok nd hx t e
      have hne : (x == y) = false := by
        rw [beq_eq_false_iff_ne]
        intro q; subst q
        exact hji (nodup_ix nd hj hx)
      exact ⟨v', by simp only [List.lookup, hne]; exact e1, e2⟩
theorem putF_ok {K : PySem.W.Frag} {μ : Mu} {H : Hp} (nd : F.fld.Nodup) {i : Nat} {x : Str} (hx : F.fld[i]? = some x) {d : D} {v : V} (r : Rp K μ H d v) : ∀ {fs : List (Nat × D)} {fv : List (Str × V)}, RpF K F μ H fs fv → RpF K F μ H (putF i d fs) (L2.putF x v fv)
  | _, _, .nil => .cons ⟨hx, r⟩ .nil
  | (j, d') :: fs, (y, v') :: fv, .cons h t => by
    have hj : F.fld[j]? = some y := h.1
    simp only [putF, L2.putF]
    by_cases e : j = i
    · subst e
      rw [hx] at hj; cases hj
      rw [if_pos rfl, if_pos rfl]
      exact .cons ⟨hx, r⟩ t
    · have e' : ¬ y = x := fun q => by
        subst q
        exact e (nodup_ix nd hj hx)
      rw [if_neg e, if_neg e']
      exact .cons h (putF_ok nd hx r t)
theorem field_ok {K : PySem.W.Frag} {μ : Mu} {H : Hp} {st s' : Store} {i : Nat} {x : Str} {d e : D} {v : V} (nd : F.fld.Nodup) (hx : F.fld[i]? = some x) (S : Sto K F μ st H) (r : Rp K μ H d v) (h : field d i st = .ok e s') :
    s' = st ∧ ∃ (a C dx : Addr) (c : Nat) (fv : List (Str × V)) (z : V), v = .ref a ∧ F.cls c = some C ∧ H a = some (.ins C dx fv) ∧ fv.lookup x = some z ∧ Rp K μ H e z := by
  cases r with
  | @ref l a _ hl =>
    simp only [field] at h
    split at h
    · rename_i c fs hst
      cases hg : getF i fs with
      | none => simp only [hg] at h; cases h
      | some d' =>
        simp only [hg] at h
        cases h
        obtain ⟨C, dx, fv, h1, h2, h3⟩ := S.back hst hl rfl
        obtain ⟨z, e1, e2⟩ := getF_ok nd hx h3 hg
        exact ⟨rfl, a, C, dx, c, fv, z, rfl, h1, h2, e1, e2⟩
    · cases h
  | _ => simp only [field] at h; cases h
theorem fldE (o : Ok X F T G call) {x : Str} {i : Nat} (hx : T.fld[i]? = some x) (ha : PE X a (tE X.K F f)) (hb : attributeBase a x X.env (eval a X.env) = eval a X.env) : PE X (.Attribute a x pos) (tE X.K F fun ρ st => (f ρ st).bind fun d s => field d i s) :=
  impE (pe_fld ha hb) fun σ H Q w => one_ok (r := fun v H1 Q => ∃ a C dx fs z, v = .ref a ∧ H1 a = some (.ins C dx fs) ∧ Cls X.K C ∧ NoAttr X.K C x ∧ fs.lookup x = some z ∧ Q z H1) (fun μ st d v H Q S r w => by
    cases e : field d i st with
    | no => rw [e] at w; exact w.elim
    | ok e' s' =>
      rw [e] at w
      obtain ⟨rfl, a, C, dx, c, fv, z, h1, h2, h3, h4, h5⟩ := field_ok (F := F) (by rw [o.fld]; exact o.fnd) (by rw [o.fld]; exact hx) S r e
      exact ⟨a, C, dx, fv, z, h1, h3, o.kit.cl c C h2, o.noat c C x h2 (List.mem_of_getElem? hx), h4, w.ok S _ h5⟩) w
/-- xs.append(e) -/
theorem appE {apos : Pos} (ha : PE X a (tE X.K F f)) (hb : PE X b (tE X.K F g)) (hbase : attributeBase a "append" X.env (eval a X.env) = eval a X.env) (hline : (apos.endLine == pos.line) = true) (hs : starEach [b] X.env = [(false, eval b X.env)]) :
    PE X (.Call (.Attribute a "append" apos) [b] [] pos) (tE X.K F fun ρ st => (f ρ st).bind fun x s => R.grd (lstOf x s).isSome ((g ρ s).bind fun y s => append x y s)) :=
  impE (pe_bm PySem.F.plainAttrs_list PySem.F.slot_list_append PySem.F.type_list_append mt_append ha (pa_cons hb pa_nil hs) hbase (by simp only [hs]; rfl) hline hs rfl) fun σ H Q w => by
    obtain ⟨μ, ρ, st, S, w⟩ := w
    refine ⟨μ, ρ, st, S, w.bind.mono fun d s μ1 H1 P1 w1 v rv => ?_⟩
    obtain ⟨hl, w1⟩ := w1.grd
    cases hd : lstOf d s with
    | none => rw [hd] at hl; cases hl
    | some ds =>
      obtain ⟨p, vs, rfl, hq, rs⟩ := lstOf_ok P1.sto rv hd
      refine ⟨.inl ⟨rfl, vs, hq⟩, ?_⟩
      refine ⟨μ1, ρ, s, S.post P1, w1.bind.mono fun e s2 μ2 H2 P2 w2 u ru => ?_⟩
      have rv2 := rv.post P2
      cases rv2 with
      | @ref l _ _ hl2 =>
        obtain ⟨es, he, hlen, w3⟩ : ∃ es, s2[l]? = some (.lst es) ∧ es.length < 16777216 ∧ WP X.K F μ2 H2 (.ok .non (s2.set l (.lst (es ++ [e])))) (VQ X.K Q) := by
          simp only [append] at w2
          split at w2
          · obtain ⟨h1, h2⟩ := w2.grd
            exact ⟨_, by assumption, of_decide_eq_true h1, h2⟩
          · exact w2.elim
        obtain ⟨ws, h1, r1⟩ := P2.sto.back he hl2 rfl
        refine ⟨p, ws, u, rfl, rfl, h1, by rw [← r1.length, sizeLine_eq]; exact hlen, ?_⟩
        have kt : ∀ a xs, H2 a = some (.tup xs) → upd H2 p (.lst (ws ++ [u])) a = some (.tup xs) := fun a xs z => by rw [upd_ne (fun q => by subst q; rw [h1] at z; cases z)]; exact z
        have kf : ∀ a o w, H2 a = some (.frz o w) → upd H2 p (.lst (ws ++ [u])) a = some (.frz o w) := fun a o w z => by rw [upd_ne (fun q => by subst q; rw [h1] at z; cases z)]; exact z
        have P := Post.write (u := .lst (ws ++ [u])) (o' := .lst (es ++ [e])) P2.sto he hl2 rfl h1 trivial ⟨_, upd_same, (r1.append (.cons ru .nil)).mono (List.prefix_refl _) kt kf⟩
        exact w3 _ _ P _ .non
      | tup h r => simp only [lstOf] at hd; cases hd
      | wt h r => simp only [lstOf] at hd; cases hd
end
end
end Nz
namespace Nz
open PySem PySem.Spec L2 PyProof.Rows PySem.Calls HT
section
variable {prog : Program} {w : World} {A : Around} {E : Value → Shared → Prop} {s : Shared}
theorem nz_sliceRev {sl : Addr} {vl vu vs : Value} {n : Nat} {Q : Int × Int × Nat → Shared → Prop} (hs : s.heap.IsSliceOf sl vl vu vs) (pl : IsPart vl none) (pu : IsPart vu none) (ps : IsPart vs (some (-1)))
    (h : Q ((n : Int) - 1, -1, n) s) : wpAny (model prog w) A (Builtin.Slice.sliceApplied (.ref sl) (pure (n : Int))) Q E s := by
  obtain ⟨os, hos, hcs, hds⟩ := id hs
  unfold Builtin.Slice.sliceApplied Builtin.Slice.sliceFields
  refine wpAny_bind (wpAny_bind (wpAny_field hos hds (x := vl) rfl (wpAny_bind (wpAny_field hos hds (x := vu) rfl (wpAny_bind (wpAny_field hos hds (x := vs) rfl (wpAny_pure ?_)))))))
  refine wpAny_bind (slicePart_ ps ?_)
  show wpAny _ _ (if ((-1 : Int) == 0) = true then _ else _) _ _ s
  rw [if_neg (by decide)]
  refine wpAny_bind (slicePart_ pl (wpAny_bind (slicePart_ pu (wpAny_bind (wpAny_pure ?_)))))
  have e1 : Builtin.Slice.sliceAdjust none none (-1) (n : Int) = ((n : Int) - 1, -1) := rfl
  have e2 : Builtin.Slice.slicePlaces ((n : Int) - 1) (-1) (-1) = n := by
    unfold Builtin.Slice.slicePlaces
    rw [if_neg (by decide)]
    split
    · rw [show (- -1 : Int) = 1 from rfl, Int.ediv_one]; omega
    · simp; omega
  show wpAny _ _ (match Builtin.Slice.sliceAdjust none none (-1) (n : Int) with | (lo, hi) => pure (lo, (-1 : Int), Builtin.Slice.slicePlaces lo hi (-1))) _ _ s
  rw [e1]
  show wpAny _ _ (pure ((n : Int) - 1, (-1 : Int), Builtin.Slice.slicePlaces ((n : Int) - 1) (-1) (-1))) _ _ s
  rw [e2]
  exact wpAny_pure h
theorem fm_range {α : Type} : ∀ (l : List α) (f : Nat → Option α), (∀ m, m < l.length → f m = l[m]?) → (List.range l.length).filterMap f = l
  | [], f, _ => rfl
  | x :: l, f, h => by
    rw [List.length_cons, List.range_succ_eq_map, List.filterMap_cons, h 0 (by simp)]
    simp only [List.getElem?_cons_zero, List.filterMap_map]
    rw [fm_range l (f ∘ Nat.succ) fun m hm => by
      show f (m + 1) = _
      rw [h (m + 1) (by simp; omega), List.getElem?_cons_succ]]
theorem nz_pickRev (xs : Array Value) : ((List.range xs.size).filterMap fun (m : Nat) => xs[((xs.size : Int) - 1 + (m : Int) * (-1)).toNat]?).toArray = xs.toList.reverse.toArray := by
  have hl : xs.toList.reverse.length = xs.size := by simp
  have := fm_range xs.toList.reverse (fun (m : Nat) => xs[((xs.size : Int) - 1 + (m : Int) * (-1)).toNat]?) fun m hm => by
    rw [hl] at hm
    rw [List.getElem?_reverse (by simpa using hm), Array.length_toList, Array.getElem?_toList]
    congr 1
    omega
  rw [hl] at this
  rw [this]
theorem nz_getItem_rev {t sl : Addr} {items : Array Value} {vl vu vs : Value} {Q : Value → Shared → Prop} (ht : IsTup s.heap t items) (hs : s.heap.IsSliceOf sl vl vu vs) (pl : IsPart vl none) (pu : IsPart vu none) (ps : IsPart vs (some (-1)))
    (h : Q (.ref s.heap.objs.size) { s with heap := s.heap.push { cls := .type "tuple", data := .seq items.toList.reverse.toArray } })
    (hsz : items.size ≤ sizeLine) : wpAny (model prog w) A (getItem (.ref t) (.ref sl)) Q E s := by
  have htake : sizeOk (.seq items.toList.reverse.toArray) := by
    show items.toList.reverse.toArray.size ≤ sizeLine
    rw [List.size_toArray, List.length_reverse, Array.length_toList]
    exact hsz
  obtain ⟨os, hos, hcs, hds⟩ := id hs
  have hTs : s.TypeIs (.ref sl) "slice" := ⟨os, hos, hcs⟩
  unfold getItem
  try with_reducible refine wpAny_holding ?_
  first | refine wpAny_bind (wpAny_pure ?_) | skip
  refine wpAny_bind (wpAny_sequenceKey ht.typeIs (by decide) ?_)
  refine wpAny_bind (wpAny_callSpecial?_slot (name := Str.ofString "__getitem__") ht.typeIs PyProof.Rows.slot_tuple_getitem
    (wpAny_call_entry PyProof.Rows.slot_tuple_getitem ht.typeIs entry_tuple_getitem ?_ (args_tuple_getitem _ _)))
  show wpAny _ _ (Builtin.Tuple.tupleItemsOf (.ref t) >>= _) _ _ s
  refine wpAny_bind (tupleItemsOf_ ht ?_)
  refine wpAny_bind (wpAny_typeOf hTs ?_)
  rw [if_pos (by decide)]
  refine wpAny_bind (nz_sliceRev hs pl pu ps ?_)
  have hno : ¬ ((((items.size : Int) - 1) == 0 && (-1 : Int) == 1 && items.size == items.size) = true) := by
    intro q
    rw [Bool.and_eq_true, Bool.and_eq_true] at q
    exact absurd q.1.2 (by decide)
  show wpAny _ _ (if (((items.size : Int) - 1) == 0 && (-1 : Int) == 1 && items.size == items.size) = true then _ else _) _ _ s
  rw [if_neg hno, nz_pickRev]
  first
    | exact wpAny_bind (m := Builtin.Tuple.tupleExact _) (wpAny_newObj_type (wpAny_pure ⟨_, rfl, wpAny_pure h⟩) htake)
    | exact wpAny_bind (m := Builtin.Tuple.tupleExact _) (wpAny_newObj_type (wpAny_bind (wpAny_pure (wpAny_pure ⟨_, rfl, wpAny_pure h⟩))) htake)
    | exact wpAny_bind (wpAny_bind (m := Builtin.Tuple.tupleExact _) (wpAny_newObj_type (wpAny_pure (wpAny_pure ⟨_, rfl, wpAny_pure h⟩)) htake))
    | exact wpAny_bind (wpAny_bind (m := Builtin.Tuple.tupleExact _) (wpAny_newObj_type (wpAny_pure ⟨_, rfl, wpAny_pure h⟩) htake))
end
/-- e[::-1], of a list or a tuple -/
def tRevD (K : PySem.W.Frag) (te : TE) : TE := fun σ H Q => te σ H fun x H1 => ∃ a xs, x = .ref a ∧ ((SqL K H1 a xs ∧ ∀ p, H1 p = none → Q (.ref p) (upd H1 p (.lst xs.reverse))) ∨ (SqT K H1 a xs ∧ ∀ p, H1 p = none → Q (.ref p) (upd H1 p (.tup xs.reverse))))
theorem pe_revD {X : Cx} {e : Expr} {te : TE} {k : Nat} {p1 p2 p3 pos : Pos} (he : PE X e te) : PE X (.Subscript e (.Slice none none (some (.UnaryOp .USub (.Constant (.int 1) k p1) p2)) p3) pos) (tRevD X.K te) := by
  refine ⟨fun pins s σ H Q I h => ?_⟩
  refine Subscript_ (thn (he.run pins s σ H _ I h) fun v s1 ⟨x, H1, I1, r1, q1⟩ => ?_)
  obtain ⟨a, xs, ex, q⟩ := q1
  subst ex
  cases r1
  have hst : PO X (some (.UnaryOp .USub (.Constant (.int 1) k p1) p2)) (tPart (tUn (rU fun i => .int (-i)) (tC (.int 1)))) := po_some (pe_un un_neg pe_int)
  refine wpAny_Slice (thn (po_none.run pins s1 σ H1 (fun o H2 => o = none ∧ H2 = H1) I1 ⟨rfl, rfl⟩) fun vl s2 ⟨l, H2, I2, pl, el, e2⟩ => ?_)
  subst el e2
  refine thn (po_none.run pins s2 σ H2 (fun o H3 => o = none ∧ H3 = H2) I2 ⟨rfl, rfl⟩) fun vu s3 ⟨u, H3, I3, pu, eu, e3⟩ => ?_
  subst eu e3
  refine thn (hst.run pins s3 σ H3 (fun o H4 => o = some (-1) ∧ H4 = H3) I3 ⟨1, rfl, -1, rfl, rfl, rfl⟩) fun vs s4 ⟨o, H4, I4, ps, eo, e4⟩ => ?_
  subst eo e4
  have I5 : Inv X pins σ H4 { s4 with heap := s4.heap.push { cls := .type "slice", data := .fields #[vl, vu, vs] } } := I4.kept (t' := s4.toks) fun b ob q => Heap.get?_push_of_some _ q
  rcases q with ⟨hx, q⟩ | ⟨hx, q⟩
  · obtain ⟨its, r, ht, hz⟩ := I5.list hx
    have hlen := r.length
    show wpAny (model X.prog X.w) X.A (subscriptTail e (.Slice none none (some (.UnaryOp .USub (.Constant (.int 1) k p1) p2)) p3) (.ref a) (.ref s4.heap.objs.size)) (EP X pins σ Q) X.xe { s4 with heap := s4.heap.push { cls := .type "slice", data := .fields #[vl, vu, vs] } }
    refine tail_any (ops := [.ref a, .ref s4.heap.objs.size]) ht.isList.typeIs (PySem.slot_list_getitem.lookup) ?_ (by with_unfolding_all rfl)
    refine wpAny_getItem_list_slice ht.isList (Heap.IsSliceOf.new _ vl vu vs) pl pu ps (by decide) ?_ (by rw [List.size_toArray]; omega)
    rw [PySem.W.krv_pick]
    refine ⟨.ref _, _, I5.laid (t' := s4.toks) (o := .lst xs.reverse) (fun b ob q => Heap.get?_push_of_some _ q) (Nat.le_refl _) ?_, rfl, q _ (I5.hok.fresh (Nat.le_refl _))⟩
    exact ⟨by rw [List.length_reverse]; exact hz, _, 0, r.reverse, Heap.get?_push_size _ rfl⟩
  · obtain ⟨its, r, ht, hz⟩ := I5.tuple hx
    have hlen := r.length
    show wpAny (model X.prog X.w) X.A (subscriptTail e (.Slice none none (some (.UnaryOp .USub (.Constant (.int 1) k p1) p2)) p3) (.ref a) (.ref s4.heap.objs.size)) (EP X pins σ Q) X.xe { s4 with heap := s4.heap.push { cls := .type "slice", data := .fields #[vl, vu, vs] } }
    refine tail_any (ops := [.ref a, .ref s4.heap.objs.size]) ht.typeIs (PyProof.Rows.slot_tuple_getitem.lookup) ?_ (by with_unfolding_all rfl)
    refine nz_getItem_rev ht (Heap.IsSliceOf.new _ vl vu vs) pl pu ps ?_ (by rw [List.size_toArray]; omega)
    refine ⟨.ref _, _, I5.laid (t' := s4.toks) (o := .tup xs.reverse) (fun b ob q => Heap.get?_push_of_some _ q) (Nat.le_refl _) ?_, rfl, q _ (I5.hok.fresh (Nat.le_refl _))⟩
    exact ⟨by rw [List.length_reverse]; exact hz, _, r.reverse, IsTup.new _ _⟩
section
variable {X : Cx} {F : Nm}
theorem revE {a : Expr} {f : Env → Store → R D} {k : Nat} {p1 p2 p3 pos : Pos} (ha : PE X a (tE X.K F f)) : PE X (.Subscript a (.Slice none none (some (.UnaryOp .USub (.Constant (.int 1) k p1) p2)) p3) pos) (tE X.K F fun ρ st => (f ρ st).bind fun x s => (match x with
    | .tup ds => .ok (.tup ds.reverse) s
    | x => (match lstOf x s with
      | some ds => newL ds.reverse s
      | none => .no))) :=
  impE (pe_revD ha) fun σ H Q w => by
    obtain ⟨μ, ρ, st, S, w⟩ := w
    refine ⟨μ, ρ, st, S, w.bind.mono fun d s μ1 H1 P1 w1 v rv => ?_⟩
    cases rv with
    | @tup ds a vs h1 rs =>
      refine ⟨a, vs, rfl, .inr ⟨.of h1, fun p hp => ?_⟩⟩
      have P := Post.fresh (u := .tup vs.reverse) P1.sto hp
      exact w1 _ _ P _ (.tup upd_same ((rs.rev).post P))
    | @ref l a _ hl =>
      cases hd : lstOf (.ref l) s with
      | none => simp only [hd] at w1; exact w1.elim
      | some ds =>
        simp only [hd] at w1
        obtain ⟨vs, h1, rs⟩ := P1.sto.list (ds := ds) (by
          simp only [lstOf] at hd
          split at hd
          · cases hd; exact .inl (by assumption)
          · cases hd; exact .inr (by assumption)
          · cases hd) hl
        exact ⟨a, vs, rfl, .inl ⟨h1, (newL_ok P1.sto rs.rev w1).2⟩⟩
    | _ => simp only [lstOf] at w1; exact w1.elim
end
end Nz
namespace Nz
open PySem L2 PyProof.Rows
/-- the slots that may have changed -/
def Near (vs : List Nat) (σ σ' : L2.St) : Prop := σ'.length = σ.length ∧ ∀ i, i ∉ vs → σ'[i]? = σ[i]?
def gT (K : PySem.W.Frag) (F : Nm) (t : T) : TG := fun v σ H Q => ∃ μ ρ st d ρ', Sim K F μ ρ st σ H ∧ Rp K μ H d v ∧ T.asg t d ρ = some ρ' ∧ ∀ σ', Sim K F μ ρ' st σ' H → Near t.slots σ σ' → Q σ' H
def gTs (K : PySem.W.Frag) (F : Nm) (ts : List T) : TGs := fun vs σ H Q => ∃ μ ρ st ds ρ', Sim K F μ ρ st σ H ∧ Rps K μ H ds vs ∧ T.asgs ts ds ρ = some ρ' ∧ ∀ σ', Sim K F μ ρ' st σ' H → Near (T.slotss ts) σ σ' → Q σ' H
theorem impG {X : Cx} {e : Expr} {t t' : TG} (h : PG X e t) (k : ∀ v σ H Q, t' v σ H Q → t v σ H Q) : PG X e t' := ⟨fun pins s σ H v u Q I r w => h.run pins s σ H v u Q I r (k v σ H Q w)⟩
theorem impGs {X : Cx} {e : List Expr} {t t' : TGs} (h : PGs X e t) (k : ∀ v σ H Q, t' v σ H Q → t v σ H Q) : PGs X e t' := ⟨fun pins s σ H v u Q I r w => h.run pins s σ H v u Q I r (k v σ H Q w)⟩
theorem Near.refl {vs : List Nat} {σ : L2.St} : Near vs σ σ := ⟨rfl, fun _ _ => rfl⟩
section
variable {X : Cx} {F : Nm} {T₀ : Tab}
theorem Sim.set {K : PySem.W.Frag} {μ : Mu} {ρ : Env} {st : Store} {σ : L2.St} {H : Hp} {d : D} {v : V} (S : Sim K F μ ρ st σ H) (r : Rp K μ H d v) (i : Nat) : Sim K F μ (ρ.set i (some d)) st (σ.set i (some v)) H := by
  refine ⟨by simp [S.len], fun j e h => ?_, S.sto⟩
  by_cases hj : j = i
  · subst hj
    by_cases hlt : j < ρ.length
    · rw [List.getElem?_set_self hlt] at h
      cases h
      exact ⟨v, List.getElem?_set_self (by rw [← S.len]; exact hlt), r⟩
    · rw [List.getElem?_eq_none (by simpa using hlt)] at h; cases h
  · rw [List.getElem?_set_ne (Ne.symm hj)] at h ⊢
    exact S.env j e h
theorem nameG (hN : X.N = T₀.N) (nd : X.N.Nodup) {sc : Scope} {x : Str} {i : Nat} {pos : Pos} (h : trLoc T₀ sc x = some i) (hl : L2.Loc X.env.scope x) (hf : X.fn x = true ∨ X.env.scope.names.lookup x = some .local) : PG X (.Name x pos) (gT X.K F (.nm i)) := by
  unfold trLoc at h
  split at h
  · rename_i hb
    refine impG (pg_name (i := i) nd (by rw [hN]; exact ixOf_ok h) hl hf) fun v σ H Q w => ?_
    obtain ⟨μ, ρ, st, d, ρ', S, r, e, q⟩ := w
    simp only [T.asg, Option.some.injEq] at e
    subst e
    refine q _ (S.set r i) ⟨by simp, fun j hj => ?_⟩
    simp only [T.slots, List.mem_singleton] at hj
    exact List.getElem?_set_ne (Ne.symm hj)
  · cases h
/-- what an own name's store asks -/
def FnLoc (X : Cx) (sc : Scope) : Prop := ∀ x, L2.Loc sc x → L2.Loc X.env.scope x ∧ (X.fn x = true ∨ X.env.scope.names.lookup x = some .local)
theorem trLoc_loc {sc : Scope} {x : Str} {i : Nat} (h : trLoc T₀ sc x = some i) : L2.Loc sc x := by
  unfold trLoc at h
  split at h
  · exact isLoc_ok (by assumption)
  · cases h
theorem nilG : PGs X [] (gTs X.K F []) := impGs pgs_nil fun vs σ H Q w => by
  obtain ⟨μ, ρ, st, ds, ρ', S, r, e, q⟩ := w
  cases r with
  | nil =>
    simp only [T.asgs, Option.some.injEq] at e
    subst e
    exact ⟨rfl, q _ S .refl⟩
  | cons h t => simp only [T.asgs] at e; cases e
theorem consG {e : Expr} {es : List Expr} {t : T} {ts : List T} (h1 : PG X e (gT X.K F t)) (h2 : PGs X es (gTs X.K F ts)) (hs : (assignEach (e :: es) X.env).map (·.2) = assign e X.env :: (assignEach es X.env).map (·.2)) : PGs X (e :: es) (gTs X.K F (t :: ts)) :=
  impGs (pgs_cons h1 h2 hs) fun vs σ H Q w => by
    obtain ⟨μ, ρ, st, ds, ρ', S, r, e, q⟩ := w
    cases r with
    | nil => simp only [T.asgs] at e; cases e
    | @cons d v ds vs r rs =>
      simp only [T.asgs] at e
      cases e1 : T.asg t d ρ with
      | none => rw [e1] at e; cases e
      | some ρ1 =>
        rw [e1] at e
        simp only at e
        refine ⟨v, vs, rfl, μ, ρ, st, d, ρ1, S, r, e1, fun σ1 S1 n1 => ?_⟩
        refine ⟨μ, ρ1, st, ds, ρ', S1, rs, e, fun σ2 S2 n2 => q σ2 S2 ⟨n2.1.trans n1.1, fun i hi => ?_⟩⟩
        simp only [T.slotss, List.mem_append, not_or] at hi
        rw [n2.2 i hi.2, n1.2 i hi.1]
theorem asgs_len : ∀ {ts : List T} {ds : List D} {ρ ρ' : Env}, T.asgs ts ds ρ = some ρ' → ds.length = ts.length
  | [], [], _, _, _ => rfl
  | [], _ :: _, _, _, h => by simp only [T.asgs] at h; cases h
  | _ :: _, [], _, _, h => by simp only [T.asgs] at h; cases h
  | t :: ts, d :: ds, ρ, ρ', h => by
    simp only [T.asgs] at h
    cases e : T.asg t d ρ with
    | none => rw [e] at h; cases h
    | some ρ1 =>
      rw [e] at h
      simp only [List.length_cons]
      rw [asgs_len (ρ := ρ1) h]
theorem tupG {es : List Expr} {ts : List T} {n : Nat} {pos : Pos} (hc : X.calm = true) (h : PGs X es (gTs X.K F ts)) (hl : ts.length = es.length) (hn : (assignEach es X.env).length = es.length) (hst : (assignEach es X.env).findIdx? (·.1) = none) : PG X (.Tuple es n pos) (gT X.K F (.tp ts)) :=
  impG (pg_tup hc h hn hst) fun v σ H Q w => by
    obtain ⟨μ, ρ, st, d, ρ', S, r, e, q⟩ := w
    cases r with
    | @tup ds a vs hq rs =>
      simp only [T.asg] at e
      refine ⟨a, vs, rfl, .of hq, ?_, μ, ρ, st, ds, ρ', S, rs, e, q⟩
      rw [← rs.length, asgs_len e, hl]
    | @wt ds a vs hq rs =>
      simp only [T.asg] at e
      refine ⟨a, vs, rfl, hq, ?_, μ, ρ, st, ds, ρ', S, rs, e, q⟩
      rw [← rs.length, asgs_len e, hl]
    | _ => simp only [T.asg] at e; cases e
theorem trT_ok (hN : X.N = T₀.N) (nd : X.N.Nodup) (hc : X.calm = true) {sc : Scope} (hf : FnLoc X sc) : ∀ (n : Nat) {e : Expr} {t : T}, trT T₀ sc n e = some t → PG X e (gT X.K F t)
  | 0, e, t, h => by simp only [trT, reduceCtorEq] at h
  | n + 1, e, t, h => by
    have ih := fun {e : Expr} {t : T} => trT_ok hN nd hc hf n (e := e) (t := t)
    cases e with
    | Name x pos =>
      simp only [trT] at h
      cases q : trLoc T₀ sc x with
      | none => rw [q] at h; cases h
      | some i =>
        rw [q] at h
        cases h
        exact nameG hN nd q (hf x (trLoc_loc q)).1 (hf x (trLoc_loc q)).2
    | Tuple es k pos =>
      simp only [trT] at h
      cases q : es.mapM (trT T₀ sc n) with
      | none => rw [q] at h; cases h
      | some ts =>
        rw [q] at h
        cases h
        have all : ∀ (es : List Expr) (ts : List T), es.mapM (trT T₀ sc n) = some ts → PGs X es (gTs X.K F ts) ∧ ts.length = es.length ∧ (assignEach es X.env).length = es.length ∧ (assignEach es X.env).findIdx? (·.1) = none := by
          intro es
          induction es with
          | nil =>
            intro ts q
            simp only [List.mapM_nil, Option.pure_def, Option.some.injEq] at q
            subst q
            exact ⟨nilG, rfl, rfl, rfl⟩
          | cons e es ihs =>
            intro ts q
            rw [List.mapM_cons] at q
            cases q1 : trT T₀ sc n e with
            | none => simp only [q1, Option.bind_eq_bind, Option.bind_none, reduceCtorEq] at q
            | some t =>
              cases q2 : es.mapM (trT T₀ sc n) with
              | none => simp only [q1, q2, Option.bind_eq_bind, Option.bind_none, Option.bind_some, reduceCtorEq] at q
              | some ts' =>
                simp only [q1, q2, Option.bind_eq_bind, Option.bind_some, Option.pure_def, Option.some.injEq] at q
                subst q
                obtain ⟨a1, a2, a3, a4⟩ := ihs ts' q2
                have hs : assignEach (e :: es) X.env = (false, assign e X.env) :: assignEach es X.env := by
                  cases n with
                  | zero => simp only [trT, reduceCtorEq] at q1
                  | succ n => cases e <;> first | rfl | (simp only [trT, reduceCtorEq] at q1)
                refine ⟨consG (ih q1) a1 (by rw [hs]; rfl), by simp [a2], by rw [hs]; simp [a3], by rw [hs, List.findIdx?_cons, a4]; rfl⟩
        obtain ⟨a1, a2, a3, a4⟩ := all es ts q
        exact tupG hc a1 a2 a3 a4
    | _ => simp only [trT, reduceCtorEq] at h
end
end Nz
namespace Nz
open PySem L2 PyProof.Rows
section
variable {K : PySem.W.Frag} {F : Nm} {μ μ' : Mu} {H H' : Hp} {st s : Store} {ρ : Env} {σ : L2.St}
theorem WP.anchor {α β : Type} {r : R α} {f : α → Store → R β} {Φ : β → Store → Mu → Hp → Prop} (h : WP K F μ H (r.bind f) Φ) : WP K F μ' H' r fun a s _ _ => WP K F μ H (f a s) Φ := by
  cases r with
  | no => exact h
  | ok a s => exact fun _ _ _ => h
theorem forget_get {i : Nat} {d : D} : ∀ {vs : List Nat}, (forget ρ vs)[i]? = some (some d) → ρ[i]? = some (some d) ∧ i ∉ vs
  | [], h => ⟨h, by simp⟩
  | v :: vs, h => by
    simp only [forget] at h
    by_cases e : v = i
    · subst e
      by_cases hv : v < (forget ρ vs).length
      · rw [List.getElem?_set_self hv] at h; cases h
      · rw [List.getElem?_eq_none (by simpa using hv)] at h; cases h
    · rw [List.getElem?_set_ne e] at h
      obtain ⟨h1, h2⟩ := forget_get h
      exact ⟨h1, by simp only [List.mem_cons, not_or]; exact ⟨fun q => e q.symm, h2⟩⟩
theorem forget_len : ∀ vs : List Nat, (forget ρ vs).length = ρ.length
  | [] => rfl
  | v :: vs => by simp only [forget, List.length_set]; exact forget_len vs
theorem wipe_out' {i : Nat} : ∀ {vs : List Nat}, i ∉ vs → (wipe σ vs)[i]? = σ[i]?
  | [], _ => rfl
  | v :: vs, h => by
    simp only [List.mem_cons, not_or] at h
    show ((wipe σ vs).set v none)[i]? = _
    rw [List.getElem?_set_ne (Ne.symm h.1)]
    exact wipe_out' h.2
theorem Sim.wipe (S : Sim K F μ ρ st σ H) (vs : List Nat) : Sim K F μ (forget ρ vs) st (L2.wipe σ vs) H := by
  refine ⟨by rw [forget_len, wipe_length]; exact S.len, fun i d h => ?_, S.sto⟩
  obtain ⟨h1, h2⟩ := forget_get h
  obtain ⟨v, e, r⟩ := S.env i d h1
  exact ⟨v, by rw [wipe_out' h2]; exact e, r⟩
theorem wipe_in {i : Nat} : ∀ {vs : List Nat}, i ∈ vs → i < σ.length → (L2.wipe σ vs)[i]? = some none
  | v :: vs, h, hl => by
    show ((L2.wipe σ vs).set v none)[i]? = _
    by_cases e : v = i
    · subst e
      rw [List.getElem?_set_self (by rw [wipe_length]; exact hl)]
    · rw [List.getElem?_set_ne e]
      rcases List.mem_cons.mp h with q | q
      · exact absurd q.symm e
      · exact wipe_in q hl
theorem wipe_near {σ' : L2.St} {vs ws : List Nat} (n : Near ws (L2.wipe σ vs) σ') (h : ∀ i ∈ ws, i ∈ vs) : L2.wipe σ' vs = L2.wipe σ vs := by
  have l1 : σ'.length = σ.length := by rw [n.1, wipe_length]
  refine List.ext_getElem? fun i => ?_
  by_cases hi : i ∈ vs
  · by_cases hl : i < σ.length
    · rw [wipe_in hi hl, wipe_in hi (by omega)]
    · rw [List.getElem?_eq_none (by rw [wipe_length]; omega), List.getElem?_eq_none (by rw [wipe_length]; omega)]
  · rw [wipe_out' hi, n.2 i (fun q => hi (h i q))]
/-- a list that is made aside, written once more -/
theorem Post.aside {D : Addr} {u w : HO} {s2 : Store} (P : Post K F μ H s2 μ' H') (hD : H D = none) (hn : (D, false) ∉ μ') (hw : H' D = some w) (mw : Mutl w) : Post K F μ H s2 μ' (upd H' D u) := by
  have kt : ∀ a xs, H' a = some (.tup xs) → upd H' D u a = some (.tup xs) := fun a xs z => by rw [upd_ne (fun q => by subst q; rw [hw] at z; cases z; exact mw)]; exact z
  have kf : ∀ a o x, H' a = some (.frz o x) → upd H' D u a = some (.frz o x) := fun a o x z => by rw [upd_ne (fun q => by subst q; rw [hw] at z; cases z; exact mw)]; exact z
  refine ⟨P.pre, fun a o h n => ?_, P.new, ⟨P.sto.len, fun l o a h1 h2 => ?_, fun l o a h1 h2 => (P.sto.atk l o a h1 h2).keep (List.prefix_refl _) kt kf, P.sto.inj⟩⟩
  · rw [upd_ne (fun q => by subst q; rw [hD] at h; cases h)]
    exact P.frm a o h n
  · have hne : a ≠ D := fun q => hn (by subst q; exact List.mem_iff_getElem?.mpr ⟨l, h2⟩)
    exact (P.sto.at_ l o a h1 h2).keep (List.prefix_refl _) kt kf (upd_ne hne)
theorem Post.away {D : Addr} {u : HO} {s2 : Store} (P : Post K F μ H s2 μ' H') (hn : (D, false) ∉ μ) (hD : H D = some u) : (D, false) ∉ μ' ∧ H' D = some u :=
  ⟨fun m => (by have := P.new D m hn; rw [hD] at this; cases this), P.frm D u hD (.inl hn)⟩
end
section
variable {K : PySem.W.Frag} {F : Nm} {μ μ' : Mu} {H H' : Hp} {st s : Store} {ρ : Env} {σ : L2.St}
theorem Post.cut (S : Sto K F μ st H) (P : Post K F μ H s μ' H') (h : pfx st.length st s = true) : Post K F μ H (s.take st.length) μ H' :=
  ⟨List.prefix_refl _, P.frm, fun a h n => absurd h n, S.cutS P h⟩
theorem D.cls_app {n : Nat} : ∀ {as : List D} {b : D}, D.cls n as = true → D.cl n b = true → D.cls n (as ++ [b]) = true
  | [], b, _, h => by simp only [List.nil_append, D.cls, h, Bool.and_true]
  | a :: as, b, h, h2 => by
    simp only [D.cls, Bool.and_eq_true] at h
    simp only [List.cons_append, D.cls, h.1, Bool.true_and]
    exact D.cls_app h.2 h2
theorem Sim.low (S : Sim K F μ' ρ s σ H') (p : μ <+: μ') (so : Sto K F μ st H') (h : envCl μ.length ρ = true) : Sim K F μ ρ st σ H' := by
  refine ⟨S.len, fun i d e => ?_, so⟩
  obtain ⟨v, h1, h2⟩ := S.env i d e
  refine ⟨v, h1, h2.low p ?_⟩
  have := List.all_eq_true.mp h _ (List.mem_of_getElem? e)
  simpa using this
/-- behind a turn -/
theorem cutE_ok (S : Sto K F μ st H) (P : Post K F μ H s μ' H') (M : Sim K F μ' ρ s σ H') : ∃ μ'', Post K F μ H (cutE st ρ s) μ'' H' ∧ Sim K F μ'' ρ (cutE st ρ s) σ H' := by
  unfold cutE
  cases q : pfx st.length st s && envCl st.length ρ with
  | false => exact ⟨μ', P, M⟩
  | true =>
    rw [Bool.and_eq_true] at q
    exact ⟨μ, Post.cut S P q.1, M.low P.pre (S.cutS P q.1) (by rw [S.len]; exact q.2)⟩
end
/-- what one turn of a comprehension does -/
abbrev stepC (t : T) (ρ₀ : Env) (fc : Env → Store → R Bool) (fe : Env → Store → R D) : D → Store → R (Option D) := fun d s => (match T.asg t d ρ₀ with
      | none => .no
      | some ρ1 => (fc ρ1 s).bind fun k s => (match k with
        | true => (fe ρ1 s).bind fun x s => .ok (some x) s
        | false => .ok none s))
section
variable {X : Cx} {F : Nm}
theorem compE {elt tg iter : Expr} {ifs : List Expr} {scope : Scope} {own : List (Str × Nat)} {pos : Pos} {t : T} {fi : Env → Store → R Wk} {fc : Env → Store → R Bool} {fe : Env → Store → R D}
    (hts : ∀ i ∈ t.slots, i ∈ own.map (·.2)) {σ : L2.St} {H : Hp} {Q : VK}
    (w : tE X.K F (fun ρ st => (fi ρ st).bind fun w s => (compLoop (stepC t (forget ρ (own.map (·.2))) fc fe) w.wat s true w.its s).bind fun ds s => newL ds s) σ H Q) :
    tLc (tIt X.K F fi) (gT X.K F t) (tCo X.K F fc) (tE X.K F fe) (own.map (·.2)) σ H Q := by
  obtain ⟨μ, ρ, st, S, w⟩ := w
  refine ⟨μ, ρ, st, S, w.bind.mono fun wk s1 μ1 H1 P1 w1 J hJ D hD => ?_⟩
  have S1 := S.post P1
  -- the state between two turns: what is made so far stands at D
  let Iv := fun (i : Nat) (H2 : Hp) => ∃ (c : Bool) (acc : List Nz.D) (vs : List V) (s2 : Store) (μ2 : Mu), H2 D = some (.lst vs) ∧ (D, false) ∉ μ2 ∧ Rps X.K μ2 H2 acc vs ∧ Post X.K F μ1 H1 s2 μ2 H2 ∧ i ≤ wk.its.length ∧
    (c = true → Nz.D.cls s1.length acc = true) ∧ WP X.K F μ1 H1 ((compLoop (stepC t (forget ρ (own.map (·.2))) fc fe) wk.wat s1 c (wk.its.drop i) s2).bind fun ds s => newL (acc ++ ds) s) (VQ X.K Q)
  refine ⟨fun i m H2 => m = wk.its.length - i ∧ Iv i H2, ⟨wk.its.length, by simp, ?_⟩, ?_⟩
  · refine ⟨true, [], [], s1, μ1, upd_same, P1.sto.free hD, .nil, Post.fresh P1.sto hD, Nat.zero_le _, fun _ => (by simp only [Nz.D.cls]), ?_⟩
    simpa using w1
  · rintro i m H2 ⟨rfl, cc, acc, vs, s2, μ2, hv, hn, ra, P2, hi, hcl, w2⟩
    by_cases hlt : i < wk.its.length
    · have ed : wk.its.drop i = wk.its[i] :: wk.its.drop (i + 1) := List.drop_eq_getElem_cons hlt
      rw [ed] at w2
      simp only [compLoop] at w2
      have hw : watOk wk.wat s2 = true := by
        cases q : watOk wk.wat s2 with
        | true => rfl
        | false => rw [q] at w2; exact w2.elim
      rw [hw, R.grd_true, R.bind_assoc] at w2
      obtain ⟨j1, j2, j3⟩ := hJ s2 μ2 H2 P2 hw
      refine .inr ⟨j1 i hlt, fun H' => Iv (i + 1) H', fun H' h' => ⟨wk.its.length - (i + 1), by omega, rfl, h'⟩, fun x H3 y => ?_⟩
      obtain ⟨d, hd, P3, rd⟩ := j3 i x H3 hlt y
      have hd' : d = wk.its[i] := by
        rw [List.getElem?_eq_getElem hlt] at hd
        exact (Option.some.inj hd).symm
      subst hd'
      obtain ⟨n3, v3⟩ := P3.away hn hv
      have P13 := P2.trans P3
      have S3 := (S1.post P13).wipe (own.map (·.2))
      have w3 := WP.anchor (μ' := μ2) (H' := H3) w2
      cases ha : T.asg t wk.its[i] (forget ρ (own.map (·.2))) with
      | none =>
        simp only [stepC, ha] at w3
        exact w3.elim
      | some ρ1 =>
        simp only [stepC, ha] at w3
        refine ⟨μ2, _, s2, _, ρ1, S3, rd, ha, fun σ2 S4 n4 => ⟨wipe_near n4 hts, ?_⟩⟩
        refine ⟨μ2, ρ1, s2, S4, (WP.bind w3).mono fun b s4 μ4 H4 P4 w4 => ?_⟩
        obtain ⟨n5, v5⟩ := P4.away n3 v3
        cases b with
        | false =>
          rw [if_neg Bool.false_ne_true]
          have w5 := WP.ok P4.sto w4
          rw [R.bind_assoc] at w5
          cases hb : cutB cc s1 none s4 with
          | false =>
            rw [hb] at w5
            exact ⟨false, acc, vs, s4, μ4, v5, n5, (ra.post P3).post P4, P13.trans P4, hlt, fun q => (by cases q), w5⟩
          | true =>
            rw [hb] at w5
            have hb' := hb
            simp only [cutB, Bool.and_eq_true] at hb'
            have hac := hcl hb'.1
            refine ⟨true, acc, vs, s4.take s1.length, μ1, v5, P1.sto.free hD, ((ra.post P3).post P4).low (P13.trans P4).pre (by rw [P1.sto.len]; exact hac), Post.cut P1.sto (P13.trans P4) hb'.2.1, hlt, fun _ => hac, w5⟩
        | true =>
          rw [if_pos rfl]
          refine ⟨μ4, ρ1, s4, S4.post P4, (WP.bind w4).mono fun z s5 μ5 H5 P5 w5 v rv => ?_⟩
          obtain ⟨n6, v6⟩ := P5.away n5 v5
          have w6 := WP.ok P5.sto w5
          have hz : vs.length < sizeLine := by
            have w7 := w6
            rw [R.bind_assoc] at w7
            cases q : compLoop (stepC t (forget ρ (own.map (·.2))) fc fe) wk.wat s1 (cutB cc s1 (some z) s5) (wk.its.drop (i + 1)) (cutT (cutB cc s1 (some z) s5) s1 s5) with
            | no => rw [q] at w7; exact w7.elim
            | ok r s6 =>
              rw [q] at w7
              simp only [R.bind_ok] at w7
              obtain ⟨hl, _⟩ := w7.grd
              have hl : (acc ++ z :: r).length ≤ 16777216 := of_decide_eq_true hl
              rw [List.length_append, List.length_cons, ra.length] at hl
              rw [sizeLine_eq]; omega
          have kt : ∀ a xs, H5 a = some (.tup xs) → upd H5 D (.lst (vs ++ [v])) a = some (.tup xs) := fun a xs z => by rw [upd_ne (fun q => by subst q; rw [v6] at z; cases z)]; exact z
          have kf : ∀ a o x, H5 a = some (.frz o x) → upd H5 D (.lst (vs ++ [v])) a = some (.frz o x) := fun a o x z => by rw [upd_ne (fun q => by subst q; rw [v6] at z; cases z)]; exact z
          have ra6 := ((((ra.post P3).post P4).post P5).append (.cons rv .nil)).mono (List.prefix_refl _) kt kf
          have P6 := Post.aside (u := .lst (vs ++ [v])) ((P13.trans P4).trans P5) hD n6 v6 trivial
          rw [R.bind_assoc] at w6
          cases hb : cutB cc s1 (some z) s5 with
          | false =>
            rw [hb] at w6
            refine ⟨vs, v6, hz, false, acc ++ [z], vs ++ [v], s5, μ5, upd_same, n6, ra6, P6, hlt, fun q => (by cases q), ?_⟩
            simpa [cutT] using w6
          | true =>
            rw [hb] at w6
            have hb' := hb
            simp only [cutB, Bool.and_eq_true] at hb'
            have hac : Nz.D.cls s1.length (acc ++ [z]) = true := Nz.D.cls_app (hcl hb'.1) hb'.2.2
            refine ⟨vs, v6, hz, true, acc ++ [z], vs ++ [v], s5.take s1.length, μ1, upd_same, P1.sto.free hD, ra6.low P6.pre (by rw [P1.sto.len]; exact hac), Post.cut P1.sto P6 hb'.2.1, hlt, fun _ => hac, ?_⟩
            simpa [cutT] using w6
    · have e : i = wk.its.length := by omega
      subst e
      rw [List.drop_length] at w2
      simp only [compLoop] at w2
      have hw : watOk wk.wat s2 = true := by
        cases q : watOk wk.wat s2 with
        | true => rfl
        | false => rw [q] at w2; exact w2.elim
      rw [hw, R.grd_true, R.bind_ok, List.append_nil] at w2
      obtain ⟨j1, j2, j3⟩ := hJ s2 μ2 H2 P2 hw
      refine .inl ⟨j2, ?_⟩
      obtain ⟨_, w3⟩ := w2.grd
      have P4 := Post.adopt (o := .lst acc) P2 hD hn ⟨vs, hv, ra.mono (List.prefix_append _ _) (fun _ _ h => h) (fun _ _ _ h => h)⟩
      exact w3 _ _ P4 _ (.ref (b := false) (by rw [← P2.sto.len]; simp))
end
end Nz
namespace Nz
open PySem L2 PyProof.Rows
section
variable {K : PySem.W.Frag} {F : Nm} {μ μ' : Mu} {H H' : Hp} {st s : Store}
theorem WP.up {α : Type} {r : R α} {Φ : α → Store → Mu → Hp → Prop} (P : Post K F μ H st μ' H') (w : WP K F μ H r Φ) : WP K F μ' H' r Φ := by
  cases r with
  | no => exact w
  | ok a s => exact fun μ2 H2 p => w μ2 H2 (P.trans p)
end
abbrev inB (t2 : T) (vs : List Nat) (l : Nat) (fc : Env → Store → R Bool) (fe : Env → Store → R D) (ρ1 : Env) : D → Store → R D := fun d s3 => (match T.asg t2 d (forget ρ1 vs) with
        | none => .no
        | some ρ2 => (fc ρ2 s3).bind fun k s4 => (match k with
          | true => (fe ρ2 s4).bind fun x s5 => append (.ref l) x s5
          | false => .ok .non s4))
abbrev outB (t t2 : T) (vs : List Nat) (l : Nat) (fi1 : Env → Store → R Wk) (fc : Env → Store → R Bool) (fe : Env → Store → R D) (ρ0 : Env) : D → Store → R D := fun d s1 => (match T.asg t d ρ0 with
      | none => .no
      | some ρ1 => (fi1 ρ1 s1).bind fun w1 s2 => lpU (inB t2 vs l fc fe ρ1) w1.wat w1.its s2)
section
variable {X : Cx} {F : Nm}
theorem lpU_cons {K : PySem.W.Frag} {μ : Mu} {H : Hp} {step : D → Store → R D} {wat : List (Nat × O)} {d : D} {ds : List D} {s : Store} {f : D → Store → R D} {Φ : D → Store → Mu → Hp → Prop} (w : WP K F μ H ((lpU step wat (d :: ds) s).bind f) Φ) : watOk wat s = true ∧ WP K F μ H ((step d s).bind fun _ s => (lpU step wat ds s).bind f) Φ := by
  simp only [lpU] at w
  cases q : watOk wat s with
  | false => rw [q] at w; exact w.elim
  | true =>
    rw [q, R.grd_true, R.bind_assoc] at w
    exact ⟨rfl, w⟩
theorem lpU_nil {K : PySem.W.Frag} {μ : Mu} {H : Hp} {step : D → Store → R D} {wat : List (Nat × O)} {s : Store} {f : D → Store → R D} {Φ : D → Store → Mu → Hp → Prop} (w : WP K F μ H ((lpU step wat [] s).bind f) Φ) : watOk wat s = true ∧ WP K F μ H (f .non s) Φ := by
  simp only [lpU] at w
  cases q : watOk wat s with
  | false => rw [q] at w; exact w.elim
  | true =>
    rw [q, R.grd_true, R.bind_ok] at w
    exact ⟨rfl, w⟩
theorem compE2 {own : List (Str × Nat)} {t t2 : T} {fi fi1 : Env → Store → R Wk} {fc : Env → Store → R Bool} {fe : Env → Store → R D}
    (hts : ∀ i ∈ t.slots, i ∈ own.map (·.2)) {σ : L2.St} {H : Hp} {Q : VK}
    (w : tE X.K F (fun ρ st => (fi ρ st).bind fun w s => (lpU (outB t t2 t2.slots s.length fi1 fc fe (forget ρ (own.map (·.2)))) w.wat w.its (s ++ [.lst []])).bind fun _ s' => .ok (.ref s.length) s') σ H Q) :
    tLc2 (tIt X.K F fi) (gT X.K F t) (tCo X.K F fun _ st => .ok true st) (tIt X.K F fi1) (gT X.K F t2) (tCo X.K F fc) (tE X.K F fe) (own.map (·.2)) t2.slots σ H Q := by
  obtain ⟨μ, ρ, st, S, w⟩ := w
  refine ⟨μ, ρ, st, S, w.bind.mono fun wk s1 μ1 H1 P1 w1 J hJ D hD => ?_⟩
  have PD : Post X.K F μ1 H1 (s1 ++ [.lst []]) (μ1 ++ [(D, false)]) (upd H1 D (.lst [])) := Post.push P1.sto hD ⟨[], upd_same, .nil⟩
  have hlD : (μ1 ++ [(D, false)])[s1.length]? = some (D, false) := by rw [← P1.sto.len]; simp
  have SD := (S.post P1).post PD
  have w1 := w1.up PD
  obtain ⟨l, hl⟩ : ∃ l, l = s1.length := ⟨_, rfl⟩
  rw [← hl] at w1 hlD
  generalize hμD : μ1 ++ [(D, false)] = μD at *
  generalize hHD : upd H1 D (.lst []) = HD at *
  let out := outB t t2 t2.slots l fi1 fc fe (forget ρ (own.map (·.2)))
  let fin : Nz.D → Store → R Nz.D := fun _ s' => .ok (.ref l) s'
  let Iv := fun (i : Nat) (H2 : Hp) => ∃ (s2 : Store) (μ2 : Mu), Post X.K F μ1 H1 s2 μ2 H2 ∧ Post X.K F μD HD s2 μ2 H2 ∧ i ≤ wk.its.length ∧ WP X.K F μ2 H2 ((lpU out wk.wat (wk.its.drop i) s2).bind fin) (VQ X.K Q)
  refine ⟨fun i m H2 => m = wk.its.length - i ∧ Iv i H2, ⟨wk.its.length, by simp, s1 ++ [O.lst []], μD, PD, .refl PD.sto, Nat.zero_le _, by rw [List.drop_zero]; exact w1⟩, ?_⟩
  rintro i m H2 ⟨rfl, s2, μ2, P2, Q2, hi, w2⟩
  by_cases hlt : i < wk.its.length
  · rw [List.drop_eq_getElem_cons hlt] at w2
    obtain ⟨hw, w2⟩ := lpU_cons w2
    obtain ⟨j1, j2, j3⟩ := hJ s2 μ2 H2 P2 hw
    refine .inr ⟨j1 i hlt, fun H' => Iv (i + 1) H', fun H' h' => ⟨wk.its.length - (i + 1), by omega, rfl, h'⟩, fun x H3 y => ?_⟩
    obtain ⟨d, hd, P3, rd⟩ := j3 i x H3 hlt y
    have hd' : d = wk.its[i] := by
      rw [List.getElem?_eq_getElem hlt] at hd
      exact (Option.some.inj hd).symm
    subst hd'
    have S3 := (SD.post (Q2.trans P3)).wipe (own.map (·.2))
    have w3 := w2.up P3
    cases ha : T.asg t wk.its[i] (forget ρ (own.map (·.2))) with
    | none =>
      simp only [out, outB, ha] at w3
      exact w3.elim
    | some ρ1 =>
      simp only [out, outB, ha] at w3
      rw [R.bind_assoc] at w3
      refine ⟨μ2, _, s2, _, ρ1, S3, rd, ha, fun σ2 S4 n4 => ⟨wipe_near n4 hts, ?_⟩⟩
      refine ⟨μ2, ρ1, s2, S4, fun μ4 H4 P4 => ?_⟩
      show if true = true then _ else _
      rw [if_pos rfl]
      refine ⟨μ4, ρ1, s2, S4.post P4, (WP.bind (w3.up P4)).mono fun wk1 s5 μ5 H5 P5 w5 J1 hJ1 => ?_⟩
      have S5 := (S4.post P4).post P5
      have Q5 := ((Q2.trans P3).trans P4).trans P5
      have R5 := ((P2.trans P3).trans P4).trans P5
      let Iv1 := fun (j : Nat) (H6 : Hp) => ∃ (s6 : Store) (μ6 : Mu), Post X.K F μ5 H5 s6 μ6 H6 ∧ j ≤ wk1.its.length ∧ WP X.K F μ6 H6 ((lpU (inB t2 t2.slots l fc fe ρ1) wk1.wat (wk1.its.drop j) s6).bind fun _ s => (lpU out wk.wat (wk.its.drop (i + 1)) s).bind fin) (VQ X.K Q)
      refine ⟨fun j k H6 => k = wk1.its.length - j ∧ Iv1 j H6, ⟨wk1.its.length, by simp, s5, μ5, .refl P5.sto, Nat.zero_le _, w5⟩, ?_⟩
      rintro j k H6 ⟨rfl, s6, μ6, P6, hj, w6⟩
      by_cases hlt1 : j < wk1.its.length
      · rw [List.drop_eq_getElem_cons hlt1] at w6
        obtain ⟨hw1, w6⟩ := lpU_cons w6
        obtain ⟨k1, k2, k3⟩ := hJ1 s6 μ6 H6 P6 hw1
        refine .inr ⟨k1 j hlt1, fun H' => Iv1 (j + 1) H', fun H' h' => ⟨wk1.its.length - (j + 1), by omega, rfl, h'⟩, fun x1 H7 y1 => ?_⟩
        obtain ⟨d1, hd1, P7, rd1⟩ := k3 j x1 H7 hlt1 y1
        have hd1' : d1 = wk1.its[j] := by
          rw [List.getElem?_eq_getElem hlt1] at hd1
          exact (Option.some.inj hd1).symm
        subst hd1'
        have S7 := (S5.post (P6.trans P7)).wipe t2.slots
        have w7 := w6.up P7
        cases ha1 : T.asg t2 wk1.its[j] (forget ρ1 t2.slots) with
        | none =>
          simp only [inB, ha1] at w7
          exact w7.elim
        | some ρ2 =>
          simp only [inB, ha1] at w7
          rw [R.bind_assoc] at w7
          refine ⟨μ6, _, s6, _, ρ2, S7, rd1, ha1, fun σ3 S8 n8 => ⟨wipe_near n8 (fun _ h => h), ?_⟩⟩
          refine ⟨μ6, ρ2, s6, S8, (WP.bind w7).mono fun b s8 μ8 H8 P8 w8 => ?_⟩
          cases b with
          | false =>
            rw [if_neg Bool.false_ne_true]
            exact ⟨s8, μ8, (P6.trans P7).trans P8, hlt1, w8⟩
          | true =>
            rw [if_pos rfl]
            simp only [R.bind_assoc] at w8
            refine ⟨μ8, ρ2, s8, S8.post P8, (WP.bind w8).mono fun z s9 μ9 H9 P9 w9 v rv => ?_⟩
            have P59 := ((P6.trans P7).trans P8).trans P9
            have hl9 : μ9[l]? = some (D, false) := pre_get (Q5.trans P59).pre hlD
            obtain ⟨es, he, hlen, w10⟩ : ∃ es, s9[l]? = some (.lst es) ∧ es.length < 16777216 ∧ WP X.K F μ9 H9 ((lpU (inB t2 t2.slots l fc fe ρ1) wk1.wat (wk1.its.drop (j + 1)) (s9.set l (.lst (es ++ [z])))).bind fun _ s => (lpU out wk.wat (wk.its.drop (i + 1)) s).bind fin) (VQ X.K Q) := by
              simp only [append] at w9
              split at w9
              · rename_i es he
                by_cases hle : es.length < 16777216
                · rw [decide_eq_true hle, R.grd_true, R.bind_ok] at w9
                  exact ⟨es, he, hle, w9⟩
                · rw [decide_eq_false hle, R.grd_false] at w9
                  exact w9.elim
              · exact w9.elim
            obtain ⟨ws, h1, r1⟩ := P9.sto.back he hl9 rfl
            have kt : ∀ a xs, H9 a = some (.tup xs) → upd H9 D (.lst (ws ++ [v])) a = some (.tup xs) := fun a xs z => by rw [upd_ne (fun q => by subst q; rw [h1] at z; cases z)]; exact z
            have kf : ∀ a o w, H9 a = some (.frz o w) → upd H9 D (.lst (ws ++ [v])) a = some (.frz o w) := fun a o w z => by rw [upd_ne (fun q => by subst q; rw [h1] at z; cases z)]; exact z
            have P := Post.write (u := .lst (ws ++ [v])) (o' := .lst (es ++ [z])) P9.sto he hl9 rfl h1 trivial ⟨_, upd_same, (r1.append (.cons rv .nil)).mono (List.prefix_refl _) kt kf⟩
            exact ⟨ws, h1, by rw [← r1.length, sizeLine_eq]; exact hlen, _, μ9, P59.trans P, hlt1, w10.up P⟩
      · have e : j = wk1.its.length := by omega
        subst e
        rw [List.drop_length] at w6
        obtain ⟨hw1, w6⟩ := lpU_nil w6
        obtain ⟨k1, k2, k3⟩ := hJ1 s6 μ6 H6 P6 hw1
        exact .inl ⟨k2, s6, μ6, R5.trans P6, Q5.trans P6, hlt, w6⟩
  · have e : i = wk.its.length := by omega
    subst e
    rw [List.drop_length] at w2
    obtain ⟨hw, w2⟩ := lpU_nil w2
    obtain ⟨j1, j2, j3⟩ := hJ s2 μ2 H2 P2 hw
    exact .inl ⟨j2, WP.ok (Φ := VQ X.K Q) P2.sto w2 _ (.ref (b := false) (pre_get Q2.pre hlD))⟩
end
end Nz
namespace Nz
open PySem L2 PyProof.Rows
section
variable {X : Cx} {F : Nm} {T : Tab} {G : Ctx} {call : Nat → List D → Store → R D}
theorem star_cons {e : Expr} {es : List Expr} {env : PySem.Env} (h : isStar e = false) : starEach (e :: es) env = (false, eval e env) :: starEach es env := by
  cases e <;> first | rfl | cases h
theorem star_one {e : Expr} {env : PySem.Env} (h : isStar e = false) : starEach [e] env = [(false, eval e env)] := by rw [star_cons h]; rfl
theorem star_two {e f : Expr} {env : PySem.Env} (h : isStar e = false) (h' : isStar f = false) : starEach [e, f] env = [(false, eval e env), (false, eval f env)] := by rw [star_cons h, star_one h']
/-- no star in a list -/
def noStar (es : List Expr) : Prop := ∀ e ∈ es, isStar e = false
theorem noStar.any {env : PySem.Env} {pos : Pos} : ∀ {es : List Expr}, noStar es → (backTo pos (starEach es env)).any (·.1) = false
  | [], _ => rfl
  | e :: es, h => by
    rw [star_cons (h e (List.mem_cons_self ..))]
    show (false || (backTo pos (starEach es env)).any (·.1)) = false
    rw [noStar.any fun e' he => h e' (List.mem_cons_of_mem _ he)]; rfl
theorem noStar.form {env : PySem.Env} {pos : Pos} {es : List Expr} (h : noStar es) (hl : es.length < 20) : methodCallForm (es.length + 0) (backTo pos (starEach es env)) [] = true := by
  unfold methodCallForm
  have h1 : (backTo pos (starEach es env)).all (fun x => !x.1) = true := by
    have q := h.any (env := env) (pos := pos)
    rw [List.all_eq_true]
    intro x hx
    cases e : x.1 with
    | false => rfl
    | true =>
      rw [List.any_eq_false] at q
      exact absurd e (q x hx)
  rw [h1]
  simp; omega
theorem methTree {env : PySem.Env} {o : Expr} {m : Str} {apos pos : Pos} {args : List Expr} (h : attributeBase o m env (eval o env) = eval o env) (hline : (apos.endLine == pos.line) = true) (hfew : methodCallForm (args.length + 0) (backTo pos (starEach args env)) [] = true) :
  eval (.Call (.Attribute o m apos) args [] pos) env = (do
      let ov ← eval o env
      standAt apos.atName
      let (f, first) ← holding [ov] (getMethod ov m (do return (← importBound o env).getD true))
      callWith pos f first (backTo pos (starEach args env)) (backToKw pos (keywordEach [] env))) := by
  conv => lhs; unfold eval
  rw [h]
  have e1 : methodCallForm (args.length + ([] : List Keyword).length) (backTo pos (starEach args env)) (backToKw pos (keywordEach [] env)) = true := by
    have : keywordEach [] env = [] := by unfold keywordEach; rfl
    rw [this]; exact hfew
  unfold methodCall
  rw [e1]
  simp only [methodCallPos, hline, calleeOf, Bool.not_true, Bool.false_or, if_true, pure_bind]
  try rfl
theorem base_ok {o : Expr} {m : Str} {env : PySem.Env} (h : isCall o = false) : attributeBase o m env (eval o env) = eval o env := by
  cases o with
  | Call f as kws p =>
    cases f with
    | Name x q =>
      cases as with
      | nil => cases kws with
        | nil => cases h
        | cons _ _ => rfl
      | cons _ _ => rfl
    | _ => rfl
  | _ => rfl
theorem cls_ok {K : PySem.W.Frag} {μ : Mu} {H : Hp} {st : Store} {d : D} {v : V} {c : Nat} (S : Sto K F μ st H) (r : Rp K μ H d v) (h : clsOf d st = some c) :
    ∃ (l : Nat) (a C dx : Addr) (fs : List (Nat × D)) (fv : List (Str × V)), d = .ref l ∧ v = .ref a ∧ F.cls c = some C ∧ H a = some (.ins C dx fv) ∧ RpF K F μ H fs fv := by
  cases r with
  | @ref l a b hl =>
    unfold clsOf at h
    simp only at h
    split at h
    · rename_i c' fs hst
      cases h
      obtain ⟨C, dx, fv, h1, h2, h3⟩ := S.back hst hl rfl
      exact ⟨l, a, C, dx, fs, fv, rfl, rfl, h1, h2, h3⟩
    · cases h
  | _ => unfold clsOf at h; cases h
theorem methF_ok {l : List (List (Nat × Nat))} {m f : Nat} {d : D} {st : Store} (h : methF l m d st = some f) : ∃ c, clsOf d st = some c ∧ atOf l m c = some f := by
  unfold methF at h
  cases e : clsOf d st with
  | none => rw [e] at h; cases h
  | some c => rw [e] at h; exact ⟨c, rfl, h⟩
theorem fv_none {K : PySem.W.Frag} {μ : Mu} {H : Hp} {x : Str} (hx : x ∉ F.fld) : ∀ {fs : List (Nat × D)} {fv : List (Str × V)}, RpF K F μ H fs fv → fv.lookup x = none
  | _, _, .nil => rfl
  | (j, d) :: fs, (y, v) :: fv, .cons h t => by
    have hne : (x == y) = false := by
      rw [beq_eq_false_iff_ne]
      intro q; subst q
      exact hx (List.mem_of_getElem? (show F.fld[j]? = some x from h.1))
    simp only [List.lookup, hne]
    exact fv_none hx t
theorem methE0 (o : Ok X F T G call) {a : Expr} {g : Env → Store → R D} {m : Nat} {x : Str} {apos pos : Pos} (hx : T.mth[m]? = some x) (hst : T.sts.contains x = false) (ha : PE X a (tE X.K F g)) (hb : isCall a = false) (hline : (apos.endLine == pos.line) = true) :
    PE X (.Call (.Attribute a x apos) [] [] pos) (tE X.K F fun ρ st => (g ρ st).bind fun y s => (match methF G.meth m y s with
    | some f => call f [y] s
    | none => .no)) := by
  refine ⟨fun pins s σ H Q I w => ?_⟩
  obtain ⟨μ, ρ, st, S, w⟩ := w
  dsimp only at w
  cases hg : g ρ st with
  | no => rw [hg] at w; exact w.elim
  | ok d s1 =>
    have w' := WP.bind w
    rw [hg] at w w'
    simp only [R.bind_ok] at w
    cases hf : methF G.meth m d s1 with
    | none => rw [hf] at w; exact w.elim
    | some f =>
      obtain ⟨c, hc, hm⟩ := methF_ok hf
      obtain ⟨hnf, C, fa, fd, ps, k, hC, hM, hr, hF, hB⟩ := o.mth m x c f hx hst hm
      refine (pe_meth0 ha (o.kit.cl c C hC) hM hF hr hB .nil pass0 (methTree (base_ok hb) hline (noStar.form (by intro e h; cases h) (by simp)))).run pins s σ H Q I ⟨μ, ρ, st, S, ?_⟩
      rw [hg]
      intro μ1 H1 P1 v rv
      have w1 := w' μ1 H1 P1
      obtain ⟨l, p, C', dx, fs, fv, rfl, rfl, e1, e2, e3⟩ := cls_ok P1.sto rv hc
      rw [hC] at e1
      cases e1
      refine ⟨p, dx, fv, rfl, e2, fv_none (by rw [o.fld]; exact hnf) e3, ?_⟩
      rw [hf] at w1
      exact ⟨μ1, s1, [.ref l], P1.sto, .cons rv .nil, w1⟩
theorem methE (o : Ok X F T G call) {a b : Expr} {es : List Expr} {g : Env → Store → R D} {k : Env → Store → R (List D)} {m : Nat} {x : Str} {apos pos : Pos} (hx : T.mth[m]? = some x) (hst : T.sts.contains x = false) (ha : PE X a (tE X.K F g)) (hb : isCall a = false) (hline : (apos.endLine == pos.line) = true)
    (hA : PA X (b :: es) (tAs X.K F k)) (hs : noStar (b :: es)) (hl : (b :: es).length < 20) :
    PE X (.Call (.Attribute a x apos) (b :: es) [] pos) (tE X.K F fun ρ st => (g ρ st).bind fun y s => (match methF G.meth m y s with
    | some f => (k ρ s).bind fun ds s => call f (y :: ds) s
    | none => .no)) := by
  have hs2 : noStar es := fun e he => hs e (List.mem_cons_of_mem _ he)
  refine ⟨fun pins s σ H Q I w => ?_⟩
  obtain ⟨μ, ρ, st, S, w⟩ := w
  dsimp only at w
  cases hg : g ρ st with
  | no => rw [hg] at w; exact w.elim
  | ok d s1 =>
    have w' := WP.bind w
    rw [hg] at w w'
    simp only [R.bind_ok] at w
    cases hf : methF G.meth m d s1 with
    | none => rw [hf] at w; exact w.elim
    | some f =>
      obtain ⟨c, hc, hm⟩ := methF_ok hf
      obtain ⟨hnf, C, fa, fd, ps, n, hC, hM, hr, hF, hB⟩ := o.mth m x c f hx hst hm
      refine (pe_meth ha (o.kit.cl c C hC) hM hF hr hB .nil pass0 hA (star_cons (hs b (List.mem_cons_self ..))) hs2.any (methTree (base_ok hb) hline (hs.form hl))).run pins s σ H Q I ⟨μ, ρ, st, S, ?_⟩
      rw [hg]
      intro μ1 H1 P1 v rv
      have w1 := w' μ1 H1 P1
      obtain ⟨l, p, C', dx, fs, fv, rfl, rfl, e1, e2, e3⟩ := cls_ok P1.sto rv hc
      rw [hC] at e1
      cases e1
      refine ⟨p, dx, fv, rfl, e2, fv_none (by rw [o.fld]; exact hnf) e3, ?_⟩
      rw [hf] at w1
      refine ⟨μ1, ρ, s1, S.post P1, w1.bind.mono fun ds s2 μ2 H2 P2 w2 vs rs => ?_⟩
      refine ⟨μ2, s2, .ref l :: ds, P2.sto, ?_, w2⟩
      rw [List.append_nil]
      exact .cons (rv.post P2) rs
theorem star_call {K : PySem.W.Frag} {F : Nm} {call : Nat → List D → Store → R D} {f : Nat} {y : D} {v : V} {ds : List D} {vs : List V} {μ : Mu} {H : Hp} {s : Store} {Q : VK} {E : XK} (S : Sto K F μ s H) (ry : Rp K μ H y v) (rs : Rps K μ H ds vs)
    (w : WP K F μ H ((newT ds s).bind fun t s => call f [y, t] s) (VQ K Q)) : spSt K F (call f) (v :: vs) H Q E := by
  have w1 := WP.bind w
  unfold newT at w1
  obtain ⟨hl, w2⟩ := w1.grd
  have hl : ds.length ≤ 16777216 := of_decide_eq_true hl
  refine ⟨[v], vs, rfl, rfl, by rw [← rs.length, sizeLine_eq]; exact hl, fun p hp => ?_⟩
  have P := Post.fresh (u := .tup vs) S hp
  exact ⟨μ, s, [y, .tup ds], P.sto, .cons (ry.post P) (.cons (.tup upd_same (rs.post P)) .nil), w2 _ _ P⟩
/-- o.m(e, ..), m with a star parameter -/
theorem methS (o : Ok X F T G call) {a b : Expr} {es : List Expr} {g : Env → Store → R D} {k : Env → Store → R (List D)} {m : Nat} {x : Str} {apos pos : Pos} (hx : T.mth[m]? = some x) (hst : T.sts.contains x = true) (ha : PE X a (tE X.K F g)) (hb : isCall a = false) (hline : (apos.endLine == pos.line) = true)
    (hA : PA X (b :: es) (tAs X.K F k)) (hs : noStar (b :: es)) (hl : (b :: es).length < 20) :
    PE X (.Call (.Attribute a x apos) (b :: es) [] pos) (tE X.K F fun ρ st => (g ρ st).bind fun y s => (match methF G.meth m y s with
    | some f => (((k ρ s).bind fun ds s => newT ds s).bind fun t s => .ok [t] s).bind fun ds s => call f (y :: ds) s
    | none => .no)) := by
  have hs2 : noStar es := fun e he => hs e (List.mem_cons_of_mem _ he)
  refine ⟨fun pins s σ H Q I w => ?_⟩
  obtain ⟨μ, ρ, st, S, w⟩ := w
  dsimp only at w
  cases hg : g ρ st with
  | no => rw [hg] at w; exact w.elim
  | ok d s1 =>
    have w' := WP.bind w
    rw [hg] at w w'
    simp only [R.bind_ok] at w
    cases hf : methF G.meth m d s1 with
    | none => rw [hf] at w; exact w.elim
    | some f =>
      obtain ⟨c, hc, hm⟩ := methF_ok hf
      obtain ⟨hnf, C, fa, n, hC, hM, hr, hF⟩ := o.stm m x c f hx hst hm
      refine (pe_methR ha (o.kit.cl c C hC) hM.mt hF hr pass0 hA (star_cons (hs b (List.mem_cons_self ..))) hs2.any (methTree (base_ok hb) hline (hs.form hl))).run pins s σ H Q I ⟨μ, ρ, st, S, ?_⟩
      rw [hg]
      intro μ1 H1 P1 v rv
      have w1 := w' μ1 H1 P1
      obtain ⟨l, p, C', dx, fs, fv, rfl, rfl, e1, e2, e3⟩ := cls_ok P1.sto rv hc
      rw [hC] at e1
      cases e1
      refine ⟨p, dx, fv, rfl, e2, fv_none (by rw [o.fld]; exact hnf) e3, ?_⟩
      rw [hf] at w1
      simp only [R.bind_assoc, R.bind_ok] at w1
      refine ⟨μ1, ρ, s1, S.post P1, w1.bind.mono fun ds s2 μ2 H2 P2 w2 vs rs => ?_⟩
      exact star_call P2.sto (rv.post P2) rs w2
/-- the call's way for starred items of a tuple or a list -/
def tMethSL (K : PySem.W.Frag) (C : Addr) (m : Str) (g : Addr) (sp : Sp) (E : XK) (ta te : TE) : TE := fun σ H Q => ta σ H fun x H1 => ∃ a dx fs, x = .ref a ∧ H1 a = some (.ins C dx fs) ∧ fs.lookup m = none ∧
  ∀ q, H1 q = none → te σ (upd H1 q (.met g a)) fun y H2 => ∃ b vs, y = .ref b ∧ (SqT K H2 b vs ∨ SqL K H2 b vs) ∧ H2 q = some (.met g a) ∧ sp (.ref a :: vs) H2 Q E
theorem pe_methSL {X : Cx} {CX : CXT} {k : Nat} {C g : Addr} {m : Str} {sp : Sp} {E : XK} {o e : Expr} {ta te : TE} {p apos pos : Pos} (he : PE X o ta) (c : Cls X.K C) (b : BMeth X.K C m g) (F : FnR X.prog X.w X.K X.mg X.base CX k g sp) (hr : Room k X.A)
    (hx : Passes CX X E) (ha : PE X e te) (hbase : attributeBase o m X.env (eval o X.env) = eval o X.env := by rfl) : PE X (.Call (.Attribute o m apos) [.Starred e p] [] pos) (tMethSL X.K C m g sp E ta te) := by
  refine ⟨fun pins s σ H Q I h => ?_⟩
  refine starcall_of hbase (thn (he.run pins s σ H _ I h) fun u s1 ⟨x, H1, I1, rx, a, dx, fs, ex, ea, l, q⟩ => ?_)
  subst ex
  obtain rfl : u = Value.ref a := rx
  refine getbound_ok I1 ea c b l fun q1 s2 hq1 I2 => ?_
  refine PySem.W.ks_call (P := PySem.W.MethP X.K q1 g (.ref a)) rfl (PySem.W.keeps_M b.fi) (PySem.W.ks_lone ?_)
  refine thn (ha.run pins s2 σ _ _ I2 (q q1 hq1)) fun v s3 ⟨y, H2, I3, ry, t, vs, ey, ht, hm, hsp⟩ => ?_
  subst ey
  obtain rfl : v = Value.ref t := ry
  refine StX.star_any I3 ht fun us s4 I4 rv => ⟨met_P I4 hm, ?_⟩
  exact wpAny_call (PySem.W.method_call (met_P I4 hm).1 (run_fnR (us := Value.ref a :: us) (vs := V.ref a :: vs) F hr hx I4 (.cons rfl rv) hsp))
/-- o.m( *e) -/
theorem methS1 (o : Ok X F T G call) {a b : Expr} {g k : Env → Store → R D} {m : Nat} {x : Str} {apos pos p : Pos} (hx : T.mth[m]? = some x) (hst : T.sts.contains x = true) (ha : PE X a (tE X.K F g)) (hb : isCall a = false) (hA : PE X b (tE X.K F k)) :
    PE X (.Call (.Attribute a x apos) [.Starred b p] [] pos) (tE X.K F fun ρ st => (g ρ st).bind fun y s => (match methF G.meth m y s with
    | some f => ((((k ρ s).bind fun z s => (seqR z s).bind fun ds s => .ok (ds ++ []) s).bind fun ds s => newT ds s).bind fun t s => .ok [t] s).bind fun ds s => call f (y :: ds) s
    | none => .no)) := by
  refine ⟨fun pins s σ H Q I w => ?_⟩
  obtain ⟨μ, ρ, st, S, w⟩ := w
  dsimp only at w
  cases hg : g ρ st with
  | no => rw [hg] at w; exact w.elim
  | ok d s1 =>
    have w' := WP.bind w
    rw [hg] at w w'
    simp only [R.bind_ok] at w
    cases hf : methF G.meth m d s1 with
    | none => rw [hf] at w; exact w.elim
    | some f =>
      obtain ⟨c, hc, hm⟩ := methF_ok hf
      obtain ⟨hnf, C, fa, n, hC, hM, hr, hF⟩ := o.stm m x c f hx hst hm
      refine (pe_methSL ha (o.kit.cl c C hC) hM hF hr pass0 hA (base_ok hb)).run pins s σ H Q I ⟨μ, ρ, st, S, ?_⟩
      rw [hg]
      intro μ1 H1 P1 v rv
      have w1 := w' μ1 H1 P1
      obtain ⟨l, q, C', dx, fs, fv, rfl, rfl, e1, e2, e3⟩ := cls_ok P1.sto rv hc
      rw [hC] at e1
      cases e1
      refine ⟨q, dx, fv, rfl, e2, fv_none (by rw [o.fld]; exact hnf) e3, fun b hb0 => ?_⟩
      rw [hf] at w1
      simp only [R.bind_assoc, R.bind_ok, List.append_nil] at w1
      have PF := Post.fresh (u := .met fa q) P1.sto hb0
      refine ⟨μ1, ρ, s1, (S.post P1).post PF, ?_⟩
      have wk : WP X.K F μ1 (upd H1 b (.met fa q)) (k ρ s1) fun z s2 μ2 H2 => WP X.K F μ2 H2 ((seqR z s2).bind fun ds s => (newT ds s).bind fun t s => call f [.ref l, t] s) (VQ X.K Q) := by
        have w2 := w1.bind
        cases hk : k ρ s1 with
        | no => rw [hk] at w2; exact w2.elim
        | ok z s2 => rw [hk] at w2; exact fun μ2 H2 P2 => w2 μ2 H2 (⟨P2.pre, fun a o h n => P2.frm a o (PF.frm a o h n) n, fun a h1 h2 => by
            have := P2.new a h1 h2
            unfold upd at this
            split at this
            · cases this
            · exact this, P2.sto⟩)
      refine wk.mono fun z s2 μ2 H2 P2 w2 u ru => ?_
      have keep : H2 b = some (.met fa q) := P2.frm b _ upd_same (.inl (P1.sto.free hb0))
      cases ru with
      | @tup ds c vs h r =>
        refine ⟨c, vs, rfl, .inl (.inl (.inl h)), keep, ?_⟩
        exact star_call P2.sto ((rv.post PF).post P2) r w2
      | @wt ds c vs h r =>
        refine ⟨c, vs, rfl, .inl h, keep, ?_⟩
        exact star_call P2.sto ((rv.post PF).post P2) r w2
      | @ref l2 c fl hl2 =>
        have key : ∀ ds, (s2[l2]? = some (.lst ds) ∨ s2[l2]? = some (.frz ds)) → seqR (.ref l2) s2 = .ok ds s2 → ∃ b_1 vs, V.ref c = V.ref b_1 ∧ (SqT X.K H2 b_1 vs ∨ SqL X.K H2 b_1 vs) ∧ H2 b = some (.met fa q) ∧ spSt X.K F (call f) (V.ref q :: vs) H2 Q fun _ _ _ => False := fun ds h1 h2 => by
          obtain ⟨vs, q1, q2⟩ := P2.sto.list h1 hl2
          rw [h2] at w2
          exact ⟨c, vs, rfl, .inr q1, keep, star_call P2.sto ((rv.post PF).post P2) q2 w2⟩
        cases e : s2[l2]? with
        | none =>
          have w3 : WP X.K F μ2 H2 R.no (VQ X.K Q) := by simpa [seqR, seqW, seqOf, e] using w2
          exact w3.elim
        | some ob =>
          cases ob with
          | lst ds => exact key ds (.inl e) (by simp [seqR, seqW, seqOf, e])
          | frz ds => exact key ds (.inr e) (by simp [seqR, seqW, seqOf, e])
          | _ =>
            have w3 : WP X.K F μ2 H2 R.no (VQ X.K Q) := by simpa [seqR, seqW, seqOf, e] using w2
            exact w3.elim
      | _ => exact (WP.bind w2).elim
theorem propE (o : Ok X F T G call) {a : Expr} {g : Env → Store → R D} {m : Nat} {x : Str} {pos : Pos} (hx : T.prp[m]? = some x) (ha : PE X a (tE X.K F g)) (hb : isCall a = false) :
    PE X (.Attribute a x pos) (tE X.K F fun ρ st => (g ρ st).bind fun y s => propR G call m y s) := by
  refine ⟨fun pins s σ H Q I w => ?_⟩
  obtain ⟨μ, ρ, st, S, w⟩ := w
  dsimp only at w
  cases hg : g ρ st with
  | no => rw [hg] at w; exact w.elim
  | ok d s1 =>
    have w' := WP.bind w
    rw [hg] at w w'
    simp only [R.bind_ok] at w
    unfold propR at w w'
    cases hf : methF G.prop m d s1 with
    | none => rw [hf] at w; exact w.elim
    | some f =>
      obtain ⟨c, hc, hm⟩ := methF_ok hf
      obtain ⟨C, q, fa, fd, ps, k, hC, hP, hr, hF, hB⟩ := o.prp m x c f hx hm
      refine (pe_prop ha (o.kit.cl c C hC) hP hF hr hB .nil pass0 (base_ok hb)).run pins s σ H Q I ⟨μ, ρ, st, S, ?_⟩
      rw [hg]
      intro μ1 H1 P1 v rv
      have w1 := w' μ1 H1 P1
      obtain ⟨l, p, C', dx, fs, fv, rfl, rfl, e1, e2, e3⟩ := cls_ok P1.sto rv hc
      rw [hC] at e1
      cases e1
      rw [hf] at w1
      exact ⟨p, dx, fv, rfl, e2, μ1, s1, [.ref l], P1.sto, .cons rv .nil, w1⟩
theorem tyN_ok (o : Ok X F T G call) {x : Str} {k : Ty} {p : Pos} (h : trTy T X.env.scope x = some k) : ∃ u, tyVal F k = some u ∧ PE X (.Name x p) (tC (tyV u)) := by
  unfold trTy at h
  split at h
  · rename_i hf
    obtain ⟨hg, hd, hm⟩ := isFree_ok o hf
    split at h
    · rename_i e; subst e; cases h; exact ⟨_, rfl, pe_bltn hg hm boot_int rfl (by decide) hd⟩
    · split at h
      · rename_i e; subst e; cases h; exact ⟨_, rfl, pe_bltn hg hm boot_bool rfl (by decide) hd⟩
      · split at h
        · rename_i e; subst e; cases h; exact ⟨_, rfl, pe_bltn hg hm boot_str rfl (by decide) hd⟩
        · split at h
          · rename_i e; subst e; cases h; exact ⟨_, rfl, pe_bltn hg hm boot_tuple rfl (by decide) hd⟩
          · split at h
            · rename_i e; subst e; cases h; exact ⟨_, rfl, pe_bltn hg hm boot_list rfl (by decide) hd⟩
            · cases h
  · split at h
    · rename_i hgl
      obtain ⟨hg, hd⟩ := isGl_ok hgl
      cases e : T.cls.lookup x with
      | none => rw [e] at h; cases h
      | some c =>
        rw [e] at h
        cases h
        obtain ⟨C, hC, hm⟩ := o.cls x c e
        exact ⟨.ref C, by simp [tyVal, hC], pe_glob hg hm rfl hd⟩
    · cases h
/-- args that are class names -/
def tVals (vs : List V) : TA := fun _ H Q => Q vs H
theorem tysN_ok (o : Ok X F T G call) : ∀ {es : List Expr} {ks : List Ty}, trTys T X.env.scope es = some ks → ∃ us, tyVals F ks = some us ∧ PA X es (tVals (us.map tyV))
  | [], ks, h => by
    simp only [trTys, Option.some.injEq] at h
    subst h
    exact ⟨[], rfl, impA pa_nil fun σ H Q w => w⟩
  | e :: es, ks, h => by
    cases e <;> simp only [trTys, reduceCtorEq] at h
    rename_i x p
    cases q : trTy T X.env.scope x with
    | none => rw [q] at h; cases h
    | some k =>
      rw [q] at h
      cases q' : trTys T X.env.scope es with
      | none => rw [q'] at h; cases h
      | some ks' =>
        rw [q'] at h
        simp only [Option.some.injEq] at h
        subst h
        obtain ⟨u, h1, h2⟩ := tyN_ok o q (p := p)
        obtain ⟨us, h3, h4⟩ := tysN_ok o q'
        refine ⟨u :: us, by simp only [tyVals, h1, h3], impA (pa_cons h2 h4 rfl) fun σ H Q w => w⟩
theorem isiE (o : Ok X F T G call) {a b : Expr} {ks : List Ty} {f : Env → Store → R D} {p pos : Pos} (ha : PE X a (tE X.K F f)) (hb : trIsi T X.env.scope b = some ks) (hg : Gl X "isinstance") (hm : X.mg "isinstance" = none) (sa : isStar a = false) (sb : isStar b = false) :
    PE X (.Call (.Name "isinstance" p) [a, b] [] pos) (tE X.K F fun ρ st => (f ρ st).bind fun x s => R.ofB (isAny x s ks) s) := by
  have hpl : (backTo pos (starEach [b] X.env)).any (·.1) = false := by rw [star_one sb]; rfl
  cases b with
  | Name y q =>
    simp only [trIsi] at hb
    cases e : trTy T X.env.scope y with
    | none => rw [e] at hb; cases hb
    | some k =>
      rw [e] at hb
      cases hb
      obtain ⟨u, h1, h2⟩ := tyN_ok o e (p := q)
      refine impE (pe_callB call_isi hg hm boot_isinstance (pa_cons ha (pa_cons h2 pa_nil rfl) (star_cons sa)) (by decide) (by decide) (star_cons sa) hpl) fun σ H Q w => ?_
      obtain ⟨μ, ρ, st, S, w⟩ := w
      refine ⟨μ, ρ, st, S, w.bind.mono fun d s μ1 H1 P1 w1 v rv => ?_⟩
      cases hk : isAny d s [k] with
      | none => rw [hk] at w1; exact w1.elim
      | some c =>
        rw [hk] at w1
        obtain ⟨t, ht⟩ := isTy_ok o.kit P1.sto rv
        have hk' : isTy k d s = some c := by
          simp only [isAny] at hk
          cases z : isTy k d s with
          | none => rw [z] at hk; cases hk
          | some c' => rw [z] at hk; cases c' <;> simpa using hk
        obtain ⟨g1, g2⟩ := ht hk' h1
        exact ⟨v, _, t, u, c, rfl, tyVal_cls h1, g1, g2, WP.ok (Φ := VQ X.K Q) P1.sto w1 _ (.bl c)⟩
  | Tuple es n q =>
    simp only [trIsi] at hb
    cases et : trTys T X.env.scope es with
    | none => rw [et] at hb; cases hb
    | some ks' =>
    rw [et] at hb
    simp only at hb
    split at hb
    · cases hb
    rename_i hz
    cases hb
    simp only [Bool.or_eq_true, not_or, Bool.not_eq_true, Bool.not_eq_eq_eq_not, Bool.not_false, decide_eq_true_eq, List.isEmpty_eq_false_iff] at hz
    obtain ⟨us, h1, h2⟩ := tysN_ok o et
    have hlen : us.length = ks.length := by
      have : ∀ (ks : List Ty) (us : List Value), tyVals F ks = some us → us.length = ks.length := by
        intro ks
        induction ks with
        | nil => intro us h; simp only [tyVals, Option.some.injEq] at h; subst h; rfl
        | cons k ks ih =>
          intro us h
          simp only [tyVals] at h
          cases q : tyVal F k with
          | none => rw [q] at h; cases h
          | some u =>
            rw [q] at h
            cases q' : tyVals F ks with
            | none => rw [q'] at h; cases h
            | some vs =>
              rw [q'] at h
              simp only [Option.some.injEq] at h
              subst h
              rw [List.length_cons, List.length_cons, ih vs q']
      exact this _ _ h1
    refine impE (pe_callB call_isiT hg hm boot_isinstance (pa_cons ha (pa_cons (pe_tup h2) pa_nil rfl) (star_cons sa)) (by decide) (by decide) (star_cons sa) hpl) fun σ H Q w => ?_
    obtain ⟨μ, ρ, st, S, w⟩ := w
    refine ⟨μ, ρ, st, S, w.bind.mono fun d s μ1 H1 P1 w1 v rv => ?_⟩
    cases hk : isAny d s ks with
    | none => rw [hk] at w1; exact w1.elim
    | some c =>
      rw [hk] at w1
      have hz2 : ks.length ≤ 16 := by simpa using hz.2
      refine ⟨by rw [List.length_map, hlen, sizeLine_eq]; omega, fun tp htp => ?_⟩
      have P2 := Post.fresh (u := .tup (us.map tyV)) P1.sto htp
      have rv2 := rv.post P2
      obtain ⟨t, ht⟩ := isAny_ok o.kit P2.sto rv2
      obtain ⟨g1, g2⟩ := ht hz.1 hk h1
      exact ⟨v, tp, us.map tyV, t, us, c, rfl, upd_same, tyVals_cls h1, g1, g2, w1 _ _ P2 _ (.bl c)⟩
  | _ => simp only [trIsi, reduceCtorEq] at hb
end
end Nz
namespace Nz
open PySem L2 PyProof.Rows
section
variable {X : Cx} {F : Nm}
theorem dnewE {t : Bool} {pos : Pos} : PE X (.Dict [] [] pos) (tE X.K F fun _ st => .ok (.ref st.length) (st ++ [.dct t []])) := by
  cases t with
  | false =>
    refine impE pe_dnewK fun σ H Q ⟨μ, ρ, st, S, w⟩ p hp => ?_
    have P := Post.push (u := .dK []) (o := .dct false []) S.sto hp ⟨[], upd_same, .nil⟩
    exact w _ _ P _ (.ref (b := false) (by rw [← S.sto.len]; simp))
  | true =>
    refine impE pe_dnewT fun σ H Q ⟨μ, ρ, st, S, w⟩ p hp => ?_
    have P := Post.push (u := .dT []) (o := .dct true []) S.sto hp ⟨[], upd_same, .nil⟩
    exact w _ _ P _ (.ref (b := false) (by rw [← S.sto.len]; simp))
theorem m2_of {a b c : Expr} {m : Str} {apos pos : Pos} (h : isCall a = false) (hs : isStar b = false) (hs2 : isStar c = false) (hl : (apos.endLine == pos.line) = true) : M2 X a m apos b c pos := by
  refine ⟨base_ok h, ?_, hl, ?_⟩
  · rw [star_two hs hs2]; rfl
  · rw [star_two hs hs2]; rfl
theorem dgetE (hu : X.A.units + 64 < cLine) {a b c : Expr} {f g h : Env → Store → R D} {apos pos : Pos} (ha : PE X a (tE X.K F f)) (hb : PE X b (tE X.K F g)) (hc : PE X c (tE X.K F h)) (h1 : isCall a = false) (hs : isStar b = false) (hs2 : isStar c = false) (hl : (apos.endLine == pos.line) = true) :
    PE X (.Call (.Attribute a "get" apos) [b, c] [] pos) (tE X.K F fun ρ st => (f ρ st).bind fun x s => R.grd (dctOf x s).isSome ((g ρ s).bind fun y s => (h ρ s).bind fun z s => dGet2 x y z s)) := by
  refine impE (pe_dget2 (by omega) ha hb hc (m2_of h1 hs hs2 hl)) fun σ H Q ⟨μ, ρ, st, S, w⟩ => ?_
  refine ⟨μ, ρ, st, S, w.bind.mono fun x s μ1 H1 P1 w1 v rv => ?_⟩
  obtain ⟨hd, w1⟩ := w1.grd
  cases hdc : dctOf x s with
  | none => rw [hdc] at hd; cases hd
  | some tk =>
    obtain ⟨t, kvs⟩ := tk
    obtain ⟨l, p, rfl, rfl, e1, e2, e3⟩ := dctOf_ok P1.sto rv hdc
    refine ⟨p, rfl, ?_, μ1, ρ, s, S.post P1, w1.bind.mono fun y s2 μ2 H2 P2 w2 u ru => ⟨μ2, ρ, s2, (S.post P1).post P2, w2.bind.mono fun z s3 μ3 H3 P3 w3 zv rz => ?_⟩⟩
    · cases t with
      | false => obtain ⟨kv, q, _⟩ := e3; exact .inl ⟨kv, .inl q⟩
      | true => obtain ⟨kv, q, _⟩ := e3; exact .inr ⟨kv, .inl q⟩
    · have rv3 := (rv.post P2).post P3
      have ru3 := ru.post P3
      unfold dGet2 at w3
      cases hdc : dctOf (.ref l) s3 with
      | none => rw [hdc] at w3; exact w3.elim
      | some tk =>
        obtain ⟨t, kvs⟩ := tk
        obtain ⟨l', p', q1, q2, e1, e2, e3⟩ := dctOf_ok P3.sto rv3 hdc
        cases q1; cases q2
        rw [hdc] at w3
        obtain ⟨hk, w3⟩ := WP.grd w3
        rcases dget_ok e3 ru3 hk with ⟨q1, g⟩ | ⟨d, dv, q1, g, rd⟩
        · rw [q1] at w3
          exact ⟨none, g, WP.ok (Φ := VQ X.K Q) P3.sto w3 _ rz⟩
        · rw [q1] at w3
          exact ⟨some dv, g, WP.ok (Φ := VQ X.K Q) P3.sto w3 _ rd⟩
end
end Nz
namespace Nz
open PySem L2 PyProof.Rows
def nD : Bool → HO
  | true => .dT []
  | false => .dK []
theorem nD_ok {P : Program} {w : World} {H : Hp} (t : Bool) (h : Heap) (hb : sysModules < h.objs.size) : ObjOk P w H (h.push { cls := .type "dict", data := .dict #[] }) h.objs.size (nD t) := by
  cases t
  · exact dk_empty h hb
  · exact dt_empty h hb
/-- a pair is put by a comprehension -/
theorem dPutC {X : Cx} {ps : List (Addr × Obj)} {σ : L2.St} {H H' : Hp} {s : Shared} {E : Value → Shared → Prop} {D : Addr} {y z : V} {u r : Value} {Q : Unit → Shared → Prop}
    (hu : X.A.units + 64 < cLine) (I : Inv X ps σ H s) (g : DPut H D y z H') (ry : RelV y u) (rz : RelV z r) (k : ∀ s', Inv X ps σ H' s' → Q () s') :
    wpAny (model X.prog X.w) X.A (dictSet D u r) Q E s := by
  rcases g with ⟨kvs, j, e, rfl, l, rfl⟩ | ⟨kvs, j, b, e, rfl, eb, l, rfl⟩
  · exact d_dictSet I e l ry rz k
  · cases (show u = Value.ref b from ry)
    obtain ⟨n1, n2, xs, rl, dd⟩ := dt_of I.hok e
    have n3 : xs.length ≤ sizeLine := by rw [← Paired.length rl]; exact n1
    have n4 : (putK kvs j z).length ≤ sizeLine := by have := length_putK kvs j z; omega
    have hr : (tupleKind (mixKind X.prog X.w)).room X.A := by show X.A.units < cLine; omega
    refine wpAny_dictSet_heap (hsz := n3) hr (key_of I.hok eb) dd fun h' d2 sb => k _ ?_
    obtain ⟨q, es, ep, g1, g2, g3, g4, _, g5⟩ := d2
    exact d_write I (by rw [e]; trivial) sb ⟨q, g1⟩ ⟨n4, n2, _, (rl.put j eb rz).keeps fun c ys ec => by
      rw [upd_ne (ne_of ec e (by intro w; cases w))]
      exact ec, q, es, ep, g1, g2, g3, g4, g5⟩
section
variable {X : Cx}
/-- {k: v for .. if ..}; D: the new dict -/
def tDk (t : Bool) (wi : TI) (g : TG) (tt : TT) (tk tv : TE) (vs : List Nat) : TE := fun σ H Q => wi σ H fun J H1 => ∀ D, H1 D = none →
  ∃ W : Nat → Nat → Hp → Prop, (∃ m, W 0 m (upd H1 D (nD t))) ∧ ∀ i m H, W i m H → (J.stop i H ∧ Q (.ref D) H) ∨ (J.go i H ∧
    ∃ Nx : Hp → Prop, (∀ H', Nx H' → ∃ m', m' < m ∧ W (i + 1) m' H') ∧ ∀ x H', J.yld i H x H' → g x (L2.wipe σ vs) H' fun σ2 H2 => L2.wipe σ2 vs = L2.wipe σ vs ∧
      tt σ2 H2 fun b H3 => if b = true then tk σ2 H3 fun y H4 => tv σ2 H4 fun z H5 => ∃ H6, DPut H5 D y z H6 ∧ Nx H6 else Nx H3)
theorem peDk (t : Bool) (hu : X.A.units + 64 < cLine) {kx vx tg iter : Expr} {ifs : List Expr} {scope : Scope} {own : List (Str × Nat)} {pos : Pos} {wi : TI} {g : TG} {tt : TT} {tk tv : TE} (hc : X.calm = true) (nd : X.N.Nodup) (pi : PI X tg iter wi) (bk : BlkOk X.N X.env.scope scope own)
    (pg : ∀ (s : Shared) (H : Hp) (C : Addr) (cl : List (Str × Addr)) (fp : List Addr), PG (X.blk s H scope (compEnvC scope cl C X.env) fp) tg g)
    (pt : ∀ (s : Shared) (H : Hp) (C : Addr) (cl : List (Str × Addr)) (fp : List Addr), PTs (X.blk s H scope (compEnvC scope cl C X.env) fp) ifs tt)
    (pk : ∀ (s : Shared) (H : Hp) (C : Addr) (cl : List (Str × Addr)) (fp : List Addr), PE (X.blk s H scope (compEnvC scope cl C X.env) fp) kx tk)
    (pv : ∀ (s : Shared) (H : Hp) (C : Addr) (cl : List (Str × Addr)) (fp : List Addr), PE (X.blk s H scope (compEnvC scope cl C X.env) fp) vx tv)
    (hs : ∀ x, foldedSetIterable iter X.env x = pure x) : PE X (.DictComp kx vx [⟨tg, iter, ifs, 0⟩] scope pos) (tDk t wi g tt tk tv (own.map (·.2))) := by
  refine ⟨fun ps s0 σ H Q I0 wish => ?_⟩
  rw [arm_eval_DictComp]
  -- the name of a captured cell
  have cap : ∀ y ∈ scope.names, y.2 = .free → ∃ c, X.env.cells.lookup y.1 = some c := fun y hy e => (bk.free y hy e).elim (fun k => I0.ok.has _ (.inl k)) (fun k => I0.ok.has _ (.inr k))
  refine wpAny_comprehension_free rfl hs (closure_ok cap) bk.kind (fun y hy e => by rw [bk.uniq y hy, e]) (thn (pi.run ps s0 σ H _ I0 wish) fun xv s1 hx => thn hx fun itv s2 h2 => ?_)
  obtain ⟨it, fp, tn, J, H2, rfl, I2, T, n2, f2, go⟩ := h2
  refine wpAny_newObj_type (newEnv_comp ?_)
  obtain ⟨D, hD⟩ : ∃ D, D = s2.heap.objs.size := ⟨_, rfl⟩
  rw [← hD]
  obtain ⟨W, ⟨m0, w0⟩, turn⟩ := go D (I2.hok.fresh (Nat.le_of_eq hD.symm))
  -- the new dict is laid
  obtain ⟨s3, hs3⟩ : ∃ s3 : Shared, s3 = { s2 with heap := s2.heap.push { cls := .type "dict", data := .dict #[] } } := ⟨_, rfl⟩
  have e3 : s3.heap = s2.heap.push { cls := .type "dict", data := .dict #[] } := by rw [hs3]
  have I3 : Inv X ps σ (upd H2 D (nD t)) s3 := by
    rw [hs3]
    refine I2.laid (t' := s2.toks) (fun b o e => Heap.get?_push_of_some _ e) (Nat.le_of_eq hD.symm) ?_
    rw [hD]
    exact nD_ok t s2.heap I2.big
  obtain ⟨H3, hH3⟩ : ∃ H3, H3 = upd H2 D (nD t) := ⟨_, rfl⟩
  rw [← hH3] at I3 w0
  have small : ∀ b ∈ fp, b < s2.heap.objs.size := fun b hb => let ⟨o, e, _⟩ := T.obj _ _ n2 b hb; Heap.lt_size e
  have f3 : ∀ b ∈ fp, FpOk X ps H3 b ∧ b < s3.heap.objs.size := fun b hb => by
    have lt := small b hb
    have ne : b ≠ D := by rw [hD]; exact Nat.ne_of_lt lt
    exact ⟨⟨by rw [hH3, upd_ne ne]; exact (f2 b hb).1, (f2 b hb).2⟩, by rw [e3, Heap.size_push]; exact Nat.lt_succ_of_lt lt⟩
  have n3 : tn 0 s3.heap := T.keep _ _ _ n2 fun b _ o e => by rw [e3]; exact Heap.get?_push_of_some _ e
  have I4 := block_start I3 bk nd f3
  obtain ⟨C, hC⟩ : ∃ C, C = s3.heap.objs.size := ⟨_, rfl⟩
  obtain ⟨cl, hcl⟩ : ∃ cl, cl = cellsFrom (C + 1) scope.names (cloFrom X.env.cells scope.names []) := ⟨_, rfl⟩
  rw [← hs3]
  rw [← hC, ← hcl] at I4 ⊢
  obtain ⟨ce, hce⟩ : ∃ ce, ce = compEnvC scope cl C X.env := ⟨_, rfl⟩
  have xg := pg s3 H3 C cl fp
  have xt := pt s3 H3 C cl fp
  have xk := pk s3 H3 C cl fp
  have xv := pv s3 H3 C cl fp
  show codeAny _ _ (.compStart _ 0 (.ref it) (.ref D) (compEnvC scope cl C X.env)) _ _
  rw [← hce] at I4 xg xt xk xv ⊢
  have hcL : ce.locals = C := by rw [hce]; rfl
  obtain ⟨s4, hs4⟩ : ∃ s4 : Shared, s4 = { s3 with heap := pushCells (s3.heap.push { cls := .type "dict", data := .dict #[] }) scope.names } := ⟨_, rfl⟩
  rw [← hs4] at I4
  have n4 : tn 0 s4.heap := T.keep _ _ _ n3 fun b _ o e => by rw [hs4]; exact pushCells_keeps _ _ _ _ (Heap.get?_push_of_some _ e)
  have foot : ∀ {σ' : L2.St} {H' : Hp} {s' : Shared}, Inv (X.blk s3 H3 scope ce fp) [] σ' H' s' → (∀ b ∈ fp, H' b = none) → ∀ b ∈ fp, FpOk (X.blk s3 H3 scope ce fp) [] H' b := fun I' n b hb =>
    ⟨n b hb, (I'.ok.exf b hb).1, I'.ok.exfs b hb, .inl hb, fun x c e => (I'.ok.exf b hb).2 x c e, fun p hp => by cases hp⟩
  let Iv : Nat → Shared → Prop := fun n s' => ∃ i H', Inv (X.blk s3 H3 scope ce fp) [] (L2.wipe σ (own.map (·.2))) H' s' ∧ tn i s'.heap ∧ (∀ b ∈ fp, H' b = none) ∧ W i n H'
  have lp : codeAny (model X.prog X.w) X.A (.compLoop (.DictComp kx vx [⟨tg, iter, ifs, 0⟩] scope pos) 0 (.ref it) (.ref D) ce)
      (compPost (model X.prog X.w) X.A X.xe none (EP X ps σ Q) (.ref D) C) s4 := by
    refine compLoop_anyD Iv ?_ m0 ⟨0, H3, I4, n4, fun b hb => (f3 b hb).1.1, w0⟩
    rintro n s5 ⟨i, H5, I5, n5, c5, w5⟩
    rcases turn i n H5 w5 with ⟨stop, fin⟩ | ⟨goes, Nx, nx, step⟩
    · have dn := T.done (X.blk s3 H3 scope ce fp) rfl rfl rfl hc i [] s5 _ H5 (fun _ _ => False) I5 (foot I5 c5) n5 stop
      refine thnF dn fun r s6 ⟨hr, I6⟩ => ?_
      subst hr
      have I7 : Inv X ps σ H5 s6 := I3.call' (ch := fp) I6.os I6.base I6.hok I6.bare fun b hb => ⟨(f3 b hb).1.2.2.2.1, (f3 b hb).1.2.1, (f3 b hb).1.2.2.2.2.1, (f3 b hb).1.2.2.2.2.2⟩
      have zC : H5 C = none := by
        have z : H5 ce.locals = none := I6.free
        rwa [hcL] at z
      obtain ⟨m, mn, _⟩ := I6.loc
      have mn : s6.heap.Ns ce.locals m := mn
      rw [hcL] at mn
      obtain ⟨a0, a1, a2, a3, a4, a5⟩ := I3.fpOk (Nat.le_of_eq hC.symm) zC
      exact ⟨m, mn, fun h'' sb => ⟨.ref D, H5, I7.turned (t' := s6.toks) (fun b o hb e => (sb.2 b hb).trans e) a0 a1 a3 a4 a5, rfl, fin⟩⟩
    · have it1 := T.item (X.blk s3 H3 scope ce fp) rfl rfl rfl hc i [] s5 _ H5 (fun _ _ => False) I5 (foot I5 c5) n5 goes
      refine thnF it1 fun r s6 ⟨u, hr, h6⟩ => ?_
      subst hr
      refine thnF h6 fun _ s7 ⟨x, H7, I7, r7, y7, n7, c7⟩ => ?_
      have I7' := I7.pinned (foot I7 c7) (T.obj _ _ n7)
      refine thnF (xg.run _ s7 _ H7 x u _ I7' r7 (step x H7 y7)) fun _ s8 ⟨σ8, H8, I8, w8, q8⟩ => ?_
      refine thnF (xt.run _ s8 σ8 H8 _ I8 q8) fun b s9 ⟨H9, I9, q9⟩ => ?_
      have again : ∀ {s' : Shared} {H' : Hp}, Inv (X.blk s3 H3 scope ce fp) ([] ++ pinsAt fp s7.heap) σ8 H' s' → Nx H' → ∃ m, m < n ∧ Iv m s' := fun {s' H'} I' q => by
        obtain ⟨m', lt, w'⟩ := nx H' q
        have pin : ∀ b ∈ fp, ∀ o, s7.heap.get? b = some o → s'.heap.get? b = some o ∧ H' b = none := fun b hb o e => by
          have z := I'.pin (b, o) (List.mem_append_right _ (List.mem_append_right _ (mem_pinsAt hb e)))
          exact ⟨z.1, z.2.1⟩
        have len : (L2.wipe σ (own.map (·.2))).length = σ8.length := by rw [← w8, wipe_length]
        refine ⟨m', lt, i + 1, H', (I'.unpinned (pins := [])).weak len (fun j v e => ?_), T.keep _ _ _ n7 (fun b hb o e => (pin b hb o e).1), (fun b hb => ?_), w'⟩
        · rw [← w8] at e
          exact (wipe_some e).1
        · obtain ⟨o, e, _⟩ := T.obj _ _ n7 b hb
          exact (pin b hb o e).2
      cases b with
      | false =>
        rw [if_neg Bool.false_ne_true] at q9 ⊢
        exact again I9 q9
      | true =>
        rw [if_pos rfl] at q9 ⊢
        refine thnF (xk.run _ s9 σ8 H9 _ I9 q9) fun z s10 ⟨yk, H10, I10, r10, q10⟩ => ?_
        refine thnF (xv.run _ s10 σ8 H10 _ I10 q10) fun z2 s11 ⟨yv, H11, I11, r11, H12, put, q11⟩ => ?_
        exact dPutC (X := X.blk s3 H3 scope ce fp) hu I11 put r10 r11 fun s12 I12 => again I12 q11
  have st := codeAny_compStart_dict lp (T.self X.A 0 _ _ _ n4 lp)
  rw [hs4] at st
  exact st
end
abbrev dkB (t : T) (l : Nat) (b : Bool) (fc : Env → Store → R Bool) (fk fv : Env → Store → R D) (ρ0 : Env) : D → Store → R D := fun d s1 => (match T.asg t d ρ0 with
      | none => .no
      | some ρ1 => (fc ρ1 s1).bind fun k s2 => (match k with
        | true => (fk ρ1 s2).bind fun x s3 => (fv ρ1 s3).bind fun y s4 => dPutR l b x y s4
        | false => .ok .non s2))
section
variable {X : Cx} {F : Nm}
theorem nD_rp {K : PySem.W.Frag} {μ : Mu} {H : Hp} {D : Addr} (t : Bool) : RpH K F μ (upd H D (nD t)) D (.dct t []) := by
  cases t
  · exact ⟨[], upd_same, .nil⟩
  · exact ⟨[], upd_same, .nil⟩
theorem dcmpE (b : Bool) {own : List (Str × Nat)} {t : T} {fi : Env → Store → R Wk} {fc : Env → Store → R Bool} {fk fv : Env → Store → R D}
    (hts : ∀ i ∈ t.slots, i ∈ own.map (·.2)) {σ : L2.St} {H : Hp} {Q : VK}
    (w : tE X.K F (fun ρ st => (fi ρ st).bind fun w s => (lpU (dkB t s.length b fc fk fv (forget ρ (own.map (·.2)))) w.wat w.its (s ++ [.dct b []])).bind fun _ s' => .ok (.ref s.length) s') σ H Q) :
    tDk b (tIt X.K F fi) (gT X.K F t) (tCo X.K F fc) (tE X.K F fk) (tE X.K F fv) (own.map (·.2)) σ H Q := by
  obtain ⟨μ, ρ, st, S, w⟩ := w
  refine ⟨μ, ρ, st, S, w.bind.mono fun wk s1 μ1 H1 P1 w1 J hJ D hD => ?_⟩
  have PD : Post X.K F μ1 H1 (s1 ++ [.dct b []]) (μ1 ++ [(D, false)]) (upd H1 D (nD b)) := Post.push P1.sto hD (nD_rp b)
  have hlD : (μ1 ++ [(D, false)])[s1.length]? = some (D, false) := by rw [← P1.sto.len]; simp
  have SD := (S.post P1).post PD
  have w1 := w1.up PD
  obtain ⟨l, hl⟩ : ∃ l, l = s1.length := ⟨_, rfl⟩
  rw [← hl] at w1 hlD
  generalize hμD : μ1 ++ [(D, false)] = μD at *
  generalize hHD : upd H1 D (nD b) = HD at *
  let out := dkB t l b fc fk fv (forget ρ (own.map (·.2)))
  let fin : Nz.D → Store → R Nz.D := fun _ s' => .ok (.ref l) s'
  let Iv := fun (i : Nat) (H2 : Hp) => ∃ (s2 : Store) (μ2 : Mu), Post X.K F μ1 H1 s2 μ2 H2 ∧ Post X.K F μD HD s2 μ2 H2 ∧ i ≤ wk.its.length ∧ WP X.K F μ2 H2 ((lpU out wk.wat (wk.its.drop i) s2).bind fin) (VQ X.K Q)
  refine ⟨fun i m H2 => m = wk.its.length - i ∧ Iv i H2, ⟨wk.its.length, by simp, s1 ++ [O.dct b []], μD, PD, .refl PD.sto, Nat.zero_le _, by rw [List.drop_zero]; exact w1⟩, ?_⟩
  rintro i m H2 ⟨rfl, s2, μ2, P2, Q2, hi, w2⟩
  by_cases hlt : i < wk.its.length
  · rw [List.drop_eq_getElem_cons hlt] at w2
    obtain ⟨hw, w2⟩ := lpU_cons w2
    obtain ⟨j1, j2, j3⟩ := hJ s2 μ2 H2 P2 hw
    refine .inr ⟨j1 i hlt, fun H' => Iv (i + 1) H', fun H' h' => ⟨wk.its.length - (i + 1), by omega, rfl, h'⟩, fun x H3 y => ?_⟩
    obtain ⟨d, hd, P3, rd⟩ := j3 i x H3 hlt y
    have hd' : d = wk.its[i] := by
      rw [List.getElem?_eq_getElem hlt] at hd
      exact (Option.some.inj hd).symm
    subst hd'
    have S3 := (SD.post (Q2.trans P3)).wipe (own.map (·.2))
    have w3 := w2.up P3
    cases ha : T.asg t wk.its[i] (forget ρ (own.map (·.2))) with
    | none =>
      simp only [out, dkB, ha] at w3
      exact w3.elim
    | some ρ1 =>
      simp only [out, dkB, ha] at w3
      rw [R.bind_assoc] at w3
      refine ⟨μ2, _, s2, _, ρ1, S3, rd, ha, fun σ2 S4 n4 => ⟨wipe_near n4 hts, ?_⟩⟩
      refine ⟨μ2, ρ1, s2, S4, (WP.bind w3).mono fun k s5 μ5 H5 P5 w5 => ?_⟩
      have S5 := S4.post P5
      have Q5 := (Q2.trans P3).trans P5
      have R5 := (P2.trans P3).trans P5
      cases k with
      | false =>
        show if false = true then _ else _
        rw [if_neg Bool.false_ne_true]
        exact ⟨s5, μ5, R5, Q5, hlt, w5⟩
      | true =>
        simp only [R.bind_assoc] at w5
        show if true = true then _ else _
        rw [if_pos rfl]
        refine ⟨μ5, ρ1, s5, S5, (WP.bind w5).mono fun kd s6 μ6 H6 P6 w6 v rv => ?_⟩
        refine ⟨μ6, ρ1, s6, S5.post P6, (WP.bind w6).mono fun z s7 μ7 H7 P7 w7 u ru => ?_⟩
        have Q7 := (Q5.trans P6).trans P7
        have R7 := (R5.trans P6).trans P7
        have hl7 : μ7[l]? = some (D, false) := pre_get Q7.pre hlD
        obtain ⟨kvs, he, hk, hlen, w10⟩ : ∃ kvs, s7[l]? = some (.dct b kvs) ∧ kd.keyOk b = true ∧ kvs.length < 16777216 ∧ WP X.K F μ7 H7 ((lpU out wk.wat (wk.its.drop (i + 1)) (s7.set l (.dct b (dPut kvs kd z)))).bind fin) (VQ X.K Q) := by
          simp only [dPutR] at w7
          split at w7
          · rename_i u kvs he
            cases hq : (u == b && (kd.keyOk b && decide (kvs.length < LINE))) with
            | false => rw [hq, R.grd_false] at w7; exact w7.elim
            | true =>
              rw [hq, R.grd_true, R.bind_ok] at w7
              simp only [Bool.and_eq_true, beq_iff_eq, decide_eq_true_eq] at hq
              obtain ⟨q1, q2, q3⟩ := hq
              subst q1
              exact ⟨kvs, he, q2, q3, w7⟩
          · exact w7.elim
        obtain ⟨H8, put, P8⟩ := dput_ok P7.sto hl7 he (rv.post P7) ru hk hlen
        exact ⟨H8, put, _, μ7, R7.trans P8, Q7.trans P8, hlt, w10.up P8⟩
  · have e : i = wk.its.length := by omega
    subst e
    rw [List.drop_length] at w2
    obtain ⟨hw, w2⟩ := lpU_nil w2
    obtain ⟨j1, j2, j3⟩ := hJ s2 μ2 H2 P2 hw
    exact .inl ⟨j2, WP.ok (Φ := VQ X.K Q) P2.sto w2 _ (.ref (b := false) (pre_get Q2.pre hlD))⟩
end
end Nz
namespace Nz
open PySem L2 PyProof.Rows
section
variable {X : Cx} {F : Nm} {a b : Expr} {f g : Env → Store → R D} {pos : Pos}
theorem cntE {apos : Pos} (ha : PE X a (tE X.K F f)) (hb : PE X b (tE X.K F g)) (hbase : attributeBase a "count" X.env (eval a X.env) = eval a X.env) (hline : (apos.endLine == pos.line) = true) (hs : starEach [b] X.env = [(false, eval b X.env)]) :
    PE X (.Call (.Attribute a "count" apos) [b] [] pos) (tE X.K F fun ρ st => (f ρ st).bind fun x s => R.grd (lstOf x s).isSome ((g ρ s).bind fun y s => cntR x y s)) :=
  impE (pe_bm PySem.F.plainAttrs_list PySem.F.slot_list_count PySem.F.type_list_count mt_lcount ha (pa_cons hb pa_nil hs) hbase (by simp only [hs]; rfl) hline hs rfl) fun σ H Q w => by
    obtain ⟨μ, ρ, st, S, w⟩ := w
    refine ⟨μ, ρ, st, S, w.bind.mono fun d s μ1 H1 P1 w1 v rv => ?_⟩
    obtain ⟨hl, w1⟩ := w1.grd
    cases hd : lstOf d s with
    | none => rw [hd] at hl; cases hl
    | some ds =>
      obtain ⟨p, vs, rfl, hq, rs⟩ := lstOf_ok P1.sto rv hd
      refine ⟨.inl ⟨rfl, vs, hq⟩, ?_⟩
      refine ⟨μ1, ρ, s, S.post P1, w1.bind.mono fun e s2 μ2 H2 P2 w2 u ru => ?_⟩
      have rv2 := rv.post P2
      simp only [cntR] at w2
      cases hd2 : lstOf d s2 with
      | none => rw [hd2] at w2; exact w2.elim
      | some es =>
        rw [hd2] at w2
        obtain ⟨p2, ws, e2, hq2, rs2⟩ := lstOf_ok P2.sto rv2 hd2
        cases e2
        cases ru with
        | int k =>
          simp only at w2
          cases hi : intsOf es with
          | none => rw [hi] at w2; exact w2.elim
          | some ns =>
            rw [hi] at w2
            have := intsOf_ok rs2 hi
            subst this
            exact ⟨p, ns, k, rfl, rfl, hq2, WP.ok (Φ := VQ X.K Q) P2.sto w2 _ (.int _)⟩
        | _ => exact w2.elim
theorem place_seq {n : Nat} {i : Int} {j : Nat} (h : place n i = some j) : seqIndex? i n = some j ∧ j < n := by
  unfold place at h
  split at h
  · rename_i h0
    split at h
    · rename_i h1
      cases h
      exact ⟨seqIndex_of h0 (by omega), by omega⟩
    · cases h
  · rename_i h0
    split at h
    · rename_i h1
      cases h
      exact ⟨seqIndex_neg (by omega) h1, by omega⟩
    · cases h
theorem Rps.erase {K : PySem.W.Frag} {μ : Mu} {H : Hp} : ∀ {ds : List D} {vs : List V} (i : Nat), Rps K μ H ds vs → Rps K μ H (ds.eraseIdx i) (vs.eraseIdx i)
  | _, _, _, .nil => .nil
  | _, _, 0, .cons _ t => t
  | _, _, i + 1, .cons q t => .cons q (Rps.erase i t)
theorem popiE {apos : Pos} (ha : PE X a (tE X.K F f)) (hb : PE X b (tE X.K F g)) (hbase : attributeBase a "pop" X.env (eval a X.env) = eval a X.env) (hline : (apos.endLine == pos.line) = true) (hs : starEach [b] X.env = [(false, eval b X.env)]) :
    PE X (.Call (.Attribute a "pop" apos) [b] [] pos) (tE X.K F fun ρ st => (f ρ st).bind fun x s => R.grd (lstOf x s).isSome ((g ρ s).bind fun y s => popR x y s)) :=
  impE (pe_bm PySem.F.plainAttrs_list PySem.F.slot_list_pop PySem.F.type_list_pop mt_popAt ha (pa_cons hb pa_nil hs) hbase (by simp only [hs]; rfl) hline hs rfl) fun σ H Q w => by
    obtain ⟨μ, ρ, st, S, w⟩ := w
    refine ⟨μ, ρ, st, S, w.bind.mono fun d s μ1 H1 P1 w1 v rv => ?_⟩
    obtain ⟨hl, w1⟩ := w1.grd
    cases hd : lstOf d s with
    | none => rw [hd] at hl; cases hl
    | some ds =>
      obtain ⟨p, vs, rfl, hq, rs⟩ := lstOf_ok P1.sto rv hd
      refine ⟨.inl ⟨rfl, vs, hq⟩, ?_⟩
      refine ⟨μ1, ρ, s, S.post P1, w1.bind.mono fun e s2 μ2 H2 P2 w2 u ru => ?_⟩
      have rv2 := rv.post P2
      cases rv2 with
      | @ref l _ _ hl2 =>
        simp only [popR] at w2
        split at w2
        · rename_i es he
          cases ru with
          | int i =>
            simp only at w2
            obtain ⟨hr, w2⟩ := w2.grd
            have hr := of_decide_eq_true hr
            cases hp : place es.length i with
            | none => simp only [hp] at w2; exact w2.elim
            | some j =>
              simp only [hp] at w2
              obtain ⟨e1, e2⟩ := place_seq hp
              rw [List.getElem?_eq_getElem e2] at w2
              simp only at w2
              obtain ⟨ws, h1, r1⟩ := P2.sto.back he hl2 rfl
              obtain ⟨y, hy, ry⟩ := r1.get (List.getElem?_eq_getElem e2)
              refine ⟨p, ws, i, j, y, rfl, rfl, h1, ?_, ?_, by rw [← r1.length]; exact e1, hy, ?_⟩
              · have : (2 : Int) ^ 63 = 9223372036854775808 := by decide
                omega
              · have : (2 : Int) ^ 63 = 9223372036854775808 := by decide
                omega
              · have kt : ∀ a xs, H2 a = some (.tup xs) → upd H2 p (.lst (ws.eraseIdx j)) a = some (.tup xs) := fun a xs z => by rw [upd_ne (fun q => by subst q; rw [h1] at z; cases z)]; exact z
                have kf : ∀ a o w, H2 a = some (.frz o w) → upd H2 p (.lst (ws.eraseIdx j)) a = some (.frz o w) := fun a o w z => by rw [upd_ne (fun q => by subst q; rw [h1] at z; cases z)]; exact z
                have P := Post.write (u := .lst (ws.eraseIdx j)) (o' := .lst (es.eraseIdx j)) P2.sto he hl2 rfl h1 trivial ⟨_, upd_same, (r1.erase j).mono (List.prefix_refl _) kt kf⟩
                exact w2 _ _ P _ (ry.mono (List.prefix_refl _) kt kf)
          | _ => exact w2.elim
        · exact w2.elim
      | _ => simp only [popR] at w2; exact w2.elim
theorem pps_of {F : Nm} {T : Tab} {G : Ctx} {call : Nat → List D → Store → R D} {n : Nat} (he : ∀ {e : Expr} {E : Nz.E}, trE T n X.env.scope e = some E → PE X e (tE X.K F (ev G call E))) :
    ∀ {ks : List (Option Expr)} {vs : List Expr} {xs : List Str} {es : List Nz.E}, trKs ks = some xs → vs.mapM (trE T n X.env.scope) = some es → ks.length = vs.length →
      ∃ trs, PPs X pos ks vs trs ∧ ks.all (·.isSome) = true ∧ xs.length = ks.length ∧ es.length = vs.length ∧ ∀ σ H (Q : List (V × V) → Hp → Prop), (∃ μ ρ st, Sim X.K F μ ρ st σ H ∧ WP X.K F μ H (evs G call (Es.ofL es) ρ st) fun ds s μ' H' => ∀ ws, Rps X.K μ' H' ds ws → ds.length = es.length → Q ((xs.map fun k => V.str k).zip ws) H') → tPairs trs σ H Q
  | [], [], xs, es, h1, h2, _ => by
    simp only [trKs, Option.some.injEq] at h1
    simp only [List.mapM_nil, Option.pure_def, Option.some.injEq] at h2
    subst h1 h2
    refine ⟨[], pps_nil, rfl, rfl, rfl, fun σ H Q ⟨μ, ρ, st, S, w⟩ => ?_⟩
    rw [Es.ofL, evs] at w
    exact (WP.ok S.sto w) [] .nil rfl
  | [], _ :: _, _, _, _, _, h => by cases h
  | _ :: _, [], _, _, _, _, h => by cases h
  | k :: ks, v :: vs, xs, es, h1, h2, hl => by
    obtain ⟨s, kk, p, rfl, xs', q1, rfl⟩ : ∃ s kk p, k = some (.Constant (.str s) kk p) ∧ ∃ xs', trKs ks = some xs' ∧ xs = s :: xs' := by
      rw [trKs.eq_def] at h1
      split at h1
      · rename_i e; cases e
      · rename_i s kk p r e
        cases e
        cases q : trKs ks with
        | none => rw [q] at h1; cases h1
        | some xs' =>
          rw [q] at h1
          exact ⟨s, kk, p, rfl, xs', rfl, (Option.some.inj h1).symm⟩
      · cases h1
    rw [List.mapM_cons] at h2
    cases q2 : trE T n X.env.scope v with
    | none => rw [q2] at h2; simp at h2
    | some E1 =>
      cases q3 : vs.mapM (trE T n X.env.scope) with
      | none => rw [q2, q3] at h2; simp at h2
      | some es' =>
        rw [q2, q3] at h2
        simp only [Option.pure_def, Option.bind_eq_bind, Option.bind_some, Option.some.injEq] at h2
        subst h2
        obtain ⟨trs, g1, g2, g3, g4, g5⟩ := pps_of he q1 q3 (by simpa using hl)
        refine ⟨_, pps_cons pe_str (he q2) g1, by simpa using g2, by simp [g3], by simp [g4], fun σ H Q ⟨μ, ρ, st, S, w⟩ => ?_⟩
        refine (fun z => z : _ → tPairs (_ :: trs) σ H Q) ?_
        show (tC (.str s)) σ H fun x H1 => tE X.K F (ev G call E1) σ H1 fun y H2 => tPairs trs σ H2 fun ps H3 => Q ((x, y) :: ps) H3
        refine (show tE X.K F (ev G call E1) σ H fun y H2 => tPairs trs σ H2 fun ps H3 => Q ((.str s, y) :: ps) H3 from ?_)
        rw [Es.ofL, evs] at w
        refine ⟨μ, ρ, st, S, (WP.bind w).mono fun d s1 μ1 H1 P1 w1 y ry => g5 _ _ _ ⟨μ1, ρ, s1, S.post P1, (WP.bind w1).mono fun ds s2 μ2 H2 P2 w2 ws rs hlen => ?_⟩⟩
        have w3 := WP.ok P2.sto w2
        have := w3 (y :: ws) (.cons (ry.post P2) rs) (by simp [hlen])
        simpa using this
theorem dispK_ok {K : PySem.W.Frag} {μ : Mu} {H : Hp} : ∀ {ks : List Str} {ds : List D} {ws : List V} {kvs : List (D × D)} {kv : List (L2.Key × V)}, Rps K μ H ds ws → ks.length = ds.length → RpD keyD K μ H kvs kv →
    ∃ more : List (L2.Key × V), (ks.map fun k => V.str k).zip ws = more.map (fun p => (kV p.1, p.2)) ∧ more.length = ks.length ∧ RpD keyD K μ H (dispK ks ds kvs) (mergeK kv more)
  | [], [], _, kvs, kv, .nil, _, q => ⟨[], rfl, rfl, q⟩
  | [], _ :: _, _, _, _, _, h, _ => by cases h
  | _ :: _, [], _, _, _, _, h, _ => by cases h
  | k :: ks, d :: ds, _, kvs, kv, .cons (v := v) (vs := vs) r t, h, q => by
    obtain ⟨more, h1, h2, h3⟩ := dispK_ok (ks := ks) (kvs := dPut kvs (.str k) d) (kv := putK kv (.inr k) v) t (by simpa using h) (RpD.put (kd := keyD) (fun _ _ => keyD_inj) (.inr k) q r)
    refine ⟨(.inr k, v) :: more, ?_, by simp [h2], h3⟩
    simp only [List.map_cons, List.zip_cons_cons, h1]
    rfl
theorem dispE {T : Tab} {G : Ctx} {call : Nat → List D → Store → R D} {n : Nat} {ks : List (Option Expr)} {vs : List Expr} {xs : List Str} {es : List Nz.E} (he : ∀ {e : Expr} {E : Nz.E}, trE T n X.env.scope e = some E → PE X e (tE X.K F (ev G call E)))
    (h1 : trKs ks = some xs) (h2 : vs.mapM (trE T n X.env.scope) = some es) (hl : ks.length = vs.length) (h15 : ks.length ≤ 15) (h0 : ks.isEmpty = false) :
    PE X (.Dict ks vs pos) (tE X.K F (ev G call (.disp xs (Es.ofL es)))) := by
  obtain ⟨trs, g1, g2, g3, g4, g5⟩ := pps_of (pos := pos) he h1 h2 hl
  refine impE (pe_disp g1 g2 hl (by intro z; rw [z] at h0; cases h0) h15) fun σ H Q ⟨μ, ρ, st, S, w⟩ p hp => ?_
  have PD : Post X.K F μ H (st ++ [.dct false []]) (μ ++ [(p, false)]) (upd H p (.dK [])) := Post.push S.sto hp ⟨[], upd_same, .nil⟩
  have hl0 : (μ ++ [(p, false)])[st.length]? = some (p, false) := by rw [← S.sto.len]; simp
  have w : WP X.K F μ H ((evs G call (Es.ofL es) ρ (st ++ [.dct false []])).bind fun ds s => dispR xs st.length ds s) (VQ X.K Q) := by
    have := w
    rw [ev] at this
    exact this
  refine g5 _ _ _ ⟨_, ρ, _, S.post PD, (WP.bind (w.up PD)).mono fun ds s1 μ1 H1 P1 w1 ws rs hlen => ?_⟩
  have hl1 := pre_get P1.pre hl0
  unfold dispR at w1
  split at w1
  · rename_i hst
    obtain ⟨kv, e1, q1⟩ := P1.sto.back hst hl1 rfl
    cases q1
    obtain ⟨more, m1, m2, m3⟩ := dispK_ok (kvs := []) (kv := []) rs (by rw [g3, hl, hlen, g4]) .nil
    refine ⟨e1, more, m1, by omega, ?_⟩
    have kt : ∀ a xs, H1 a = some (.tup xs) → upd H1 p (.dK (mergeK [] more)) a = some (.tup xs) := fun a xs z => by rw [upd_ne (fun q => by subst q; rw [e1] at z; cases z)]; exact z
    have kf : ∀ a o w, H1 a = some (.frz o w) → upd H1 p (.dK (mergeK [] more)) a = some (.frz o w) := fun a o w z => by rw [upd_ne (fun q => by subst q; rw [e1] at z; cases z)]; exact z
    have P := Post.write (u := .dK (mergeK [] more)) (o' := .dct false (dispK xs ds [])) P1.sto hst hl1 rfl e1 trivial ⟨_, upd_same, m3.mono (List.prefix_refl _) kt kf⟩
    exact w1 _ _ P _ (.ref hl1)
  · exact w1.elim
end
end Nz
namespace Nz
open PySem L2 PyProof.Rows
theorem RpH.dctU {K : PySem.W.Frag} {F : Nm} {μ : Mu} {H : Hp} {a : Addr} {t : Bool} {kvs : List (D × D)} (r : RpH K F μ H a (.dct t kvs)) :
    ∃ u, H a = some u ∧ Mutl u ∧ Mut (some u) ∧ (∀ xs, u ≠ .tup xs) ∧ ∀ od, RpH K F μ (upd H a (.frz od u)) a (.dlk t kvs) := by
  have kt : ∀ {u : HO} {od : Obj}, H a = some u → (∀ xs, u ≠ .tup xs) → ∀ b xs, H b = some (.tup xs) → upd H a (.frz od u) b = some (.tup xs) := fun h n b xs e => by
    rw [upd_ne (fun z => by subst z; rw [h] at e; cases e; exact n _ rfl)]; exact e
  have kf : ∀ {u : HO} {od : Obj}, H a = some u → (∀ o w, u ≠ .frz o w) → ∀ b o w, H b = some (.frz o w) → upd H a (.frz od u) b = some (.frz o w) := fun h n b o w e => by
    rw [upd_ne (fun z => by subst z; rw [h] at e; cases e; exact n _ _ rfl)]; exact e
  cases t with
  | false =>
    obtain ⟨kv, h, q⟩ := r
    exact ⟨.dK kv, h, trivial, trivial, fun _ z => HO.noConfusion z, fun od => ⟨od, kv, upd_same, q.mono (List.prefix_refl _) (kt h fun _ z => HO.noConfusion z) (kf h fun _ _ z => HO.noConfusion z)⟩⟩
  | true =>
    obtain ⟨kv, h, q⟩ := r
    exact ⟨.dT kv, h, trivial, trivial, fun _ z => HO.noConfusion z, fun od => ⟨od, kv, upd_same, q.mono (List.prefix_refl _) (kt h fun _ z => HO.noConfusion z) (kf h fun _ _ z => HO.noConfusion z)⟩⟩
theorem RpH.dlkU {K : PySem.W.Frag} {F : Nm} {μ : Mu} {H : Hp} {a : Addr} {od : Obj} {u : HO} {t : Bool} {kvs : List (D × D)} (r : RpH K F μ H a (.dlk t kvs)) (h : H a = some (.frz od u)) (nt : ∀ xs, u ≠ .tup xs) : RpH K F μ (upd H a u) a (.dct t kvs) := by
  have kt : ∀ b xs, H b = some (.tup xs) → upd H a u b = some (.tup xs) := fun b xs e => by
    rw [upd_ne (fun z => by subst z; rw [h] at e; cases e)]; exact e
  have kf : ∀ b o xs, H b = some (.frz o (.tup xs)) → upd H a u b = some (.frz o (.tup xs)) := fun b o xs e => by
    rw [upd_ne (fun z => by subst z; rw [h] at e; injection e with e; injection e with _ e; exact nt _ e)]; exact e
  cases t with
  | false =>
    obtain ⟨od', kv, h', q⟩ := r
    rw [h] at h'; injection h' with h'; injection h' with _ h'; subst h'
    exact ⟨kv, upd_same, q.monoT (List.prefix_refl _) kt kf⟩
  | true =>
    obtain ⟨od', kv, h', q⟩ := r
    rw [h] at h'; injection h' with h'; injection h' with _ h'; subst h'
    exact ⟨kv, upd_same, q.monoT (List.prefix_refl _) kt kf⟩
/-- what is to be shown of a step under a lock -/
theorem lck_ok {α : Type} {K : PySem.W.Frag} {F : Nm} {μ : Mu} {H : Hp} {st : Store} {x : R D} {g : Store → R α} {Φ : α → Store → Mu → Hp → Prop} (S : Sto K F μ st H) (w : WP K F μ H (lckR x st g) Φ) :
    ∃ (l : Nat) (a : Addr) (u : HO) (t : Bool) (kvs : List (D × D)), H a = some u ∧ Mut (some u) ∧ ∀ od, Post K F μ H (st.set l (.dlk t kvs)) μ (upd H a (.frz od u)) ∧
      WP K F μ (upd H a (.frz od u)) (g (st.set l (.dlk t kvs))) fun r s μ' H' => H' a = some (.frz od u) ∧ ∃ s2, Post K F μ H s2 μ' (upd H' a u) ∧ (∀ d v, Rp K μ' H' d v → Rp K μ' (upd H' a u) d v) ∧ Φ r s2 μ' (upd H' a u) := by
  unfold lckR at w
  split at w
  · rename_i l s0
    split at w
    · rename_i t kvs hl
      obtain ⟨a, b, e1, _⟩ := S.addr hl
      have hb := S.flag hl e1 rfl
      subst hb
      obtain ⟨u, hu, mu, mu2, nt, hr⟩ := (S.at_ l _ a hl e1).dctU
      have am : (a, false) ∈ μ := List.mem_iff_getElem?.mpr ⟨l, e1⟩
      refine ⟨l, a, u, t, kvs, hu, mu2, fun od => ⟨Post.lock S hl e1 rfl hu mu (hr od), ?_⟩⟩
      cases hg : g (st.set l (.dlk t kvs)) with
      | no => rw [hg] at w; exact w.elim
      | ok r s =>
        rw [hg] at w
        intro μ' H' P
        have hz : H' a = some (.frz od u) := P.frm a _ upd_same (.inr fun z => z)
        simp only [R.bind_ok] at w
        split at w
        · rename_i t' kvs' hl'
          have e2 : μ'[l]? = some (a, false) := pre_get P.pre e1
          obtain ⟨Q1, Q2⟩ := Post.unlock am hu mu nt P hl' e2 ((P.sto.at_ l _ a hl' e2).dlkU hz nt)
          exact ⟨hz, _, Q1, Q2, w _ _ Q1⟩
        · exact w.elim
    · exact w.elim
  · exact w.elim
section
variable {X : Cx} {F : Nm} {tg : Expr}
theorem lckE {e : Expr} {f g : Env → Store → R D} (he : PE X e (tE X.K F g)) : PE X e (tE X.K F fun ρ st => lckR (f ρ st) st fun s => g ρ s) :=
  impE (pe_lock he) fun σ H Q w => by
    obtain ⟨μ, ρ, st, S, w⟩ := w
    obtain ⟨l, a, u, t, kvs, hu, mu, k⟩ := lck_ok S.sto w
    refine ⟨a, u, hu, mu, fun od => ?_⟩
    obtain ⟨P, w1⟩ := k od
    refine ⟨μ, ρ, _, S.post P, w1.mono fun d s μ1 H1 P1 w2 v rv => ?_⟩
    obtain ⟨hz, s2, P2, q, w3⟩ := w2
    exact ⟨hz, w3 v (q d v rv)⟩
theorem pr_get {α β : Type} {P : α → β → Prop} : ∀ {l : List α} {m : List β} {i : Nat} {a : α} {b : β}, Paired P l m → l[i]? = some a → m[i]? = some b → P a b
  | _, _, 0, _, _, .cons h _, e1, e2 => by simp at e1 e2; subst e1 e2; exact h
  | _, _, i + 1, _, _, .cons _ t, e1, e2 => pr_get t (by simpa using e1) (by simpa using e2)
theorem keyV_rp {K : PySem.W.Frag} {μ : Mu} {H : Hp} (k : L2.Key) : Rp K μ H (keyD k) (L2.kV k) := by
  cases k with
  | inl i => exact .int i
  | inr x => exact .str x
theorem wlk_itm {K : PySem.W.Frag} {F : Nm} {μ : Mu} {H : Hp} {st : Store} {l : Nat} {a : Addr} {od : Obj} {kv : List (L2.Key × V)} {kvs : List (D × D)} (hl : μ[l]? = some (a, false)) (ha : H a = some (.frz od (.dK kv))) : Wlk K F μ H ⟨kvs.map fun p => .tup [p.1, p.2], [(l, .dlk false kvs)]⟩ (Iti a od kv) := by
  intro s2 μ2 H2 P hw
  have e := watOk_mem hw (l := l) (o := .dlk false kvs) (by simp)
  have h2 : H2 a = some (.frz od (.dK kv)) := P.frm a _ ha (.inr fun z => z)
  obtain ⟨od', kv', h3, r⟩ := P.sto.at_ l _ a e (pre_get P.pre hl)
  rw [h2] at h3; injection h3 with h3; injection h3 with _ h3; injection h3 with h3; subst h3
  have hlen : kvs.length = kv.length := Paired.length r
  have W := walk_items (d := a) (o := od) (kvs := kv)
  rw [show (⟨kvs.map fun p => D.tup [p.1, p.2], [(l, O.dlk false kvs)]⟩ : Wk).its.length = kv.length from by simp [hlen]]
  refine ⟨fun i hi => W.goes i H2 hi h2, W.stops H2 h2, fun i x H3 hi y => ?_⟩
  obtain ⟨T, x1, x2, rfl, hT, rfl, e1, e2⟩ := W.yields i H2 x H3 hi h2 y
  have hi' : i < kvs.length := by omega
  have hg := pr_get r (List.getElem?_eq_getElem hi') (List.getElem?_eq_getElem hi)
  obtain ⟨k1, k2⟩ := hg
  have g1 : kv[i]? = some kv[i] := List.getElem?_eq_getElem hi
  simp only [g1, Option.map_some, Option.some.injEq] at e1 e2
  subst e1 e2
  have PT := Post.fresh (u := .tup [L2.kV kv[i].1, kv[i].2]) P.sto hT
  refine ⟨.tup [kvs[i].1, kvs[i].2], by simp [List.getElem?_eq_getElem hi'], PT, .tup upd_same (.cons (by rw [k1]; exact keyV_rp _) (.cons (k2.post PT) .nil))⟩
end
end Nz
namespace Nz
open PySem PySem.Spec L2 PyProof.Rows
/-- the pairs, each a new tuple of the key's own tuple and the value -/
def Itit (d : Addr) (o : Obj) (kvs : List (List L2.Key × V)) : It :=
  ⟨fun i H => H d = some (.frz o (.dT kvs)) ∧ i < kvs.length, fun i H x H' => ∃ T k v q, kvs[i]? = some (k, v) ∧ x = .ref T ∧ H T = none ∧ H q = some (.tup (k.map L2.kV)) ∧ H' = upd H T (.tup [.ref q, v]), fun i H => H d = some (.frz o (.dT kvs)) ∧ kvs.length ≤ i⟩
section
variable {P : Program} {w : World} {K : PySem.W.Frag} {d : Addr} {o : Obj} {es : Array DictEntry} {ep : Nat}
theorem frzT2 {X : Cx} {pins : List (Addr × Obj)} {σ : L2.St} {H : Hp} {s : Shared} {kvs : List (List L2.Key × V)} (I : Inv X pins σ H s) (h : H d = some (.frz o (.dT kvs))) :
    (d == sysModules) = false ∧ s.heap.DictRaw d (match o.data with | .dict es _ => es | _ => #[]) (match o.data with | .dict _ ep => ep | _ => 0) ∧ ∃ (es : Array DictEntry) (ep : Nat), o.data = .dict es ep ∧ es.size = kvs.length ∧
      ∀ (i : Nat) (k : List L2.Key) (v : V), kvs[i]? = some (k, v) → ∃ (en : DictEntry) (q : Addr), es[i]? = some en ∧ en.key = .ref q ∧ H q = some (.tup (k.map L2.kV)) ∧ RelV v en.val := by
  obtain ⟨hd, z, hs, xs, pr, o', es, ep, ho, hx, hdt, he, _⟩ := I.hok d _ h
  rw [hd] at ho
  cases ho
  refine ⟨hs, ⟨o, hd, hx, by rw [hdt]⟩, es, ep, hdt, ?_, fun i k v e => ?_⟩
  · have l1 : es.size = xs.length := size_of_entries he
    have l2 : kvs.length = xs.length := Paired.length pr
    omega
  · obtain ⟨b, hb, e1, e2, e3⟩ := paired_get pr e
    have q := entry_at he i
    rw [hb] at q
    exact ⟨_, b.2.1, q, rfl, e2, e3⟩
theorem turn_itemsT {kvs : List (List L2.Key × V)} {elts : List Expr} {kk : Nat} {tpos : Pos} (it : Addr) (hod : o.data = .dict es ep) :
    Turn P w K (.Tuple elts kk tpos) (Itit d o kvs) [it] it (fun i h => ∃ ok ov, IsItemIter h it d i kvs.length ep ok ov) where
  mem := by simp
  obj := fun i h st b hb => by
    have e : b = it := by simpa using hb
    subst e
    obtain ⟨ok, ov, e⟩ := st
    exact ⟨_, e, fun v z => nomatch z⟩
  keep := fun i h h' st k => let ⟨ok, ov, e⟩ := st; ⟨ok, ov, k it (by simp) _ e⟩
  item := by
    intro X hP hw hK hc i pins s σ H E I hf st hg
    subst hP hw hK
    obtain ⟨hd, hi⟩ := hg
    obtain ⟨hs, hm, es', ep', hdt, hsz, ent⟩ := frzT2 I hd
    obtain ⟨rfl, rfl⟩ := dict_ep hod hdt
    rw [hdt] at hm
    obtain ⟨⟨k, v⟩, hkv⟩ : ∃ p, kvs[i]? = some p := ⟨kvs[i], List.getElem?_eq_getElem hi⟩
    obtain ⟨en, q, hen, hkey, hq, ru⟩ := ent i k v hkv
    obtain ⟨ok, ov, he⟩ := st
    rw [← hsz] at he
    have hi2 : i < es'.size := by omega
    have een : es'[i] = en := by
      rw [Array.getElem?_eq_getElem hi2] at hen
      exact Option.some.inj hen
    have hlt : it < s.heap.objs.size := Heap.lt_size he
    refine wpAny_pyNext_items_item_raw he hm hi2 fun h' ho hT hz hk => ?_
    rw [een, hkey] at ho hT
    refine ⟨_, rfl, wpAny_letOwnedTupleGo_items (s := { s with heap := h' }) ho fun h'' he' sb => ?_⟩
    have hT2 : h''.get? s.heap.objs.size = some { cls := .type "tuple", data := .seq #[.ref q, en.val] } := (sb.2 _ (Nat.ne_of_gt hlt)).trans hT
    have new : ObjOk X.prog X.w (upd H s.heap.objs.size (.tup [.ref q, v])) h'' s.heap.objs.size (.tup [.ref q, v]) :=
      ⟨by show 2 ≤ sizeLine; decide, [.ref q, en.val], .cons rfl (.cons ru .nil), ⟨_, hT2, rfl, _, rfl⟩⟩
    have I1 : Inv X pins σ (upd H s.heap.objs.size (.tup [.ref q, v])) { s with heap := h'' } :=
      I.turnedNew (t' := s.toks) (ch := [it]) (fun b ob hb e => (sb.2 b (by simpa using hb)).trans (hk b ob (by simpa using hb) e)) hf (Nat.le_refl _) new
    refine ⟨.ref s.heap.objs.size, _, I1, rfl, ⟨_, k, v, q, hkv, rfl, I.hok.fresh (Nat.le_refl _), hq, rfl⟩, ⟨.ref q, en.val, ?_⟩, fun b hb => ?_⟩
    · rw [← hsz]; exact he'
    · have e : b = it := by simpa using hb
      rw [e, upd_ne (Nat.ne_of_lt hlt)]
      exact (hf it (by simp)).1
  done := by
    intro X hP hw hK hc i pins s σ H E I hf st hg
    subst hP hw hK
    obtain ⟨hd, hi⟩ := hg
    obtain ⟨f0, f1, f2, f3, f4, f5⟩ := hf it (by simp)
    obtain ⟨hs, hm, es', ep', hdt, hsz, ent⟩ := frzT2 I hd
    obtain ⟨rfl, rfl⟩ := dict_ep hod hdt
    rw [hdt] at hm
    obtain ⟨ok, ov, he⟩ := st
    rw [← hsz] at he
    exact wpAny_pyNext_items_end_raw (I.ok.hd hc) he hm (by omega) fun h' eb => ⟨rfl, I.turned (t' := s.toks) (fun b ob hb e => eb b ob hb e) f0 f1 f3 f4 f5⟩
  self := fun A i s Q E st h => let ⟨_, _, e⟩ := st; PySem.W.kcp_self e h
end
section
variable {X : Cx} {tg e : Expr} {td : TE} {apos cpos : Pos}
/-- e.items(), the keys of either kind -/
def iItems2 (td : TE) : TI := fun σ H R => td σ H fun x H1 => ∃ d o, x = .ref d ∧ ((∃ kvs, H1 d = some (.frz o (.dK kvs)) ∧ R (Iti d o kvs) H1) ∨ ∃ kvs, H1 d = some (.frz o (.dT kvs)) ∧ R (Itit d o kvs) H1)
theorem pi_items2 {elts : List Expr} {kk : Nat} {tpos : Pos} (he : PE X e td) (hbase : attributeBase e "items" X.env (eval e X.env) = eval e X.env := by rfl) (hline : (apos.endLine == cpos.line) = true := by rfl) :
    PI X (.Tuple elts kk tpos) (.Call (.Attribute e "items" apos) [] [] cpos) (iItems2 td) := by
  refine ⟨fun pins s σ H R I h => ?_⟩
  refine wpAny_Call_method (T := "dict") (id := "dict.items") hbase rfl hline F.plainAttrs_dict F.slot_dict_items F.type_dict_items (thn (he.run pins s σ H _ I h) fun u s1 ⟨x, H1, I1, rx, d, o, ex, q⟩ => ?_)
  subst ex
  obtain rfl : u = Value.ref d := rx
  have I2 : Inv X pins σ H1 { s1 with heap := s1.heap.push { cls := .type "dict_items", data := .fields #[.ref d] } } := I1.kept (t' := s1.toks) fun b ob q => Heap.get?_push_of_some _ q
  rcases q with ⟨kvs, hd, q⟩ | ⟨kvs, hd, q⟩
  · obtain ⟨hs, hgd, hx, es, ep, vs, hdt, hsz, kv, hm⟩ := I1.frzK hd
    have hl : kvs.length = vs.length := Paired.length kv
    refine ⟨hm.dictOf.typeIs, hm.dictOf.mapOf.noDict, ?_⟩
    have fin : wpAny (model X.prog X.w) X.A (pyIter (.ref s1.heap.objs.size)) (PIE X pins σ (.Tuple elts kk tpos) R) X.xe { s1 with heap := s1.heap.push { cls := .type "dict_items", data := .fields #[.ref d] } } := by
      refine wpAny_pyIter_items (d := d) (knd := mixKind X.prog X.w) ⟨_, Heap.get?_push_size _ rfl, rfl, rfl⟩ (hm.push _) (pi_one (tk := s1.toks) I2 _ (turn_items _ hdt) ⟨.none, .none, ?_⟩ q)
      rw [hl]
      exact Heap.get?_push_size _ rfl
    show wpAny _ _ (callWith cpos (.builtin "dict.items") [.ref d] [] []) _ X.xe s1
    exact method_meetsIn F.slot_dict_items F.entry_dict_items rfl (PySem.evalArgs_none ⟨rfl, hm.dictOf.typeIs, F.args_dict_items_1 _, _, meets_dict_items (mixKind X.prog X.w) d hs, ⟨vs, hm.dictOf⟩, fin⟩)
  · obtain ⟨hs, hm, es, ep, hdt, hsz, ent⟩ := frzT2 I1 hd
    rw [hdt] at hm
    obtain ⟨o1, h1, h2, h3⟩ := id hm
    have ht : s1.TypeIs (.ref d) "dict" := ⟨o1, h1, h2.1⟩
    refine ⟨ht, fun a ea => by cases ea; exact ⟨o1, h1, h2.2.1⟩, ?_⟩
    have hm2 : (s1.heap.push ({ cls := .type "dict_items", data := .fields #[.ref d] } : Obj)).DictRaw d es ep := ⟨o1, Heap.get?_push_of_some _ h1, h2, h3⟩
    have fin : wpAny (model X.prog X.w) X.A (pyIter (.ref s1.heap.objs.size)) (PIE X pins σ (.Tuple elts kk tpos) R) X.xe { s1 with heap := s1.heap.push { cls := .type "dict_items", data := .fields #[.ref d] } } := by
      refine wpAny_pyIter_items_raw (d := d) ⟨_, Heap.get?_push_size _ rfl, rfl, rfl⟩ hm2 (pi_one (tk := s1.toks) I2 _ (turn_itemsT _ hdt) ⟨.none, .none, ?_⟩ q)
      rw [hsz]
      exact Heap.get?_push_size _ rfl
    show wpAny _ _ (callWith cpos (.builtin "dict.items") [.ref d] [] []) _ X.xe s1
    exact method_meetsIn F.slot_dict_items F.entry_dict_items rfl (PySem.evalArgs_none ⟨rfl, ht, F.args_dict_items_1 _, _, meets_dict_items_raw d hs, ⟨es, ep, hm⟩, fin⟩)
end
section
variable {X : Cx} {F : Nm} {tg : Expr}
theorem keysV_rps {K : PySem.W.Frag} {μ : Mu} {H : Hp} : ∀ ks : List L2.Key, Rps K μ H (ks.map keyD) (ks.map L2.kV)
  | [] => .nil
  | k :: ks => .cons (keyV_rp k) (keysV_rps ks)
theorem wlk_itmT {K : PySem.W.Frag} {F : Nm} {μ : Mu} {H : Hp} {l : Nat} {a : Addr} {od : Obj} {kv : List (List L2.Key × V)} {kvs : List (D × D)} (hl : μ[l]? = some (a, false)) (ha : H a = some (.frz od (.dT kv))) : Wlk K F μ H ⟨kvs.map fun p => .tup [p.1, p.2], [(l, .dlk true kvs)]⟩ (Itit a od kv) := by
  intro s2 μ2 H2 P hw
  have e := watOk_mem hw (l := l) (o := .dlk true kvs) (by simp)
  have h2 : H2 a = some (.frz od (.dT kv)) := P.frm a _ ha (.inr fun z => z)
  obtain ⟨od', kv', h3, r⟩ := P.sto.at_ l _ a e (pre_get P.pre hl)
  rw [h2] at h3; injection h3 with h3; injection h3 with _ h3; injection h3 with h3; subst h3
  have hlen : kvs.length = kv.length := Paired.length r
  rw [show (⟨kvs.map fun p => D.tup [p.1, p.2], [(l, O.dlk true kvs)]⟩ : Wk).its.length = kv.length from by simp [hlen]]
  refine ⟨fun i hi => ⟨h2, hi⟩, ⟨h2, Nat.le_refl _⟩, fun i x H3 hi y => ?_⟩
  obtain ⟨T, k, v, q, hkv, rfl, hT, hq, rfl⟩ := y
  have hi' : i < kvs.length := by omega
  obtain ⟨k1, k2⟩ := pr_get r (List.getElem?_eq_getElem hi') hkv
  have PT := Post.fresh (u := .tup [.ref q, v]) P.sto hT
  refine ⟨.tup [kvs[i].1, kvs[i].2], by simp [List.getElem?_eq_getElem hi'], PT, .tup upd_same (.cons ?_ (.cons (k2.post PT) .nil))⟩
  rw [k1]
  exact .tup (by rw [upd_ne (fun z => by rw [z, hT] at hq; cases hq)]; exact hq) (keysV_rps k)
theorem pi_itmN {e : Expr} {f : Env → Store → R D} {apos cpos tpos : Pos} {elts : List Expr} {kk : Nat} (he : PE X e (tE X.K F f)) (hbase : attributeBase e "items" X.env (eval e X.env) = eval e X.env) (hline : (apos.endLine == cpos.line) = true) :
    PI X (.Tuple elts kk tpos) (.Call (.Attribute e "items" apos) [] [] cpos) (tIt X.K F fun ρ st => (f ρ st).bind fun x s => wkItm x s) :=
  impI (pi_items2 he hbase hline) fun σ H R h => by
    obtain ⟨μ, ρ, st, S, w⟩ := h
    refine ⟨μ, ρ, st, S, w.bind.mono fun d s μ1 H1 P1 w1 v rv => ?_⟩
    cases rv with
    | @ref l a b hl =>
      simp only [wkItm] at w1
      split at w1
      · rename_i t kvs hs
        have hb := P1.sto.flag hs hl rfl
        subst hb
        cases t with
        | false =>
          obtain ⟨od, kv, h, r⟩ := P1.sto.at_ l _ a hs hl
          exact ⟨a, od, rfl, .inl ⟨kv, h, WP.ok P1.sto w1 _ (wlk_itm (st := s) hl h)⟩⟩
        | true =>
          obtain ⟨od, kv, h, r⟩ := P1.sto.at_ l _ a hs hl
          exact ⟨a, od, rfl, .inr ⟨kv, h, WP.ok P1.sto w1 _ (wlk_itmT hl h)⟩⟩
      · exact w1.elim
    | _ => exact w1.elim
theorem wlk_key {K : PySem.W.Frag} {F : Nm} {μ : Mu} {H : Hp} {l : Nat} {a : Addr} {od : Obj} {kv : List (L2.Key × V)} {kvs : List (D × D)} (hl : μ[l]? = some (a, false)) (ha : H a = some (.frz od (.dK kv))) : Wlk K F μ H ⟨kvs.map fun p => p.1, [(l, .dlk false kvs)]⟩ (Itk a od kv) := by
  intro s2 μ2 H2 P hw
  have e := watOk_mem hw (l := l) (o := .dlk false kvs) (by simp)
  have h2 : H2 a = some (.frz od (.dK kv)) := P.frm a _ ha (.inr fun z => z)
  obtain ⟨od', kv', h3, r⟩ := P.sto.at_ l _ a e (pre_get P.pre hl)
  rw [h2] at h3; injection h3 with h3; injection h3 with _ h3; injection h3 with h3; subst h3
  have hlen : kvs.length = kv.length := Paired.length r
  rw [show (⟨kvs.map fun p => p.1, [(l, O.dlk false kvs)]⟩ : Wk).its.length = kv.length from by simp [hlen]]
  refine ⟨fun i hi => ⟨h2, hi⟩, ⟨h2, Nat.le_refl _⟩, fun i x H3 hi y => ?_⟩
  obtain ⟨rfl, k, v, hkv, rfl⟩ := y
  have hi' : i < kvs.length := by omega
  obtain ⟨k1, k2⟩ := pr_get r (List.getElem?_eq_getElem hi') hkv
  exact ⟨kvs[i].1, by simp [List.getElem?_eq_getElem hi'], .refl P.sto, by rw [k1]; exact keyV_rp k⟩
theorem wlk_keyT {K : PySem.W.Frag} {F : Nm} {μ : Mu} {H : Hp} {l : Nat} {a : Addr} {od : Obj} {kv : List (List L2.Key × V)} {kvs : List (D × D)} (hl : μ[l]? = some (a, false)) (ha : H a = some (.frz od (.dT kv))) : Wlk K F μ H ⟨kvs.map fun p => p.1, [(l, .dlk true kvs)]⟩ (Itkt a od kv) := by
  intro s2 μ2 H2 P hw
  have e := watOk_mem hw (l := l) (o := .dlk true kvs) (by simp)
  have h2 : H2 a = some (.frz od (.dT kv)) := P.frm a _ ha (.inr fun z => z)
  obtain ⟨od', kv', h3, r⟩ := P.sto.at_ l _ a e (pre_get P.pre hl)
  rw [h2] at h3; injection h3 with h3; injection h3 with _ h3; injection h3 with h3; subst h3
  have hlen : kvs.length = kv.length := Paired.length r
  rw [show (⟨kvs.map fun p => p.1, [(l, O.dlk true kvs)]⟩ : Wk).its.length = kv.length from by simp [hlen]]
  refine ⟨fun i hi => ⟨h2, hi⟩, ⟨h2, Nat.le_refl _⟩, fun i x H3 hi y => ?_⟩
  obtain ⟨rfl, k, v, q, hkv, rfl, hq⟩ := y
  have hi' : i < kvs.length := by omega
  obtain ⟨k1, k2⟩ := pr_get r (List.getElem?_eq_getElem hi') hkv
  exact ⟨kvs[i].1, by simp [List.getElem?_eq_getElem hi'], .refl P.sto, by rw [k1]; exact .tup hq (keysV_rps k)⟩
theorem pi_keyN {e : Expr} {f : Env → Store → R D} (he : PE X e (tE X.K F f)) : PI X tg e (tIt X.K F fun ρ st => (f ρ st).bind fun x s => wkKey x s) :=
  impI (pi_keys he) fun σ H R h => by
    obtain ⟨μ, ρ, st, S, w⟩ := h
    refine ⟨μ, ρ, st, S, w.bind.mono fun d s μ1 H1 P1 w1 v rv => ?_⟩
    cases rv with
    | @ref l a b hl =>
      simp only [wkKey] at w1
      split at w1
      · rename_i t kvs hs
        have hb := P1.sto.flag hs hl rfl
        subst hb
        cases t with
        | false =>
          obtain ⟨od, kv, h, r⟩ := P1.sto.at_ l _ a hs hl
          exact ⟨a, od, rfl, .inl ⟨kv, h, WP.ok P1.sto w1 _ (wlk_key hl h)⟩⟩
        | true =>
          obtain ⟨od, kv, h, r⟩ := P1.sto.at_ l _ a hs hl
          exact ⟨a, od, rfl, .inr ⟨kv, h, WP.ok P1.sto w1 _ (wlk_keyT hl h)⟩⟩
      · exact w1.elim
    | _ => exact w1.elim
end
end Nz
namespace Nz
open PySem L2 PyProof.Rows
/-- xs.extend(a tuple) -/
theorem ext_meets (l b : Addr) (u v : Array Value) (n m : Nat) (od : Option Addr) (sl : Array (Option Value)) (h0 : ¬(!u.isEmpty && Builtin.List.listTooLong (u.size + v.size)) = true) (h1 : u.size ≤ sizeLine) (h2 : u.size + v.size ≤ sizeLine + 1) :
    Meets (Builtin.«list.extend» ⟨[.ref l, .ref b], []⟩) (fun _ R s => s.heap.get? l = some { cls := .type "list", dict := none, data := .seq u n, slots := #[] } ∧ s.heap.get? b = some { cls := .type "tuple", dict := od, data := .seq v m, slots := sl } ∧
      R (.ok (.ret Value.none)) { s with heap := s.heap.update l (Obj.mapSeq fun x => x ++ v), toks := s.toks }) :=
  .of_wp fun prog w A R s h => by
    obtain ⟨hp, g, d, tk, os⟩ := s
    obtain ⟨hl, hb, h⟩ := h
    have f1 := AutoSeq1.idx_int; have f2 := AutoSeq1.sub_tuple_tuple; have f3 := AutoSeq1.sub_list_list
    have f4 := AutoSeq1.sub_tuple_list; have f5 := AutoSeq1.sub_list_tuple
    have h3 : (u ++ v).size ≤ sizeLine + 1 := by rw [Array.size_append]; exact h2
    wp_walk using (wpAny_updateSeq hl rfl (hz := h1) (_hz' := h3)), wpAny_loadPart' hl, wpAny_loadPart' hb
    exact ⟨_, rfl, h⟩
def rExtA (K : PySem.W.Frag) : V → List V → Hp → VK → Prop := fun x vs H Q => ∃ l b xs zs, x = .ref l ∧ vs = [.ref b] ∧ H l = some (.lst xs) ∧ (SqT K H b zs ∨ H b = some (.lst zs)) ∧ xs.length + zs.length ≤ sizeLine ∧ Q .non (upd H l (.lst (xs ++ zs)))
theorem mt_extA {X : Cx} : MtR X "list.extend" (rExtA X.K) := by
  intro pins s σ H x vs v us Q I rx rv h
  obtain ⟨l, b, xs, zs, rfl, rfl, hH, hB, hz, q⟩ := h
  rcases hB with hB | hB
  · cases rx
    obtain ⟨u, rfl, ru⟩ := rv.one
    cases ru
    obtain ⟨z, its, n, r, hl, e⟩ := I.lstM hH
    obtain ⟨its2, r2, ⟨o2, e2, c2, n2, d2⟩, hz2⟩ := I.tuple hB
    obtain ⟨oc, od, dt, sl⟩ := o2
    simp only at c2 d2
    subst c2 d2
    have hl2 := r2.length
    have hsz : its.toArray.size + its2.toArray.size ≤ sizeLine := by rw [List.size_toArray, List.size_toArray]; omega
    have hlong : ¬ (!its.toArray.isEmpty && Builtin.List.listTooLong (its.toArray.size + its2.toArray.size)) = true := by
      rw [notLongL hsz, Bool.and_false]
      exact Bool.false_ne_true
    refine call_meets PySem.F.slot_list_extend ⟨_, e, rfl⟩ PySem.F.entry_list_extend (PySem.F.args_list_extend_2 _ _)
      (ext_meets l b its.toArray its2.toArray n n2 od sl hlong (by rw [List.size_toArray]; omega) (by omega)) ⟨e, e2, ?_⟩
    refine ⟨.non, _, I.lset (its' := its ++ its2) hH e (by simp) (r.append r2) ?_, rfl, q⟩
    rw [List.length_append]
    omega
  · exact mt_extend pins s σ H _ _ v us Q I rx rv ⟨l, b, xs, zs, rfl, rfl, hH, hB, hz, q⟩
theorem extOf_ok {K : PySem.W.Frag} {F : Nm} {μ : Mu} {H : Hp} {st : Store} {y : D} {u : V} {ys : List D} (S : Sto K F μ st H) (r : Rp K μ H y u) (h : extOf y st = some ys) : ∃ (c : Addr) (zs : List V), u = V.ref c ∧ (SqT K H c zs ∨ H c = some (.lst zs)) ∧ Rps K μ H ys zs := by
  cases r with
  | @tup _ c zs g1 g2 =>
    cases h
    exact ⟨c, zs, rfl, .inl (.of g1), g2⟩
  | @ref m c b2 g1 =>
    simp only [extOf] at h
    split at h
    · rename_i zs' hz'
      cases h
      obtain ⟨zs, k1, k2⟩ := S.back hz' g1 rfl
      exact ⟨c, zs, rfl, .inr k1, k2⟩
    · cases h
  | _ => cases h
/-- what a method asks, by values -/
def rLm (K : PySem.W.Frag) : Lm → V → List V → Hp → VK → Prop
  | .ext => rExtA K
  | .ins => fun x vs H Q => ∃ (l : Addr) (xs : List V) (i : Int) (y : V), x = .ref l ∧ vs = [.int i, y] ∧ H l = some (.lst xs) ∧ xs.length < sizeLine ∧ 0 ≤ i ∧ i < 2 ^ 63 ∧ Q .non (upd H l (.lst (xs.take i.toNat ++ [y] ++ xs.drop i.toNat)))
  | .idx => rIndex K
  | .rem => rRemI
theorem lm_ok {K : PySem.W.Frag} {F : Nm} {μ : Mu} {H : Hp} {st : Store} {m : Lm} {x : D} {ds : List D} {v : V} {vs : List V} {Q : VK} (S : Sto K F μ st H) (rx : Rp K μ H x v) (rs : Rps K μ H ds vs) (w : WP K F μ H (lmR m x ds st) (VQ K Q)) : rLm K m v vs H Q := by
  cases rx with
  | @ref l a b hl =>
    unfold lmR at w
    simp only at w
    split at w
    · rename_i y xs hx
      obtain ⟨vs1, h1, r1⟩ := S.back hx hl rfl
      cases rs with
      | cons ry t =>
        cases t
        split at w
        · rename_i ys hy
          obtain ⟨hg, w⟩ := w.grd
          have hg : xs.length + ys.length ≤ 16777216 := of_decide_eq_true hg
          obtain ⟨c, zs, e, hz, rz⟩ := extOf_ok S ry hy
          subst e
          have kt : ∀ b xs, H b = some (.tup xs) → upd H a (.lst (vs1 ++ zs)) b = some (.tup xs) := fun b xs e => by
            rw [upd_ne (fun z => by subst z; rw [h1] at e; cases e)]; exact e
          have kf : ∀ b o w, H b = some (.frz o w) → upd H a (.lst (vs1 ++ zs)) b = some (.frz o w) := fun b o w e => by
            rw [upd_ne (fun z => by subst z; rw [h1] at e; cases e)]; exact e
          have P := Post.write (u := .lst (vs1 ++ zs)) (o' := .lst (xs ++ ys)) S hx hl rfl h1 trivial ⟨_, upd_same, (r1.append rz).mono (List.prefix_refl _) kt kf⟩
          exact ⟨a, c, vs1, zs, rfl, rfl, h1, hz, by rw [← r1.length, ← rz.length, sizeLine_eq]; exact hg, w _ _ P _ .non⟩
        · exact w.elim
    · rename_i i d xs hx
      obtain ⟨vs1, h1, r1⟩ := S.back hx hl rfl
      cases rs with
      | cons ri t =>
        cases t with
        | cons rd t2 =>
          cases t2
          cases ri
          obtain ⟨hg, w⟩ := w.grd
          simp only [Bool.and_eq_true, decide_eq_true_eq] at hg
          obtain ⟨⟨g1, g2⟩, g3⟩ := hg
          rename_i u
          have kt : ∀ b xs, H b = some (.tup xs) → upd H a (.lst (vs1.take i.toNat ++ [u] ++ vs1.drop i.toNat)) b = some (.tup xs) := fun b xs e => by
            rw [upd_ne (fun z => by subst z; rw [h1] at e; cases e)]; exact e
          have kf : ∀ b o w, H b = some (.frz o w) → upd H a (.lst (vs1.take i.toNat ++ [u] ++ vs1.drop i.toNat)) b = some (.frz o w) := fun b o w e => by
            rw [upd_ne (fun z => by subst z; rw [h1] at e; cases e)]; exact e
          have P := Post.write (u := .lst (vs1.take i.toNat ++ [u] ++ vs1.drop i.toNat)) (o' := .lst (xs.take i.toNat ++ [d] ++ xs.drop i.toNat)) S hx hl rfl h1 trivial ⟨_, upd_same, (((r1.take _).append (.cons rd .nil)).append (r1.drop _)).mono (List.prefix_refl _) kt kf⟩
          have g3 : xs.length < 16777216 := g3
          exact ⟨a, vs1, i, u, rfl, rfl, h1, by rw [← r1.length, sizeLine_eq]; exact g3, g1, by omega, w _ _ P _ .non⟩
    · rename_i y xs hx
      obtain ⟨vs1, h1, r1⟩ := S.back hx hl rfl
      cases rs with
      | cons ry t =>
        cases t
        obtain ⟨hg, w⟩ := w.grd
        simp only [Bool.and_eq_true] at hg
        obtain ⟨g1, g2⟩ := hg
        split at w
        · rename_i j hj
          rw [List.findIdx?_eq_some_iff_getElem] at hj
          obtain ⟨j1, j2, j3⟩ := hj
          obtain ⟨z, z1, z2⟩ := r1.get (List.getElem?_eq_getElem j1)
          have fl : ∀ {ds : List D} {vs : List V}, Rps K μ H ds vs → ds.all D.flat = true → vs.all flatV = true := by
            intro ds
            induction ds with
            | nil => intro vs r _; cases r; rfl
            | cons d ds ih =>
              intro vs r h
              cases r with
              | cons q t =>
                rw [List.all_cons, Bool.and_eq_true] at h
                rw [List.all_cons, ih t h.2, Bool.and_true]
                exact flat_ok q h.1
          refine ⟨a, vs1, _, j, z, rfl, rfl, .of h1, flat_ok ry g1, fl r1 g2, z1, by rw [eqF_ok z2 ry (List.all_eq_true.mp g2 _ (List.getElem_mem j1)) g1]; exact j2, fun m z' hm hz' => ?_, WP.ok S w _ (.int _)⟩
          have hm' : m < xs.length := by omega
          obtain ⟨z3, z4, z5⟩ := r1.get (List.getElem?_eq_getElem hm')
          rw [hz'] at z4; cases z4
          rw [eqF_ok z5 ry (List.all_eq_true.mp g2 _ (List.getElem_mem hm')) g1]
          have := j3 m hm
          simpa using this
        · exact w.elim
    · rename_i k xs hx
      obtain ⟨vs1, h1, r1⟩ := S.back hx hl rfl
      cases rs with
      | cons ry t =>
        cases t
        cases ry
        split at w
        · rename_i is hi
          obtain ⟨hg, w⟩ := w.grd
          have := intsOf_ok r1 hi
          subst this
          have hk : k ∈ is := by simpa using hg
          have hj : is.idxOf k < is.length := List.idxOf_lt_length_of_mem hk
          have kt : ∀ b xs, H b = some (.tup xs) → upd H a (.lst ((is.erase k).map V.int)) b = some (.tup xs) := fun b xs e => by
            rw [upd_ne (fun z => by subst z; rw [h1] at e; cases e)]; exact e
          have kf : ∀ b o w, H b = some (.frz o w) → upd H a (.lst ((is.erase k).map V.int)) b = some (.frz o w) := fun b o w e => by
            rw [upd_ne (fun z => by subst z; rw [h1] at e; cases e)]; exact e
          have rr : ∀ l : List Int, Rps K μ H (l.map .int) (l.map V.int) := by
            intro l
            induction l with
            | nil => exact .nil
            | cons i l ih => exact .cons (.int _) ih
          have P := Post.write (u := .lst ((is.erase k).map V.int)) (o' := .lst ((is.erase k).map .int)) S hx hl rfl h1 trivial ⟨_, upd_same, (rr _).mono (List.prefix_refl _) kt kf⟩
          refine ⟨a, is, k, is.idxOf k, rfl, rfl, h1, by rw [List.getElem?_eq_getElem hj, List.getElem_idxOf], fun m hm e => ?_, ?_⟩
          · have := List.not_of_lt_findIdx (p := (· == k)) (xs := is) (i := m) hm
            have hm2 : m < is.length := by omega
            rw [List.getElem?_eq_getElem hm2] at e
            simp only [Option.some.injEq] at e
            rw [e] at this
            simp at this
          · rw [← List.erase_eq_eraseIdx_of_idxOf (i := is.idxOf k) rfl]
            exact w _ _ P _ .non
        · exact w.elim
    · exact w.elim
  | _ => exact w.elim
def lmNm : Lm → Str
  | .ext => "extend" | .ins => "insert" | .idx => "index" | .rem => "remove"
theorem lmOf_name {m : Str} {k : Lm} (h : lmOf m = some k) : m = lmNm k := by
  unfold lmOf at h
  split at h
  · cases h; assumption
  · split at h
    · cases h; assumption
    · split at h
      · cases h; assumption
      · split at h
        · cases h; assumption
        · cases h
section
variable {X : Cx} {F : Nm} {a b : Expr} {r : List Expr} {f : Env → Store → R D} {g : Env → Store → R (List D)} {pos : Pos}
theorem lmE {m : Str} {k : Lm} {apos : Pos} (hm : lmOf m = some k) (ha : PE X a (tE X.K F f)) (hb : PA X (b :: r) (tAs X.K F g)) (hbase : attributeBase a m X.env (eval a X.env) = eval a X.env) (hline : (apos.endLine == pos.line) = true)
    (hs : starEach (b :: r) X.env = (false, eval b X.env) :: starEach r X.env) (hn : ∀ e ∈ b :: r, isStar e = false) (hl : (b :: r).length < 20) :
    PE X (.Call (.Attribute a m apos) (b :: r) [] pos) (tE X.K F fun ρ st => (f ρ st).bind fun x s => R.grd (lstOf x s).isSome ((g ρ s).bind fun ds s => lmR k x ds s)) := by
  have hall : (backTo pos (starEach (b :: r) X.env)).all (fun x => !x.1) = true := by
    have q := noStar.any (env := X.env) (pos := pos) (es := b :: r) hn
    rw [List.all_eq_true]
    intro x hx
    cases e : x.1 with
    | false => rfl
    | true =>
      rw [List.any_eq_false] at q
      exact absurd e (q x hx)
  have hplain : (backTo pos (starEach r X.env)).any (·.1) = false := noStar.any fun e he => hn e (List.mem_cons_of_mem _ he)
  have hfew : ((backTo pos (starEach (b :: r) X.env)).all (fun x => !x.1) && (backToKw pos (keywordEach [] X.env)).all (fun x => x.1.isSome)
      && decide ((b :: r).length + ([] : List Keyword).length + (if ([] : List Keyword).isEmpty then 0 else 1) < 30)) = true := by
    rw [hall]
    have : decide ((b :: r).length + ([] : List Keyword).length + (if ([] : List Keyword).isEmpty then 0 else 1) < 30) = true := by
      apply decide_eq_true
      simp only [List.length_cons, List.length_nil, List.isEmpty_nil, if_true] at hl ⊢
      omega
    rw [this]
    have e0 : keywordEach [] X.env = [] := by unfold keywordEach; rfl
    rw [e0]; rfl
  have key : PE X (.Call (.Attribute a m apos) (b :: r) [] pos) (tBM X.K "list" (rLm X.K k) (tE X.K F f) (tAs X.K F g)) := by
    have hx := lmOf_name hm
    cases k with
    | ext =>
      obtain rfl : m = "extend" := hx
      exact pe_bm PySem.F.plainAttrs_list PySem.F.slot_list_extend PySem.F.type_list_extend mt_extA ha hb hbase hfew hline hs hplain
    | ins =>
      obtain rfl : m = "insert" := hx
      exact pe_bm PySem.F.plainAttrs_list PySem.F.slot_list_insert PySem.F.type_list_insert mt_insert ha hb hbase hfew hline hs hplain
    | idx =>
      obtain rfl : m = "index" := hx
      exact pe_bm PySem.F.plainAttrs_list PySem.F.slot_list_index PySem.F.type_list_index mt_index ha hb hbase hfew hline hs hplain
    | rem =>
      obtain rfl : m = "remove" := hx
      exact pe_bm PySem.F.plainAttrs_list PySem.F.slot_list_remove PySem.F.type_list_remove mt_remove ha hb hbase hfew hline hs hplain
  refine impE key fun σ H Q w => ?_
  obtain ⟨μ, ρ, st, S, w⟩ := w
  refine ⟨μ, ρ, st, S, w.bind.mono fun d s μ1 H1 P1 w1 v rv => ?_⟩
  obtain ⟨hl, w1⟩ := w1.grd
  cases hd : lstOf d s with
  | none => rw [hd] at hl; cases hl
  | some ds =>
    obtain ⟨p, vs, rfl, hq, rs⟩ := lstOf_ok P1.sto rv hd
    refine ⟨.inl ⟨rfl, vs, hq⟩, ?_⟩
    refine ⟨μ1, ρ, s, S.post P1, w1.bind.mono fun e s2 μ2 H2 P2 w2 us ru => ?_⟩
    exact lm_ok P2.sto (rv.post P2) ru w2
end
end Nz
namespace Nz
open PySem L2 PyProof.Rows
section
variable {X : Cx} {F : Nm} {T : Tab} {G : Ctx} {call : Nat → List D → Store → R D}
theorem rgRps {K : PySem.W.Frag} {μ : Mu} {H : Hp} {i : Int} : ∀ n : Nat, Rps K μ H (rangeL i n) ((List.range n).map fun k => V.int (i + (k : Nat)))
  | 0 => .nil
  | n + 1 => by
    unfold rangeL
    rw [List.range_succ, List.map_append, List.map_append]
    exact (rgRps n).append (.cons (.int _) .nil)
theorem lrng_ok {K : PySem.W.Frag} {μ : Mu} {H : Hp} {st : Store} {x y : D} {v u : V} {Q : VK} (S : Sto K F μ st H) (r1 : Rp K μ H x v) (r2 : Rp K μ H y u) (w : WP K F μ H ((wkRng x y st).bind fun w s => newL w.its s) (VQ K Q)) :
    ∃ i j, v = .int i ∧ u = .int j ∧ RgOk i j ∧ ∀ q, H q = none → Q (.ref q) (upd H q (.lst (rgV i j))) := by
  obtain ⟨i, j, rfl, rfl, hb, q⟩ := wkRng_ok S r1 r2 w.bind
  have hz : (rangeL i (j - i).toNat).length ≤ 16777216 := of_decide_eq_true q.grd.1
  have r : Rps K μ H (rangeL i (j - i).toNat) (rgV i j) := rgRps _
  refine ⟨i, j, rfl, rfl, ⟨hb.1, hb.2.1, hb.2.2.1, hb.2.2.2, ?_⟩, (newL_ok S r q).2⟩
  simp only [rangeL, List.length_map, List.length_range] at hz
  have e : (2 : Nat) ^ 24 = 16777216 := by decide
  rw [e]; exact hz
theorem lrng1E (o : Ok X F T G call) {a : Expr} {f : Env → Store → R D} {p q pos pos2 : Pos} (ha : PE X a (tE X.K F f)) (hg : Gl X "list") (hm : X.mg "list" = none) (hg2 : Gl X "range") (hm2 : X.mg "range" = none) (sa : isStar a = false) :
    PE X (.Call (.Name "list" p) [.Call (.Name "range" q) [a] [] pos2] [] pos) (tE X.K F fun ρ st => ((f ρ st).bind fun x s => wkRng (.int 0) x s).bind fun w s => newL w.its s) :=
  impE (pe_listRg o.calm hg hm (prg_1 hg2 hm2 ha (star_one sa))) fun σ H Q w => by
    obtain ⟨μ, ρ, st, S, w⟩ := w
    simp only [R.bind_assoc] at w
    refine ⟨μ, ρ, st, S, w.bind.mono fun d s μ1 H1 P1 w1 v rv => ?_⟩
    obtain ⟨i, j, e, rfl, h1, h2⟩ := lrng_ok P1.sto (.int 0) rv w1
    cases e
    exact ⟨j, rfl, h1, h2⟩
theorem lrng2E (o : Ok X F T G call) {a b : Expr} {f g : Env → Store → R D} {p q pos pos2 : Pos} (ha : PE X a (tE X.K F f)) (hb : PE X b (tE X.K F g)) (hg : Gl X "list") (hm : X.mg "list" = none) (hg2 : Gl X "range") (hm2 : X.mg "range" = none) (sa : isStar a = false) (sb : isStar b = false) :
    PE X (.Call (.Name "list" p) [.Call (.Name "range" q) [a, b] [] pos2] [] pos) (tE X.K F fun ρ st => ((f ρ st).bind fun x s => (g ρ s).bind fun y s => wkRng x y s).bind fun w s => newL w.its s) :=
  impE (pe_listRg o.calm hg hm (prg_2 hg2 hm2 ha hb (star_cons sa) (star_one sb) (by rw [star_one sb]; rfl))) fun σ H Q w => by
    obtain ⟨μ, ρ, st, S, w⟩ := w
    simp only [R.bind_assoc] at w
    refine ⟨μ, ρ, st, S, w.bind.mono fun d s μ1 H1 P1 w1 v rv => ?_⟩
    refine ⟨μ1, ρ, s, S.post P1, w1.bind.mono fun d2 s2 μ2 H2 P2 w2 v2 rv2 => ?_⟩
    obtain ⟨i, j, rfl, rfl, h1, h2⟩ := lrng_ok P2.sto (rv.post P2) rv2 w2
    exact ⟨i, j, rfl, rfl, h1, h2⟩
theorem blk_ok {N : List Str} {sc scope : Scope} {own : List (Str × Nat)} (h : blkB N sc scope own = true) : BlkOk N sc scope own := by
  unfold blkB at h
  simp only [Bool.and_eq_true] at h
  obtain ⟨⟨⟨⟨h1, h2⟩, h3⟩, h4⟩, h5⟩ := h
  refine ⟨by simpa using h1, fun y hy => ?_, fun p hp => ?_, fun y hy e => ?_, fun y hy e => ?_⟩
  · simpa using List.all_eq_true.mp h2 y hy
  · simpa using List.all_eq_true.mp h3 p hp
  · have := List.all_eq_true.mp h4 y hy
    rw [e] at this
    simpa using this
  · have := List.all_eq_true.mp h5 y hy
    rcases e with e | e
    · rw [e] at this; simpa using this
    · rw [e] at this; simpa using this
theorem fnLoc_blk {X : Cx} {s : Shared} {H : Hp} {scope : Scope} {C : Addr} {cl : List (Str × Addr)} {fp : List Addr} : FnLoc (X.blk s H scope (compEnvC scope cl C X.env) fp) scope := by
  intro x hx
  have keep : ∀ k, k ≠ NameKind.free → scope.names.lookup x = some k → (relS scope X.env.scope).names.lookup x = some k := fun k hk e => lookup_relS_keep hk e
  rcases hx with e | e
  · have e' := keep _ (by decide) e
    exact ⟨.inl e', .inr e'⟩
  · have e' := keep _ (by decide) e
    refine ⟨.inr e', .inl ?_⟩
    show (scope.names.lookup x == some NameKind.cell) = true
    rw [e]; rfl
theorem setBehind {op : CmpOp} {b : Expr} (h : isSet b = false) : behindInMarks op b = false := by
  cases b <;> first | rfl | cases h
theorem setFold {e : Expr} (h : isSet e = false) (env : PySem.Env) (x : Value) : foldedSetIterable e env x = pure x := by
  cases e <;> first | rfl | cases h
/-- what an index may be -/
theorem plainIx {e : Expr} (h : ∀ lo hi st p, e ≠ .Slice lo hi st p) : PlainIx e := by
  intro o i
  cases e <;> first | rfl | exact absurd rfl (h _ _ _ _)
end
end Nz
namespace Nz
open PySem L2 PyProof.Rows
/-- all parts of an expression's translation, at one depth -/
structure AllE (F : Nm) (T : Tab) (G : Ctx) (call : Nat → List D → Store → R D) (n : Nat) : Prop where
  e : ∀ {X : Cx} {e : Expr} {E : Nz.E}, Ok X F T G call → trE T n X.env.scope e = some E → PE X e (tE X.K F (ev G call E))
  and : ∀ {X : Cx} {es : List Expr} {E : Nz.E} {pos : Pos}, Ok X F T G call → trAnd T n X.env.scope es = some E → PE X (.BoolOp .And es pos) (tE X.K F (ev G call E))
  or : ∀ {X : Cx} {es : List Expr} {E : Nz.E} {pos : Pos}, Ok X F T G call → trOr T n X.env.scope es = some E → PE X (.BoolOp .Or es pos) (tE X.K F (ev G call E))
  ix : ∀ {X : Cx} {e : Expr} {E : Nz.E}, Ok X F T G call → trIx T n X.env.scope e = some E → PE X e (tE X.K F (ev G call E)) ∧ PlainIx e
  bi : ∀ {X : Cx} {x : Str} {as : List Expr} {E : Nz.E} {p pos : Pos}, Ok X F T G call → isFree T X.env.scope x = true → trBi T n X.env.scope x as = some E → PE X (.Call (.Name x p) as [] pos) (tE X.K F (ev G call E))
  es : ∀ {X : Cx} {as : List Expr} {E : Nz.Es}, Ok X F T G call → trEs T n X.env.scope as = some E → PA X as (tAs X.K F (evs G call E)) ∧ noStar as ∧ (as = [] → E = .nil)
  ed : ∀ {X : Cx} {as : List Expr} {E : Nz.Es}, Ok X F T G call → trEd T n X.env.scope as = some E → PA X as (tAs X.K F (evs G call E))
  o : ∀ {X : Cx} {a : Option Expr} {E : Nz.Oe}, Ok X F T G call → trO T n X.env.scope a = some E → PO X a (tOi X.K F (evO G call E))
  c : ∀ {X : Cx} {e : Expr} {E : Nz.C}, Ok X F T G call → trC T n X.env.scope e = some E → PT X e (tCo X.K F (evC G call E))
  cand : ∀ {X : Cx} {es : List Expr} {E : Nz.C} {pos : Pos}, Ok X F T G call → trCAnd T n X.env.scope es = some E → PW X (.BoolOp .And es pos) (tCo X.K F (evC G call E))
  cor : ∀ {X : Cx} {es : List Expr} {E : Nz.C} {pos : Pos}, Ok X F T G call → trCOr T n X.env.scope es = some E → PW X (.BoolOp .Or es pos) (tCo X.K F (evC G call E))
  i : ∀ {X : Cx} {tg e : Expr} {tt : Bool} {E : Nz.Iw}, Ok X F T G call → (tt = true → isTup tg = true) → trI T n X.env.scope tt e = some E → PI X tg e (tIt X.K F (evi G call E)) ∧ isSet e = false
section
variable {F : Nm} {T : Tab} {G : Ctx} {call : Nat → List D → Store → R D} {n : Nat}
theorem isRng_ok {X : Cx} {e : Expr} {as : List Expr} (o : Ok X F T G call) (h : isRng T X.env.scope e = some as) : ∃ p pos, e = .Call (.Name "range" p) as [] pos ∧ Gl X "range" ∧ X.mg "range" = none := by
  unfold isRng at h
  split at h
  · split at h
    · rename_i hx
      cases h
      obtain ⟨h1, h2⟩ := hx
      obtain ⟨g1, _, g3⟩ := isFree_ok o h2
      subst h1
      exact ⟨_, _, rfl, g1, g3⟩
    · cases h
  · cases h
theorem isCallOf_ok {X : Cx} {e : Expr} {as : List Expr} {y : Str} (o : Ok X F T G call) (h : isCallOf T X.env.scope y e = some as) : ∃ p pos, e = .Call (.Name y p) as [] pos ∧ Gl X y ∧ X.mg y = none := by
  unfold isCallOf at h
  split at h
  · split at h
    · rename_i hx
      cases h
      obtain ⟨h1, h2⟩ := hx
      obtain ⟨g1, _, g3⟩ := isFree_ok o h2
      subst h1
      exact ⟨_, _, rfl, g1, g3⟩
    · cases h
  · cases h
theorem s_o (A : AllE F T G call n) {X : Cx} {a : Option Expr} {E : Nz.Oe} (o : Ok X F T G call) (h : trO T (n + 1) X.env.scope a = some E) : PO X a (tOi X.K F (evO G call E)) := by
  cases a with
  | none => simp only [trO, Option.some.injEq] at h; subst h; exact noneO
  | some e =>
    simp only [trO] at h
    cases q : trE T n X.env.scope e with
    | none => rw [q] at h; cases h
    | some E' => rw [q] at h; cases h; exact someO (A.e o q)
theorem trEs_noStar {T : Tab} {sc : Scope} : ∀ {n : Nat} {as : List Expr} {E : Nz.Es}, trEs T n sc as = some E → noStar as
  | 0, _, _, h => by simp only [trEs, reduceCtorEq] at h
  | n + 1, [], _, _ => fun _ h => (nomatch h)
  | n + 1, e :: es, E, h => by
    simp only [trEs] at h
    split at h
    · cases h
    · rename_i hs
      have hs : isStar e = false := by simpa using hs
      cases q : trE T n sc e with
      | none => rw [q] at h; cases h
      | some e' =>
        cases q' : trEs T n sc es with
        | none => rw [q, q'] at h; cases h
        | some es' =>
          intro x hx
          rcases List.mem_cons.mp hx with z | z
          · rw [z]; exact hs
          · exact trEs_noStar q' x z
theorem s_es (A : AllE F T G call n) {X : Cx} {as : List Expr} {E : Nz.Es} (o : Ok X F T G call) (h : trEs T (n + 1) X.env.scope as = some E) : PA X as (tAs X.K F (evs G call E)) ∧ noStar as ∧ (as = [] → E = .nil) := by
  cases as with
  | nil => simp only [trEs, Option.some.injEq] at h; subst h; exact ⟨nilA, fun _ h => (nomatch h), fun _ => rfl⟩
  | cons a as =>
    simp only [trEs] at h
    split at h
    · cases h
    rename_i hs
    have hs : isStar a = false := by simpa using hs
    cases q : trE T n X.env.scope a with
    | none => rw [q] at h; cases h
    | some E1 =>
      cases q' : trEs T n X.env.scope as with
      | none => rw [q, q'] at h; cases h
      | some E2 =>
        rw [q, q'] at h
        cases h
        obtain ⟨h1, h2, _⟩ := A.es o q'
        refine ⟨consA (A.e o q) h1 (star_cons hs), fun e he => ?_, fun z => by cases z⟩
        rcases List.mem_cons.mp he with z | z
        · rw [z]; exact hs
        · exact h2 e z
theorem s_ed (A : AllE F T G call n) {X : Cx} {as : List Expr} {E : Nz.Es} (o : Ok X F T G call) (h : trEd T (n + 1) X.env.scope as = some E) : PA X as (tAs X.K F (evs G call E)) := by
  simp only [trEd] at h
  split at h
  · cases h; exact nilA
  · rename_i e p es
    cases q : trE T n X.env.scope e with
    | none => rw [q] at h; cases h
    | some E1 =>
      cases q' : trEd T n X.env.scope es with
      | none => rw [q, q'] at h; cases h
      | some E2 => rw [q, q'] at h; cases h; exact splA (A.e o q) (A.ed o q')
  · rename_i e es _
    split at h
    · cases h
    rename_i hs
    have hs : isStar e = false := by simpa using hs
    cases q : trE T n X.env.scope e with
    | none => rw [q] at h; cases h
    | some E1 =>
      cases q' : trEd T n X.env.scope es with
      | none => rw [q, q'] at h; cases h
      | some E2 => rw [q, q'] at h; cases h; exact consA (A.e o q) (A.ed o q') (star_cons hs)
theorem s_and (A : AllE F T G call n) {X : Cx} {es : List Expr} {E : Nz.E} {pos : Pos} (o : Ok X F T G call) (h : trAnd T (n + 1) X.env.scope es = some E) : PE X (.BoolOp .And es pos) (tE X.K F (ev G call E)) := by
  cases es with
  | nil => simp only [trAnd, reduceCtorEq] at h
  | cons a r =>
    cases r with
    | nil => simp only [trAnd] at h; exact pe_one (A.e o h)
    | cons b r =>
      simp only [trAnd] at h
      cases q : trE T n X.env.scope a with
      | none => rw [q] at h; cases h
      | some E1 =>
        cases q' : trAnd T n X.env.scope (b :: r) with
        | none => rw [q, q'] at h; cases h
        | some E2 => rw [q, q'] at h; cases h; exact andE (A.e o q) (A.and o q')
theorem s_or (A : AllE F T G call n) {X : Cx} {es : List Expr} {E : Nz.E} {pos : Pos} (o : Ok X F T G call) (h : trOr T (n + 1) X.env.scope es = some E) : PE X (.BoolOp .Or es pos) (tE X.K F (ev G call E)) := by
  cases es with
  | nil => simp only [trOr, reduceCtorEq] at h
  | cons a r =>
    cases r with
    | nil => simp only [trOr] at h; exact pe_one (A.e o h)
    | cons b r =>
      simp only [trOr] at h
      cases q : trE T n X.env.scope a with
      | none => rw [q] at h; cases h
      | some E1 =>
        cases q' : trOr T n X.env.scope (b :: r) with
        | none => rw [q, q'] at h; cases h
        | some E2 => rw [q, q'] at h; cases h; exact orE (A.e o q) (A.or o q')
theorem s_cand (A : AllE F T G call n) {X : Cx} {es : List Expr} {E : Nz.C} {pos : Pos} (o : Ok X F T G call) (h : trCAnd T (n + 1) X.env.scope es = some E) : PW X (.BoolOp .And es pos) (tCo X.K F (evC G call E)) := by
  cases es with
  | nil => simp only [trCAnd, reduceCtorEq] at h
  | cons a r =>
    cases r with
    | nil => simp only [trCAnd] at h; exact pw_and1 (A.c o h)
    | cons b r =>
      simp only [trCAnd] at h
      cases q : trC T n X.env.scope a with
      | none => rw [q] at h; cases h
      | some E1 =>
        cases q' : trCAnd T n X.env.scope (b :: r) with
        | none => rw [q, q'] at h; cases h
        | some E2 => rw [q, q'] at h; cases h; exact andT (A.c o q) (A.cand o q')
theorem s_cor (A : AllE F T G call n) {X : Cx} {es : List Expr} {E : Nz.C} {pos : Pos} (o : Ok X F T G call) (h : trCOr T (n + 1) X.env.scope es = some E) : PW X (.BoolOp .Or es pos) (tCo X.K F (evC G call E)) := by
  cases es with
  | nil => simp only [trCOr, reduceCtorEq] at h
  | cons a r =>
    cases r with
    | nil => simp only [trCOr] at h; exact pw_or1 (A.c o h)
    | cons b r =>
      simp only [trCOr] at h
      cases q : trC T n X.env.scope a with
      | none => rw [q] at h; cases h
      | some E1 =>
        cases q' : trCOr T n X.env.scope (b :: r) with
        | none => rw [q, q'] at h; cases h
        | some E2 => rw [q, q'] at h; cases h; exact orT (A.c o q) (A.cor o q')
theorem itmOf_ok {e a : Expr} (h : itmOf e = some a) : ∃ ap p, e = .Call (.Attribute a "items" ap) [] [] p ∧ (ap.endLine == p.line) = true ∧ isCall a = false := by
  unfold itmOf at h
  split at h
  · split at h
    · rename_i hm
      subst hm
      split at h
      · rename_i hh
        cases h
        rw [Bool.and_eq_true, Bool.not_eq_true'] at hh
        exact ⟨_, _, rfl, hh.1, hh.2⟩
      · cases h
    · cases h
  · cases h
theorem trI_no {K : Tab} {m : Nat} {sc : Scope} {tt : Bool} {e : Expr} {i : Nz.Iw} (h : trI K m sc tt e = some i) (hnk : itmOf e = none ∧ isKey K e = false) : ∀ E, wrapC i E = E := by
  obtain ⟨hn, hk⟩ := hnk
  intro E
  cases m with
  | zero => simp only [trI, reduceCtorEq] at h
  | succ m =>
    simp only [trI, hn, hk, Bool.false_eq_true, if_false] at h
    repeat' split at h
    all_goals first
      | (cases h; done)
      | (simp only [Option.some.injEq] at h; subst h; rfl)
theorem wrapE {X : Cx} {e : Expr} {E : Nz.E} {i : Nz.Iw} (h : PE X e (tE X.K F (ev G call E))) : PE X e (tE X.K F (ev G call (wrapC i E))) := by
  cases i <;> first
    | exact h
    | exact impE (lckE (f := ev G call _) h) fun σ H Q ⟨μ, ρ, st, S, w⟩ => ⟨μ, ρ, st, S, by rw [wrapC, ev] at w; exact w⟩
theorem s_i (A : AllE F T G call n) {X : Cx} {tg e : Expr} {tt : Bool} {E : Nz.Iw} (o : Ok X F T G call) (ht : tt = true → isTup tg = true) (h : trI T (n + 1) X.env.scope tt e = some E) : PI X tg e (tIt X.K F (evi G call E)) ∧ isSet e = false := by
  simp only [trI] at h
  split at h
  · rename_i a hr
    obtain ⟨p, pos, rfl, hg, hm⟩ := isRng_ok o hr
    split at h
    · cases h
    rename_i hs
    have hs : isStar a = false := by simpa using hs
    cases q : trE T n X.env.scope a with
    | none => rw [q] at h; cases h
    | some E1 => rw [q] at h; cases h; exact ⟨pi_rng1N hg hm (A.e o q) (star_one hs), rfl⟩
  · rename_i a b hr
    obtain ⟨p, pos, rfl, hg, hm⟩ := isRng_ok o hr
    split at h
    · cases h
    rename_i hs
    have hs : isStar a = false ∧ isStar b = false := by simpa using hs
    cases q : trE T n X.env.scope a with
    | none => rw [q] at h; cases h
    | some E1 =>
      cases q' : trE T n X.env.scope b with
      | none => rw [q, q'] at h; cases h
      | some E2 => rw [q, q'] at h; cases h; exact ⟨pi_rng2N hg hm (A.e o q) (A.e o q') (star_two hs.1 hs.2) (star_one hs.2), rfl⟩
  · rename_i a b c hr
    obtain ⟨p, pos, rfl, hg, hm⟩ := isRng_ok o hr
    split at h
    · cases h
    rename_i hs
    have hs : (isStar a = false ∧ isStar b = false) ∧ isStar c = false := by simpa using hs
    cases q : trE T n X.env.scope a with
    | none => rw [q] at h; cases h
    | some E1 =>
      cases q' : trE T n X.env.scope b with
      | none => rw [q, q'] at h; cases h
      | some E2 =>
        cases q2 : trE T n X.env.scope c with
        | none => rw [q, q', q2] at h; cases h
        | some E3 => rw [q, q', q2] at h; cases h; exact ⟨pi_rng3N hg hm (A.e o q) (A.e o q') (A.e o q2) (star_cons hs.1.1) (star_two hs.1.2 hs.2) (star_one hs.2), rfl⟩
  · cases h
  · split at h
    · rename_i a hr
      obtain ⟨p, pos, rfl, hg, hm⟩ := isCallOf_ok o hr
      split at h
      · cases h
      rename_i hs
      have hs : isStar a = false ∧ tt = true := by simpa using hs
      have h3 := ht hs.2
      cases q : trE T n X.env.scope a with
      | none => rw [q] at h; cases h
      | some E1 =>
        rw [q] at h; cases h
        cases tg <;> simp only [isTup, Bool.false_eq_true] at h3
        exact ⟨pi_enumN hg hm (A.e o q) (star_one hs.1), rfl⟩
    · cases h
    · split at h
      · rename_i b hr
        obtain ⟨p, pos, rfl, hg, hm⟩ := isCallOf_ok o hr
        split at h
        · rename_i a hr2
          obtain ⟨p2, pos2, rfl, hg2, hm2⟩ := isRng_ok o hr2
          split at h
          · cases h
          rename_i hs
          have hs : isStar a = false := by simpa using hs
          cases q : trE T n X.env.scope a with
          | none => rw [q] at h; cases h
          | some E1 => rw [q] at h; cases h; exact ⟨pi_rrng1N hg hm hg2 hm2 (A.e o q) (star_one hs), rfl⟩
        · cases h
      · cases h
      · split at h
        · rename_i a b hr
          obtain ⟨p, pos, rfl, hg, hm⟩ := isCallOf_ok o hr
          split at h
          · cases h
          rename_i hs
          have hs : (isStar a = false ∧ isStar b = false) ∧ tt = true := by simpa using hs
          have h3 := ht hs.2
          cases q : trE T n X.env.scope a with
          | none => rw [q] at h; cases h
          | some E1 =>
            cases q' : trE T n X.env.scope b with
            | none => rw [q, q'] at h; cases h
            | some E2 =>
              rw [q, q'] at h; cases h
              cases tg <;> simp only [isTup, Bool.false_eq_true] at h3
              exact ⟨pi_zipN hg hm (A.e o q) (A.e o q') (star_two hs.1.1 hs.1.2) (star_one hs.1.2), rfl⟩
        · cases h
        · split at h
          · rename_i a hr
            obtain ⟨ap, p, rfl, h1, h2⟩ := itmOf_ok hr
            split at h
            · cases h
            rename_i hs
            have hs : tt = true := by simpa using hs
            have h3 := ht hs
            cases q : trE T n X.env.scope a with
            | none => rw [q] at h; cases h
            | some E1 =>
              rw [q] at h; cases h
              cases tg <;> simp only [isTup, Bool.false_eq_true] at h3
              refine ⟨impI (pi_itmN (A.e o q) (base_ok h2) h1) fun σ H R w => ?_, rfl⟩
              obtain ⟨μ, ρ, st, S, w⟩ := w
              exact ⟨μ, ρ, st, S, by rw [evi] at w; exact w⟩
          · split at h
            · cases h
            rename_i hs
            have hs : isSet e = false := by simpa using hs
            cases q : trE T n X.env.scope e with
            | none => rw [q] at h; cases h
            | some E1 =>
              simp only [q] at h
              split at h
              · cases h
                refine ⟨impI (pi_keyN (A.e o q)) fun σ H R w => ?_, hs⟩
                obtain ⟨μ, ρ, st, S, w⟩ := w
                exact ⟨μ, ρ, st, S, by rw [evi] at w; exact w⟩
              · cases h; exact ⟨pi_seqN (A.e o q), hs⟩
theorem s_ix (A : AllE F T G call n) {X : Cx} {e : Expr} {E : Nz.E} (o : Ok X F T G call) (h : trIx T (n + 1) X.env.scope e = some E) : PE X e (tE X.K F (ev G call E)) ∧ PlainIx e := by
  cases e <;> simp only [trIx, reduceCtorEq] at h <;> exact ⟨A.e o h, plainIx (by intro _ _ _ _ z; cases z)⟩
theorem s_c (A : AllE F T G call n) {X : Cx} {e : Expr} {E : Nz.C} (o : Ok X F T G call) (h : trC T (n + 1) X.env.scope e = some E) (hcmp : ∀ {a ops bs pos E'}, trE T n X.env.scope (.Compare a ops bs pos) = some E' → PT X (.Compare a ops bs pos) (tCo X.K F fun ρ st => (ev G call E' ρ st).bind fun d s => R.asB d s)) : PT X e (tCo X.K F (evC G call E)) := by
  have gen : ∀ {e : Expr} {E : Nz.C}, (∀ whole, isTrue e X.env whole = (do let v ← whole; standAt e.pos; holding [v] (truthy v))) → (match trE T n X.env.scope e with
      | some e => some (C.val e)
      | none => none) = some E → PT X e (tCo X.K F (evC G call E)) := fun {e E} he h => by
    cases q : trE T n X.env.scope e with
    | none => rw [q] at h; cases h
    | some E1 => rw [q] at h; cases h; exact valT (A.e o q) he
  cases e <;> simp only [trC, reduceCtorEq] at h <;> first
    | exact gen (fun _ => rfl) h
    | skip
  · rename_i op es pos
    cases op <;> simp only at h
    · exact (A.cand o h).pt
    · exact (A.cor o h).pt
  · rename_i op a pos
    cases op <;> simp only at h
    · exact gen (fun _ => rfl) h
    · cases q : trC T n X.env.scope a with
      | none => rw [q] at h; cases h
      | some E1 => rw [q] at h; cases h; exact notT (A.c o q)
    · exact gen (fun _ => rfl) h
    · exact gen (fun _ => rfl) h
  · rename_i a ops bs pos
    cases q : trE T n X.env.scope (.Compare a ops bs pos) with
    | none => rw [q] at h; cases h
    | some E1 => rw [q] at h; cases h; exact hcmp q
theorem s_bi (A : AllE F T G call n) {X : Cx} {x : Str} {as : List Expr} {E : Nz.E} {p pos : Pos} (o : Ok X F T G call) (hf : isFree T X.env.scope x = true) (h : trBi T (n + 1) X.env.scope x as = some E) : PE X (.Call (.Name x p) as [] pos) (tE X.K F (ev G call E)) := by
  obtain ⟨hg, hd, hm⟩ := isFree_ok o hf
  simp only [trBi] at h
  split at h
  · rename_i a
    split at h
    · cases h
    rename_i hs
    have hs : isStar a = false := by simpa using hs
    have one : ∀ {E : Nz.E}, trE T n X.env.scope a = some E → PA X [a] (tAs X.K F (evs G call (.cons E .nil))) := fun q => consA (A.e o q) nilA (star_one hs)
    have hpl : (backTo pos (starEach ([] : List Expr) X.env)).any (·.1) = false := rfl
    split at h
    · rename_i hx
      subst hx
      split at h
      · rename_i b hr
        obtain ⟨p2, pos2, rfl, hg2, hm2⟩ := isRng_ok o hr
        split at h
        · cases h
        rename_i hs2
        have hs2 : isStar b = false := by simpa using hs2
        cases q : trE T n X.env.scope b with
        | none => rw [q] at h; cases h
        | some E1 => rw [q] at h; cases h; exact lrng1E o (A.e o q) hg hm hg2 hm2 hs2
      · rename_i b c hr
        obtain ⟨p2, pos2, rfl, hg2, hm2⟩ := isRng_ok o hr
        split at h
        · cases h
        rename_i hs2
        have hs2 : isStar b = false ∧ isStar c = false := by simpa using hs2
        cases q : trE T n X.env.scope b with
        | none => rw [q] at h; cases h
        | some E1 =>
          cases q' : trE T n X.env.scope c with
          | none => rw [q, q'] at h; cases h
          | some E2 => rw [q, q'] at h; cases h; exact lrng2E o (A.e o q) (A.e o q') hg hm hg2 hm2 hs2.1 hs2.2
      · cases h
      · cases q : trE T n X.env.scope a with
        | none => rw [q] at h; cases h
        | some E1 => rw [q] at h; cases h; exact tyE (mkl_ok (F := F) o.calm) hg hd hm boot_list (one q) (by decide) (star_one hs) hpl
    · cases qb : bi1.lookup x with
      | none => rw [qb] at h; cases h
      | some b =>
        rw [qb] at h
        cases q : trE T n X.env.scope a with
        | none => rw [q] at h; cases h
        | some E1 =>
          rw [q] at h
          cases h
          have hmem : (x, b) ∈ bi1 := PySem.mem_of_lookup qb
          have A1 := one q
          simp only [bi1, List.mem_cons, Prod.mk.injEq, List.not_mem_nil, or_false] at hmem
          rcases hmem with ⟨rfl, rfl⟩ | ⟨rfl, rfl⟩ | ⟨rfl, rfl⟩ | ⟨rfl, rfl⟩ | ⟨rfl, rfl⟩ | ⟨rfl, rfl⟩ | ⟨rfl, rfl⟩ | ⟨rfl, rfl⟩ | ⟨rfl, rfl⟩ | ⟨rfl, rfl⟩ | ⟨rfl, rfl⟩
          · exact biE (len_ok (F := F)) hg hd hm boot_len A1 (by decide) (star_one hs) hpl
          · exact biE (abs_ok (F := F)) hg hd hm (by decide +kernel) A1 (by decide) (star_one hs) hpl
          · exact tyE (int_ok (F := F)) hg hd hm boot_int A1 (by decide) (star_one hs) hpl
          · exact tyE (mkt_ok (F := F)) hg hd hm boot_tuple A1 (by decide) (star_one hs) hpl
          · exact biE (sum_ok (F := F) o.calm) hg hd hm boot_sum A1 (by decide) (star_one hs) hpl
          · exact biE (all_ok (F := F) o.calm) hg hd hm boot_all A1 (by decide) (star_one hs) hpl
          · exact biE (any_ok (F := F) o.calm) hg hd hm boot_any A1 (by decide) (star_one hs) hpl
          · exact biE (max1_ok (F := F) o.calm) hg hd hm boot_max A1 (by decide) (star_one hs) hpl
          · exact biE (min1_ok (F := F) o.hu o.calm) hg hd hm boot_min A1 (by decide) (star_one hs) hpl
          · exact biE (sorted_ok (F := F)) hg hd hm (by decide +kernel) A1 (by decide) (star_one hs) hpl
          · exact tyE (mkd_ok (F := F)) hg hd hm (by decide +kernel) A1 (by decide) (star_one hs) hpl
  · rename_i a b
    split at h
    · cases h
    rename_i hs
    have hs : isStar a = false ∧ isStar b = false := by simpa using hs
    have hpl : (backTo pos (starEach [b] X.env)).any (·.1) = false := by rw [star_one hs.2]; rfl
    split at h
    · rename_i hx
      subst hx
      cases q : trE T n X.env.scope a with
      | none => rw [q] at h; cases h
      | some E1 =>
        cases q' : trIsi T X.env.scope b with
        | none => rw [q, q'] at h; cases h
        | some ks => rw [q, q'] at h; cases h; exact isiE o (A.e o q) q' hg hm hs.1 hs.2
    · split at h
      · rename_i hx
        subst hx
        cases q : trEs T n X.env.scope [a, b] with
        | none => rw [q] at h; cases h
        | some E1 => rw [q] at h; cases h; exact biE (min2_ok (F := F) o.calm) hg hd hm boot_min (A.es o q).1 (by decide) (star_cons hs.1) hpl
      · split at h
        · rename_i hx
          subst hx
          cases q : trEs T n X.env.scope [a, b] with
          | none => rw [q] at h; cases h
          | some E1 => rw [q] at h; cases h; exact biE (max2_ok (F := F) o.calm) hg hd hm boot_max (A.es o q).1 (by decide) (star_cons hs.1) hpl
        · cases h
  · cases h
end
end Nz
namespace ZpL
open PySem PySem.Spec PyProof.Rows PySem.Calls PyProof.V L2 RZ
open PySem.Sem (wp)
section
variable {prog : Program} {w : World} {A : Around} {E : Value → Shared → Prop} {s : Shared}
theorem zipT_next_item_held {z TI TO T i1 i2 l1 l2 : Addr} {f : Bool} {oT : Obj} {k1 k2 : Nat} {xs ys : Array Value} {x y : Value} {Q : Value → Shared → Prop} (D : ZipApart z TI TO i1 i2 l1 l2)
    (hz : IsZipHeld s.heap z TI TO T f) (hT : s.heap.get? T = some oT) (hTI : IsPair s.heap TI (.ref i1) (.ref i2))
    (h1 : s.heap.IsTupleIter i1 l1 k1) (h2 : s.heap.IsTupleIter i2 l2 k2) (hl1 : s.heap.IsTuple l1 xs) (hl2 : s.heap.IsTuple l2 ys) (hx : xs[k1]? = some x) (hy : ys[k2]? = some y)
    (hQ : ∀ h', IsZipHeld h' z TI TO T true → h'.IsTupleIter i1 l1 (k1 + 1) → h'.IsTupleIter i2 l2 (k2 + 1) → IsPair h' s.heap.objs.size x y → h'.objs.size = s.heap.objs.size + 1 →
      (∀ c o, c ≠ z → c ≠ i1 → c ≠ i2 → s.heap.get? c = some o → h'.get? c = some o) → Q (.ref s.heap.objs.size) { s with heap := h' }) :
    wpAny (model prog w) A (Builtin.«zip.__next__» ⟨[.ref z], []⟩) (fun fin s' => ∃ v, fin = .done (.ret v) ∧ Q v s') E s := by
  show wpAny _ _ (field (.ref z) 2 >>= _) _ _ _
  refine wpAny_bind (wpAny_field hz rfl (x := .bool false) rfl ?_)
  show wpAny _ _ (field (.ref z) 3 >>= _) _ _ _
  refine wpAny_bind (wpAny_field hz rfl (x := .ref TI) rfl ?_)
  refine wpAny_bind (wpAny_seqItems hTI rfl ?_)
  show wpAny _ _ (Builtin.SmallTypes.ownedTupleIsFree (.ref z) >>= _) _ _ _
  refine wpAny_bind (wpAny_tupleHeld_zip hz hT fun h₁ hz₁ hs₁ => ?_)
  simp only [Bool.false_eq_true, if_false]
  refine wpAny_bind ?_
  rw [← Array.forIn_toList]
  simp only [List.forIn_cons, List.forIn_nil]
  refine wpAny_bind (wpAny_bind (wpAny_holding ?_))
  show wpAny _ _ (Builtin.SmallTypes.nextOf (.ref i1) >>= _) _ _ _
  refine wpAny_bind (nextOf_tuple_item (s := { s with heap := h₁ }) (h1.extBut hs₁.extBut D.i1z) (hl1.extBut hs₁.extBut D.l1z) hx fun h₂ h1₂ hs₂ => wpAny_pure ?_)
  refine wpAny_pure ?_
  refine wpAny_bind (wpAny_bind (wpAny_holding ?_))
  show wpAny _ _ (Builtin.SmallTypes.nextOf (.ref i2) >>= _) _ _ _
  refine wpAny_bind (nextOf_tuple_item (s := { s with heap := h₂ }) ((h2.extBut hs₁.extBut D.i2z).extBut hs₂.extBut D.i12.symm) ((hl2.extBut hs₁.extBut D.l2z).extBut hs₂.extBut D.l2i1) hy fun h₃ h2₃ hs₃ => wpAny_pure ?_)
  refine wpAny_pure (wpAny_pure ?_)
  show wpAny _ _ (newTuple [x, y] >>= _) _ _ _
  refine wpAny_bind (wpAny_newTuple ?_)
  have hsz : h₃.objs.size = s.heap.objs.size := by rw [hs₃.1, hs₂.1, hs₁.1]
  have hz₃ : IsZipHeld h₃ z TI TO T true := hs₃.extBut _ _ D.i2z.symm (hs₂.extBut _ _ D.i1z.symm hz₁)
  have hk : ∀ c o, c ≠ z → c ≠ i1 → c ≠ i2 → s.heap.get? c = some o → h₃.get? c = some o := fun c o c1 c2 c3 e => hs₃.extBut _ _ c3 (hs₂.extBut _ _ c2 (hs₁.extBut _ _ c1 e))
  have h1₃ : h₃.IsTupleIter i1 l1 (k1 + 1) := h1₂.extBut hs₃.extBut D.i12
  refine wpAny_pure ⟨_, rfl, ?_⟩
  show Q (.ref h₃.objs.size) _
  have hp : IsPair (h₃.push { cls := .type "tuple", data := .seq #[x, y] }) h₃.objs.size x y := Heap.get?_push_size _ rfl
  have hz4 : (h₃.push { cls := .type "tuple", data := .seq #[x, y] }).objs.size = h₃.objs.size + 1 := Heap.size_push ..
  rw [hsz] at hp hz4 ⊢
  exact hQ _ (Heap.get?_push_of_some _ hz₃) (h1₃.at fun o e => Heap.get?_push_of_some _ e) (h2₃.at fun o e => Heap.get?_push_of_some _ e) hp hz4 fun c o c1 c2 c3 e => Heap.get?_push_of_some _ (hk c o c1 c2 c3 e)
theorem zipT_next_end_held {z TI TO T i1 i2 l1 l2 : Addr} {f : Bool} {oT : Obj} {k1 k2 : Nat} {xs ys : Array Value} {Q : Fin → Shared → Prop} (hh : A.handled = none) (D : ZipApart z TI TO i1 i2 l1 l2)
    (hz : IsZipHeld s.heap z TI TO T f) (hT : s.heap.get? T = some oT) (hTI : IsPair s.heap TI (.ref i1) (.ref i2))
    (h1 : s.heap.IsTupleIter i1 l1 k1) (h2 : s.heap.IsTupleIter i2 l2 k2) (hl1 : s.heap.IsTuple l1 xs) (hl2 : s.heap.IsTuple l2 ys) (hend : xs[k1]? = none ∨ ys[k2]? = none)
    (hE : ∀ h' e, (∀ c o, c ≠ z → c ≠ i1 → c ≠ i2 → s.heap.get? c = some o → h'.get? c = some o) → (∃ o, h'.get? e = some o ∧ o.cls = .type "StopIteration") → E (.ref e) { s with heap := h' }) :
    wpAny (model prog w) A (Builtin.«zip.__next__» ⟨[.ref z], []⟩) Q E s := by
  show wpAny _ _ (field (.ref z) 2 >>= _) _ _ _
  refine wpAny_bind (wpAny_field hz rfl (x := .bool false) rfl ?_)
  show wpAny _ _ (field (.ref z) 3 >>= _) _ _ _
  refine wpAny_bind (wpAny_field hz rfl (x := .ref TI) rfl ?_)
  refine wpAny_bind (wpAny_seqItems hTI rfl ?_)
  show wpAny _ _ (Builtin.SmallTypes.ownedTupleIsFree (.ref z) >>= _) _ _ _
  refine wpAny_bind (wpAny_tupleHeld_zip hz hT fun h₁ hz₁ hs₁ => ?_)
  simp only [Bool.false_eq_true, if_false]
  refine wpAny_bind ?_
  rw [← Array.forIn_toList]
  simp only [List.forIn_cons, List.forIn_nil]
  refine wpAny_bind (wpAny_bind (wpAny_holding ?_))
  show wpAny _ _ (Builtin.SmallTypes.nextOf (.ref i1) >>= _) _ _ _
  cases hx : xs[k1]? with
  | none =>
    refine wpAny_bind (nextOf_tuple_end (s := { s with heap := h₁ }) hh (h1.extBut hs₁.extBut D.i1z) (hl1.extBut hs₁.extBut D.l1z) hx fun h₂ e hs₂ he => ?_)
    exact hE h₂ e (fun c o c1 c2 _ x => hs₂ _ _ c2 (hs₁.extBut _ _ c1 x)) he
  | some x =>
    have hy : ys[k2]? = none := by rcases hend with h | h; rw [hx] at h; cases h; exact h
    refine wpAny_bind (nextOf_tuple_item (s := { s with heap := h₁ }) (h1.extBut hs₁.extBut D.i1z) (hl1.extBut hs₁.extBut D.l1z) hx fun h₂ h1₂ hs₂ => wpAny_pure ?_)
    refine wpAny_pure ?_
    refine wpAny_bind (wpAny_bind (wpAny_holding ?_))
    show wpAny _ _ (Builtin.SmallTypes.nextOf (.ref i2) >>= _) _ _ _
    refine wpAny_bind (nextOf_tuple_end (s := { s with heap := h₂ }) hh ((h2.extBut hs₁.extBut D.i2z).extBut hs₂.extBut D.i12.symm) ((hl2.extBut hs₁.extBut D.l2z).extBut hs₂.extBut D.l2i1) hy fun h₃ e hs₃ he => ?_)
    exact hE h₃ e (fun c o c1 c2 c3 x => hs₃ _ _ c3 (hs₂.extBut _ _ c2 (hs₁.extBut _ _ c1 x))) he
theorem pyNext_item_held {z TI TO T i1 i2 l1 l2 : Addr} {f : Bool} {oT : Obj} {k1 k2 : Nat} {xs ys : Array Value} {x y : Value} {Q : Option Value → Shared → Prop} (D : ZipApart z TI TO i1 i2 l1 l2)
    (hz : IsZipHeld s.heap z TI TO T f) (hT : s.heap.get? T = some oT) (hTI : IsPair s.heap TI (.ref i1) (.ref i2))
    (h1 : s.heap.IsTupleIter i1 l1 k1) (h2 : s.heap.IsTupleIter i2 l2 k2) (hl1 : s.heap.IsTuple l1 xs) (hl2 : s.heap.IsTuple l2 ys) (hx : xs[k1]? = some x) (hy : ys[k2]? = some y)
    (hQ : ∀ h', IsZipHeld h' z TI TO T true → h'.IsTupleIter i1 l1 (k1 + 1) → h'.IsTupleIter i2 l2 (k2 + 1) → IsPair h' s.heap.objs.size x y → h'.objs.size = s.heap.objs.size + 1 →
      (∀ c o, c ≠ z → c ≠ i1 → c ≠ i2 → s.heap.get? c = some o → h'.get? c = some o) → Q (some (.ref s.heap.objs.size)) { s with heap := h' }) :
    wpAny (model prog w) A (pyNext (.ref z)) Q E s := by
  have hTy : s.TypeIs (.ref z) "zip" := ⟨_, hz, rfl⟩
  unfold pyNext
  exact wpAny_bind (wpAny_attempt (wpAny_callSpecial?_slot (name := Str.ofString "__next__") hTy F.slot_zip_next
    (wpAny_call_entry F.slot_zip_next hTy F.entry_zip_next
      (zipT_next_item_held D hz hT hTI h1 h2 hl1 hl2 hx hy fun h' a1 a2 a3 a4 a5 a6 => wpAny_pure (hQ h' a1 a2 a3 a4 a5 a6)) (F.args_zip_next_1 _))))
theorem pyNext_end_held {z TI TO T i1 i2 l1 l2 : Addr} {f : Bool} {oT : Obj} {k1 k2 : Nat} {xs ys : Array Value} {Q : Option Value → Shared → Prop} (hh : A.handled = none) (D : ZipApart z TI TO i1 i2 l1 l2)
    (hz : IsZipHeld s.heap z TI TO T f) (hT : s.heap.get? T = some oT) (hTI : IsPair s.heap TI (.ref i1) (.ref i2))
    (h1 : s.heap.IsTupleIter i1 l1 k1) (h2 : s.heap.IsTupleIter i2 l2 k2) (hl1 : s.heap.IsTuple l1 xs) (hl2 : s.heap.IsTuple l2 ys) (hend : xs[k1]? = none ∨ ys[k2]? = none)
    (hQ : ∀ h', (∀ c o, c ≠ z → c ≠ i1 → c ≠ i2 → s.heap.get? c = some o → h'.get? c = some o) → Q none { s with heap := h' }) : wpAny (model prog w) A (pyNext (.ref z)) Q E s := by
  have hTy : s.TypeIs (.ref z) "zip" := ⟨_, hz, rfl⟩
  unfold pyNext
  refine wpAny_bind (wpAny_attempt (wpAny_callSpecial?_slot (name := Str.ofString "__next__") hTy F.slot_zip_next
    (wpAny_call_entry F.slot_zip_next hTy F.entry_zip_next (zipT_next_end_held hh D hz hT hTI h1 h2 hl1 hl2 hend fun h' e hk he => ?_) (F.args_zip_next_1 _))))
  obtain ⟨o, ho, hc⟩ := he
  refine wpAny_bind (wpAny_isInstance (T := "StopIteration") (b := true) ⟨o, ho, hc⟩ isSubtype_stop ?_)
  exact wpAny_pure (hQ _ hk)
end
/-- where a walk over a zip stands, its pairs kept at other places than S -/
structure ZS (h : Heap) (S z TI TO i1 i2 l1 l2 : Addr) (xs ys : Array Value) (i : Nat) : Prop where
  ti : IsPair h TI (.ref i1) (.ref i2)
  t1 : h.IsTupleIter i1 l1 i
  t2 : h.IsTupleIter i2 l2 i
  x1 : h.IsTuple l1 xs
  x2 : h.IsTuple l2 ys
  zz : (IsZip h z TI TO .none ∧ ∃ a b, IsPair h TO a b) ∨ ∃ T f oT, IsZipHeld h z TI TO T f ∧ h.get? T = some oT ∧ T ≠ z ∧ T ≠ i1 ∧ T ≠ i2 ∧ T ≠ S
section
variable {prog : Program} {w : World} {A : Around} {E : Value → Shared → Prop} {s : Shared} {S z TI TO i1 i2 l1 l2 : Addr} {xs ys : Array Value} {i : Nat}
theorem ZS.lt {h : Heap} (st : ZS h S z TI TO i1 i2 l1 l2 xs ys i) : z < h.objs.size := by
  rcases st.zz with ⟨hz, _⟩ | ⟨T, f, oT, hz, _⟩ <;> exact Heap.lt_size hz
theorem ZS.keep {h h' : Heap} (st : ZS h S z TI TO i1 i2 l1 l2 xs ys i) (n : S ≠ z ∧ S ≠ TI ∧ S ≠ TO ∧ S ≠ i1 ∧ S ≠ i2 ∧ S ≠ l1 ∧ S ≠ l2) (k : ∀ c o, c ≠ S → h.get? c = some o → h'.get? c = some o) : ZS h' S z TI TO i1 i2 l1 l2 xs ys i := by
  obtain ⟨n1, n2, n3, n4, n5, n6, n7⟩ := n
  refine ⟨k _ _ (Ne.symm n2) st.ti, st.t1.at fun o e => k _ o (Ne.symm n4) e, st.t2.at fun o e => k _ o (Ne.symm n5) e, st.x1.at fun o e => k _ o (Ne.symm n6) e, st.x2.at fun o e => k _ o (Ne.symm n7) e, ?_⟩
  rcases st.zz with ⟨hz, a, b, hTO⟩ | ⟨T, f, oT, hz, hT, r1, r2, r3, r4⟩
  · exact .inl ⟨k _ _ (Ne.symm n1) hz, a, b, k _ _ (Ne.symm n3) hTO⟩
  · exact .inr ⟨T, f, oT, k _ _ (Ne.symm n1) hz, k _ _ r4 hT, r1, r2, r3, r4⟩
theorem zs_item {Q : Option Value → Shared → Prop} (D : ZipApart z TI TO i1 i2 l1 l2) (st : ZS s.heap S z TI TO i1 i2 l1 l2 xs ys i) (hS : S < s.heap.objs.size) {x y : Value} (hx : xs[i]? = some x) (hy : ys[i]? = some y)
    (hQ : ∀ h', ZS h' S z TI TO i1 i2 l1 l2 xs ys (i + 1) → IsPair h' s.heap.objs.size x y → h'.objs.size = s.heap.objs.size + 1 → (∀ c o, c ≠ z → c ≠ TO → c ≠ i1 → c ≠ i2 → s.heap.get? c = some o → h'.get? c = some o) → Q (some (.ref s.heap.objs.size)) { s with heap := h' }) :
    wpAny (model prog w) A (pyNext (.ref z)) Q E s := by
  have lt : ∀ {c o}, s.heap.get? c = some o → s.heap.objs.size ≠ c := fun e => Nat.ne_of_gt (Heap.lt_size e)
  have n1 : s.heap.objs.size ≠ i1 := let ⟨_, e, _⟩ := st.t1; lt e
  have n2 : s.heap.objs.size ≠ i2 := let ⟨_, e, _⟩ := st.t2; lt e
  have nz := Nat.ne_of_gt st.lt
  rcases st.zz with ⟨hz, a, b, hTO⟩ | ⟨T, f, oT, hz, hT, r1, r2, r3, r4⟩
  · refine pyNext_zipT_item D hz st.ti hTO st.t1 st.t2 st.x1 st.x2 hx hy fun h' a1 a2 a3 a4 a5 a6 hk => ?_
    exact hQ h' ⟨hk _ _ D.TIz D.TITO D.TIi1 D.TIi2 st.ti, a3, a4, st.x1.at fun o e => hk _ o D.l1z D.l1TO D.l1i1 D.l1i2 e, st.x2.at fun o e => hk _ o D.l2z D.l2TO D.l2i1 D.l2i2 e,
      .inr ⟨s.heap.objs.size, false, _, a1, a5, nz, n1, n2, Nat.ne_of_gt hS⟩⟩ a5 a6 hk
  · refine pyNext_item_held D hz hT st.ti st.t1 st.t2 st.x1 st.x2 hx hy fun h' a1 a3 a4 a5 a6 hk => ?_
    exact hQ h' ⟨hk _ _ D.TIz D.TIi1 D.TIi2 st.ti, a3, a4, st.x1.at fun o e => hk _ o D.l1z D.l1i1 D.l1i2 e, st.x2.at fun o e => hk _ o D.l2z D.l2i1 D.l2i2 e,
      .inr ⟨T, true, oT, a1, hk _ _ r1 r2 r3 hT, r1, r2, r3, r4⟩⟩ a5 a6 fun c o c1 _ c3 c4 e => hk c o c1 c3 c4 e
theorem zs_done {Q : Option Value → Shared → Prop} (hh : A.handled = none) (D : ZipApart z TI TO i1 i2 l1 l2) (st : ZS s.heap S z TI TO i1 i2 l1 l2 xs ys i) (hend : xs[i]? = none ∨ ys[i]? = none)
    (hQ : ∀ h', (∀ c o, c ≠ z → c ≠ TO → c ≠ i1 → c ≠ i2 → s.heap.get? c = some o → h'.get? c = some o) → Q none { s with heap := h' }) : wpAny (model prog w) A (pyNext (.ref z)) Q E s := by
  rcases st.zz with ⟨hz, a, b, hTO⟩ | ⟨T, f, oT, hz, hT, r1, r2, r3, r4⟩
  · exact pyNext_zipT_end hh D hz st.ti hTO st.t1 st.t2 st.x1 st.x2 hend hQ
  · exact pyNext_end_held hh D hz hT st.ti st.t1 st.t2 st.x1 st.x2 hend fun h' hk => hQ h' fun c o c1 _ c3 c4 e => hk c o c1 c3 c4 e
end
/-- the kept pairs -/
structure PG (xs ys : Array Value) (lo : Addr) (h : Heap) (as : List Addr) : Prop where
  rise : as.Pairwise (· < ·)
  above : ∀ a ∈ as, lo < a
  pairs : ∀ (j : Nat) (a : Addr), as[j]? = some a → ∃ x y, xs[j]? = some x ∧ ys[j]? = some y ∧ IsPair h a x y
theorem PG.there {xs ys : Array Value} {lo : Addr} {h : Heap} {as : List Addr} (g : PG xs ys lo h as) {a : Addr} (ha : a ∈ as) : a < h.objs.size := by
  obtain ⟨j, hj⟩ := List.mem_iff_getElem?.mp ha
  obtain ⟨x, y, _, _, e⟩ := g.pairs j a hj
  exact Heap.lt_size e
section
variable {prog : Program} {w : World} {A : Around} {s : Shared} {R : Result → Shared → Prop} {S z TI TO i1 i2 l1 l2 : Addr} {xs ys : Array Value}
theorem zs_loop (hh : A.handled = none) (D : ZipApart z TI TO i1 i2 l1 l2) (nS : S ≠ z ∧ S ≠ TI ∧ S ≠ TO ∧ S ≠ i1 ∧ S ≠ i2 ∧ S ≠ l1 ∧ S ≠ l2) (lw : z < S ∧ TO < S ∧ i1 < S ∧ i2 < S) {n : Nat} (hn1 : n ≤ xs.size) (hn2 : n ≤ ys.size) (hne : n = xs.size ∨ n = ys.size) (hn : n ≤ sizeLine) (res : Value) {h₁ : Heap}
    (hR : ∀ h' tk acc c as, (∀ b o, b ≠ S → b ≠ z → b ≠ TO → b ≠ i1 → b ≠ i2 → h₁.get? b = some o → h'.get? b = some o) → h'.get? S = some { cls := .type "list", dict := none, data := .seq acc c, slots := #[] } → as.length = n → PG xs ys S h' as →
      acc.toList = as.map Value.ref → R (.ok (.ret res)) { s with heap := h', toks := tk }) :
    ∀ (k i : Nat) (h : Heap) (tk c : Nat) (acc : Array Value) (as : List Addr), n - i = k → i ≤ n → ZS h S z TI TO i1 i2 l1 l2 xs ys i → (∀ b o, b ≠ S → b ≠ z → b ≠ TO → b ≠ i1 → b ≠ i2 → h₁.get? b = some o → h.get? b = some o) →
      h.get? S = some { cls := .type "list", dict := none, data := .seq acc c, slots := #[] } → acc.toList = as.map Value.ref → as.length = i → PG xs ys S h as →
      codeAny (model prog w) A (.builtin "list.extend.loop" ⟨[.ref S, .ref z, res], []⟩) R { s with heap := h, toks := tk } := by
  obtain ⟨w1, w2, w3, w4⟩ := lw
  intro k
  induction k with
  | zero =>
    intro i h tk c acc as hk hi hst hkeep hS hacc hal hG
    have hin : i = n := by omega
    refine codeAny_builtin PySem.F.entry_extend_loop ?_
    rw [Around.under_plainId PySem.F.plain_extend_loop _]
    show wpAny _ A.in1 (pyNext (.ref z) >>= _) _ _ _
    refine wpAny_bind (zs_done (s := { s with heap := h, toks := tk }) (A := A.in1) hh D hst (hne.imp (fun e => Array.getElem?_eq_none (by omega)) fun e => Array.getElem?_eq_none (by omega)) fun h' he => ?_)
    refine wpAny_pure (hR h' tk acc c as (fun b o h1 h2 h3 h4 h5 e => he b o h2 h3 h4 h5 (hkeep b o h1 h2 h3 h4 h5 e)) (he S _ nS.1 nS.2.2.1 nS.2.2.2.1 nS.2.2.2.2.1 hS) (by omega) ⟨hG.rise, hG.above, fun j a hj => ?_⟩ hacc)
    obtain ⟨x, y, hx, hy, e3⟩ := hG.pairs j a hj
    have hb := hG.above a (List.mem_of_getElem? hj)
    exact ⟨x, y, hx, hy, he a _ (Nat.ne_of_gt (Nat.lt_trans w1 hb)) (Nat.ne_of_gt (Nat.lt_trans w2 hb)) (Nat.ne_of_gt (Nat.lt_trans w3 hb)) (Nat.ne_of_gt (Nat.lt_trans w4 hb)) e3⟩
  | succ k ih =>
    intro i h tk c acc as hk hi hst hkeep hS hacc hal hG
    have hin : i < n := by omega
    have hlt : i < xs.size := by omega
    have hlt2 : i < ys.size := by omega
    have hsz : acc.size = i := by rw [← Array.length_toList, hacc, List.length_map, hal]
    refine codeAny_builtin PySem.F.entry_extend_loop ?_
    rw [Around.under_plainId PySem.F.plain_extend_loop _]
    show wpAny _ A.in1 (pyNext (.ref z) >>= _) _ _ _
    refine wpAny_bind (zs_item (s := { s with heap := h, toks := tk }) (S := S) D hst (Heap.lt_size hS) (Array.getElem?_eq_getElem hlt) (Array.getElem?_eq_getElem hlt2) fun h' hst' ht hz hkp => ?_)
    dsimp only at ht hz hkp ⊢
    have hS' := hkp S _ nS.1 nS.2.2.1 nS.2.2.2.1 nS.2.2.2.2.1 hS
    have up : ∀ b o, b ≠ S → h'.get? b = some o → (h'.update S (Obj.mapSeq (·.push (Value.ref h.objs.size)))).get? b = some o := fun b o hb e => (Heap.get?_update_other _ _ (Ne.symm hb)).trans e
    have hSl : S < h.objs.size := Heap.lt_size hS
    show wpAny _ A.in1 (updateSeq S (·.push (Value.ref h.objs.size)) >>= _) _ _ _
    refine wpAny_bind ?_
    refine wpAny_updateSeq hS' rfl (wpAny_pure ⟨plainId_quiet PySem.F.plain_extend_loop _, ih (i + 1) _ tk _ (acc.push (Value.ref h.objs.size)) (as ++ [h.objs.size]) (by omega) hin (hst'.keep nS up)
      (fun b o h1 h2 h3 h4 h5 e => up b o h1 (hkp b o h2 h3 h4 h5 (hkeep b o h1 h2 h3 h4 h5 e))) (Heap.get?_update_self _ hS' rfl) (by rw [Array.toList_push, hacc, List.map_append]; rfl) (by rw [List.length_append, hal]; rfl) ⟨?_, ?_, ?_⟩⟩) (by rw [hsz]; omega) (by show (acc.push (Value.ref h.objs.size)).size ≤ sizeLine + 1; rw [Array.size_push, hsz]; omega)
    · refine List.pairwise_append.mpr ⟨hG.rise, List.pairwise_singleton _ _, fun a ha b hb => ?_⟩
      rw [List.mem_singleton.mp hb]
      exact hG.there ha
    · intro a ha
      rcases List.mem_append.mp ha with ha | ha
      · exact hG.above a ha
      · rw [List.mem_singleton.mp ha]; exact hSl
    · intro j b hj
      rcases Nat.lt_trichotomy j as.length with h1 | h1 | h1
      · rw [List.getElem?_append_left h1] at hj
        obtain ⟨x, y, hx, hy, e3⟩ := hG.pairs j b hj
        have hb := hG.above b (List.mem_of_getElem? hj)
        exact ⟨x, y, hx, hy, up b _ (Nat.ne_of_gt hb) (hkp b _ (Nat.ne_of_gt (Nat.lt_trans w1 hb)) (Nat.ne_of_gt (Nat.lt_trans w2 hb)) (Nat.ne_of_gt (Nat.lt_trans w3 hb)) (Nat.ne_of_gt (Nat.lt_trans w4 hb)) e3)⟩
      · subst h1
        have hb : h.objs.size = b := by simpa using hj
        subst hb
        subst hal
        exact ⟨_, _, Array.getElem?_eq_getElem hlt, Array.getElem?_eq_getElem hlt2, up _ _ (Nat.ne_of_gt hSl) ht⟩
      · have hnone : (as ++ [h.objs.size])[j]? = none := List.getElem?_eq_none (by rw [List.length_append, List.length_singleton]; omega)
        rw [hnone] at hj; cases hj
end
theorem zip_nolen : typeLookup (.type "zip") "__len__" = pure none := am_miss_of_fast (by decide +kernel)
theorem zip_nohint : typeLookup (.type "zip") "__length_hint__" = pure none := am_miss_of_fast (by decide +kernel)
section
variable {prog : Program} {w : World} {A : Around} {E : Value → Shared → Prop} {s : Shared} {R : Result → Shared → Prop} {S z TI TO i1 i2 l1 l2 : Addr} {xs ys : Array Value} {n : Nat}
theorem zs_extend (hh : A.handled = none) (D : ZipApart z TI TO i1 i2 l1 l2) (nS : S ≠ z ∧ S ≠ TI ∧ S ≠ TO ∧ S ≠ i1 ∧ S ≠ i2 ∧ S ≠ l1 ∧ S ≠ l2) (lw : z < S ∧ TO < S ∧ i1 < S ∧ i2 < S) (hn1 : n ≤ xs.size) (hn2 : n ≤ ys.size) (hne : n = xs.size ∨ n = ys.size) (hn : n ≤ sizeLine)
    (hz : IsZip s.heap z TI TO .none) (st : ZS s.heap S z TI TO i1 i2 l1 l2 xs ys 0) (res : Value) (c₀ : Nat) (hS : s.heap.get? S = some { cls := .type "list", data := .seq #[] c₀ })
    (hR : ∀ h' tk acc c as, (∀ b o, b ≠ S → b ≠ z → b ≠ TO → b ≠ i1 → b ≠ i2 → s.heap.get? b = some o → h'.get? b = some o) → h'.get? S = some { cls := .type "list", dict := none, data := .seq acc c, slots := #[] } → as.length = n → PG xs ys S h' as →
      acc.toList = as.map Value.ref → R (.ok (.ret res)) { s with heap := h', toks := tk }) :
    wpAny (model prog w) A.in1 (Builtin.List.listExtendWith (.ref S) (.ref z) res)
      (fun fin s' => match fin with | .done f => R (.ok f) s' | .again c' => c'.quiet = true ∧ codeAny (model prog w) A c' R s') (fun e s' => R (.error e) s') s := by
  have hT : s.TypeIs (.ref z) "zip" := ⟨_, hz, rfl⟩
  unfold Builtin.List.listExtendWith
  refine wpAny_bind (wpAny_typeOf hT ?_)
  have h1 : Builtin.List.listSameRef (.ref S) (.ref z) = false := by simp [Builtin.List.listSameRef, nS.1]
  have h2 : (Value.type "zip" == Value.type "list") = false := by decide
  have h3 : (Value.type "zip" == Value.type "tuple") = false := by decide
  simp only [h1, h2, h3, Bool.or_false, Bool.false_eq_true, if_false]
  refine wpAny_bind (wpAny_pyIter_zip hz ?_)
  refine wpAny_bind (wpAny_holding ?_)
  unfold Builtin.List.listLengthHint
  refine wpAny_bind (wpAny_specialOf hT zip_nolen ?_)
  show wpAny _ A.in1 (specialOf (Value.ref z) (Str.ofString "__length_hint__") >>= _) _ _ _
  refine wpAny_bind (wpAny_specialOf hT zip_nohint ?_)
  refine wpAny_pure ?_
  show wpAny _ A.in1 (rule "list.extend.makes-room" >>= fun _ => Builtin.List.listTouch (.ref S) >>= fun _ =>
    again (.builtin "list.extend.loop" ⟨[.ref S, .ref z, res], []⟩)) _ _ _
  refine wpAny_bind (wpAny_rule ?_)
  refine wpAny_bind ?_
  show wpAny _ A.in1 (updateSeq S (·.push .none) >>= fun _ => updateSeq S (·.pop)) _ _ _
  refine wpAny_bind (wpAny_updateSeq hS rfl ?_)
  have hS₂ := Heap.get?_update_self (Obj.mapSeq (·.push Value.none)) hS rfl
  refine wpAny_updateSeq (hz := by seq_fits) hS₂ rfl ?_
  have hS₃ := Heap.get?_update_self (Obj.mapSeq (·.pop)) hS₂ rfl
  have oth : ∀ b o, b ≠ S → s.heap.get? b = some o → ((s.heap.update S (Obj.mapSeq (·.push Value.none))).update S (Obj.mapSeq (·.pop))).get? b = some o :=
    fun b o hb e => (Heap.get?_update_other _ _ (Ne.symm hb)).trans ((Heap.get?_update_other _ _ (Ne.symm hb)).trans e)
  refine wpAny_pure ⟨plainId_quiet PySem.F.plain_extend_loop _, ?_⟩
  exact zs_loop (s := s) (h₁ := s.heap) hh D nS lw hn1 hn2 hne hn res hR n 0 _ s.toks _ #[] [] (Nat.sub_zero _) (Nat.zero_le _) (st.keep nS oth) (fun b o hb _ _ _ _ e => oth b o hb e) hS₃ rfl rfl
    ⟨List.Pairwise.nil, (fun _ ha => nomatch ha), (fun j a hj => by simp at hj)⟩
theorem zs_init (hh : A.handled = none) (D : ZipApart z TI TO i1 i2 l1 l2) (nS : S ≠ z ∧ S ≠ TI ∧ S ≠ TO ∧ S ≠ i1 ∧ S ≠ i2 ∧ S ≠ l1 ∧ S ≠ l2) (lw : z < S ∧ TO < S ∧ i1 < S ∧ i2 < S) (hn1 : n ≤ xs.size) (hn2 : n ≤ ys.size) (hne : n = xs.size ∨ n = ys.size) (hn : n ≤ sizeLine)
    (hz : IsZip s.heap z TI TO .none) (st : ZS s.heap S z TI TO i1 i2 l1 l2 xs ys 0) (hS : s.heap.get? S = some { cls := .type "list", data := .seq #[] })
    (hR : ∀ h' tk acc c as, (∀ b o, b ≠ S → b ≠ z → b ≠ TO → b ≠ i1 → b ≠ i2 → s.heap.get? b = some o → h'.get? b = some o) → h'.get? S = some { cls := .type "list", dict := none, data := .seq acc c, slots := #[] } → as.length = n → PG xs ys S h' as →
      acc.toList = as.map Value.ref → R (.ok (.ret .none)) { s with heap := h', toks := tk }) :
    wpAny (model prog w) A.in1 (Builtin.«list.__init__» ⟨[.ref S, .ref z], []⟩)
      (fun fin s' => match fin with | .done f => R (.ok f) s' | .again c' => c'.quiet = true ∧ codeAny (model prog w) A c' R s') (fun e s' => R (.error e) s') s := by
  show wpAny _ _ (do let old ← Builtin.List.listItems (.ref S); Builtin.List.listUpdate (.ref S) (fun _ => #[]); letGo old.toList.reverse; Builtin.List.listExtendWith (.ref S) (.ref z) .none) _ _ s
  refine wpAny_bind ?_
  unfold Builtin.List.listItems
  refine wpAny_bind (wpAny_seqItems hS rfl (wpAny_pure ?_))
  show wpAny _ _ (updateSeq S (fun _ => #[]) >>= fun _ => letGo (#[] : Array Value).toList.reverse >>= fun _ => Builtin.List.listExtendWith (.ref S) (.ref z) .none) _ _ s
  refine wpAny_bind (wpAny_updateSeq hS rfl ?_)
  have hS₂ := Heap.get?_update_self (Obj.mapSeq (fun _ => (#[] : Array Value))) hS rfl
  have oth : ∀ b o, b ≠ S → s.heap.get? b = some o → (s.heap.update S (Obj.mapSeq (fun _ => (#[] : Array Value)))).get? b = some o :=
    fun b o hb e => (Heap.get?_update_other _ _ (Ne.symm hb)).trans e
  refine wpAny_bind (wpAny_letGo ?_)
  refine zs_extend (n := n) hh D nS lw hn1 hn2 hne hn (oth z _ nS.1.symm hz) (st.keep nS oth) .none _ hS₂ (fun h' tk acc c as hk hS' hl hG hacc => ?_)
  exact hR h' tk acc c as (fun b o hb h1 h2 h3 h4 e => hk b o hb h1 h2 h3 h4 (oth b o hb e)) hS' hl hG hacc
theorem zs_call {Q : Value → Shared → Prop} (hh : A.handled = none) (D : ZipApart z TI TO i1 i2 l1 l2) (hn1 : n ≤ xs.size) (hn2 : n ≤ ys.size) (hne : n = xs.size ∨ n = ys.size) (hn : n ≤ sizeLine)
    (hz : IsZip s.heap z TI TO .none) (hTI : IsPair s.heap TI (.ref i1) (.ref i2)) {a b : Value} (hTO : IsPair s.heap TO a b) (h1 : s.heap.IsTupleIter i1 l1 0) (h2 : s.heap.IsTupleIter i2 l2 0) (hl1 : s.heap.IsTuple l1 xs) (hl2 : s.heap.IsTuple l2 ys)
    (hQ : ∀ h' tk acc c as, (∀ b o, b ≠ z → b ≠ TO → b ≠ i1 → b ≠ i2 → s.heap.get? b = some o → h'.get? b = some o) → h'.get? s.heap.objs.size = some { cls := .type "list", dict := none, data := .seq acc c, slots := #[] } → as.length = n → PG xs ys s.heap.objs.size h' as →
      acc.toList = as.map Value.ref → Q (.ref s.heap.objs.size) { s with heap := h', toks := tk }) :
    wpAny (model prog w) A (call (.type "list") [.ref z]) Q E s := by
  refine callType_codes (Q₁ := fun obj s₁ => obj = .ref s.heap.objs.size ∧ s₁ = { s with heap := s.heap.push { cls := .type "list", data := .seq #[] } }) PySem.F.called_list (PySem.F.typeCall_list_1 _) PySem.F.entry_list_init
    (code_list_new _ ⟨rfl, rfl⟩) fun obj s₁ h₁ => ?_
  obtain ⟨rfl, rfl⟩ := h₁
  have hS : (s.heap.push { cls := .type "list", data := .seq #[] }).get? s.heap.objs.size = some { cls := .type "list", data := .seq #[] } := Heap.get?_push_size _ rfl
  have up : ∀ c o, s.heap.get? c = some o → (s.heap.push { cls := .type "list", data := .seq #[] }).get? c = some o := fun c o e => Heap.get?_push_of_some _ e
  have L1 : z < s.heap.objs.size := Heap.lt_size hz
  have L2 : TI < s.heap.objs.size := Heap.lt_size hTI
  have L3 : TO < s.heap.objs.size := Heap.lt_size hTO
  have L4 : i1 < s.heap.objs.size := let ⟨_, e, _⟩ := h1; Heap.lt_size e
  have L5 : i2 < s.heap.objs.size := let ⟨_, e, _⟩ := h2; Heap.lt_size e
  have L6 : l1 < s.heap.objs.size := let ⟨_, e, _⟩ := hl1; Heap.lt_size e
  have L7 : l2 < s.heap.objs.size := let ⟨_, e, _⟩ := hl2; Heap.lt_size e
  refine ⟨⟨_, hS, rfl⟩, PySem.F.args_list_init_2 _ _, zs_init (n := n) (A := A.in1) hh D ⟨Nat.ne_of_gt L1, Nat.ne_of_gt L2, Nat.ne_of_gt L3, Nat.ne_of_gt L4, Nat.ne_of_gt L5, Nat.ne_of_gt L6, Nat.ne_of_gt L7⟩ ⟨L1, L3, L4, L5⟩ hn1 hn2 hne hn (up _ _ hz)
    ⟨up _ _ hTI, h1.at fun o e => up _ o e, h2.at fun o e => up _ o e, hl1.at fun o e => up _ o e, hl2.at fun o e => up _ o e, .inl ⟨up _ _ hz, a, b, up _ _ hTO⟩⟩ hS (fun h' tk acc c as hk hS' hl hG hacc => ?_)⟩
  exact ⟨rfl, hQ h' tk acc c as (fun b o c1 c2 c3 c4 e => hk b o (Nat.ne_of_lt (Heap.lt_size e)) c1 c2 c3 c4 (up b o e)) hS' hl hG hacc⟩
end
end ZpL
namespace ZpL
open PySem PySem.Spec PyProof.Rows L2 RZ
def putP : Hp → List Addr → List (V × V) → Hp
  | H, a :: as, q :: qs => upd (putP H as qs) a (.tup [q.1, q.2])
  | H, _, _ => H
theorem putP_off : ∀ (as : List Addr) (qs : List (V × V)) (H : Hp) {b : Addr}, b ∉ as → putP H as qs b = H b
  | [], _, _, _, _ => rfl
  | _ :: _, [], _, _, _ => rfl
  | a :: as, q :: qs, H, b, h => by
    simp only [List.mem_cons, not_or] at h
    rw [putP, upd_ne h.1, putP_off as qs H h.2]
theorem putP_at : ∀ (as : List Addr) (qs : List (V × V)) (H : Hp), as.Nodup → ∀ (j : Nat) (a : Addr) (q : V × V), as[j]? = some a → qs[j]? = some q → putP H as qs a = some (.tup [q.1, q.2])
  | [], _, _, _, j, a, q, h, _ => by simp at h
  | _ :: _, [], _, _, j, a, q, _, h => by simp at h
  | b :: as, r :: qs, H, nd, 0, a, q, h1, h2 => by
    simp at h1 h2
    subst h1
    subst h2
    rw [putP, upd_same]
  | b :: as, r :: qs, H, nd, j + 1, a, q, h1, h2 => by
    simp only [List.getElem?_cons_succ] at h1 h2
    obtain ⟨n1, n2⟩ := List.nodup_cons.mp nd
    have hne : a ≠ b := fun e => n1 (by rw [← e]; exact List.mem_of_getElem? h1)
    rw [putP, upd_ne hne, putP_at as qs H n2 j a q h1 h2]
section
variable {X : Cx}
theorem zip_laid {pins : List (Addr × Obj)} {σ : L2.St} {H : Hp} {s : Shared} {h' : Heap} {tk : Nat} {xs ys : List V} {us ws : List Value} {acc : Array Value} {c : Nat} {as : List Addr} {S : Addr} (I : Inv X pins σ H s) (rx : Vals xs us) (ry : Vals ys ws) (hn : as.length = min xs.length ys.length) (hz : as.length ≤ sizeLine) (hb : s.heap.objs.size ≤ S)
    (hk : ∀ b o, s.heap.get? b = some o → h'.get? b = some o) (hS : h'.get? S = some { cls := .type "list", dict := none, data := .seq acc c, slots := #[] }) (hG : PG us.toArray ws.toArray S h' as) (hacc : acc.toList = as.map Value.ref) :
    ∃ H' : Hp, (∀ b o, H b = some o → H' b = some o) ∧ H S = none ∧ H' S = some (.lst (as.map V.ref)) ∧ (∀ (j : Nat) (a : Addr) (q : V × V), as[j]? = some a → (xs.zip ys)[j]? = some q → H' a = some (.tup [q.1, q.2])) ∧ Inv X pins σ H' { s with heap := h', toks := tk } := by
  have hSn : S ∉ as := fun z => Nat.lt_irrefl _ (hG.above _ z)
  have nd : as.Nodup := List.Pairwise.imp (fun {a b} (h : a < b) => Nat.ne_of_lt h) hG.rise
  have new : ∀ t ∈ as, H t = none := fun t ht => I.hok.fresh (Nat.le_of_lt (Nat.lt_of_le_of_lt hb (hG.above t ht)))
  have newS : H S = none := I.hok.fresh hb
  have atP := putP_at as (xs.zip ys) (upd H S (.lst (as.map V.ref))) nd
  have off : ∀ b, b ∉ as → b ≠ S → putP (upd H S (.lst (as.map V.ref))) as (xs.zip ys) b = H b := fun b h1 h2 => by rw [putP_off as _ _ h1, upd_ne h2]
  have low : ∀ b o, s.heap.get? b = some o → b ∉ as ∧ b ≠ S := fun b o e => ⟨fun z => absurd (Heap.lt_size e) (Nat.not_lt.mpr (Nat.le_of_lt (Nat.lt_of_le_of_lt hb (hG.above b z)))), Nat.ne_of_lt (Nat.lt_of_lt_of_le (Heap.lt_size e) hb)⟩
  have kp : ∀ b u, H b = some u → (putP (upd H S (.lst (as.map V.ref))) as (xs.zip ys)) b = some u := fun b u e => by
    rw [off b (fun z => by rw [new b z] at e; cases e) (fun z => by rw [z, newS] at e; cases e)]
    exact e
  have eS : putP (upd H S (.lst (as.map V.ref))) as (xs.zip ys) S = some (.lst (as.map V.ref)) := by rw [putP_off as _ _ hSn, upd_same]
  refine ⟨putP (upd H S (.lst (as.map V.ref))) as (xs.zip ys), kp, newS, eS, atP, ?_⟩
  refine I.call' (ch := []) rfl ⟨fun b o q _ _ _ => hk b o q, fun b o q _ _ _ => ⟨o.slots, hk b o q⟩, fun b o q n _ => ?_, fun b o q _ => ⟨o, hk b o q⟩, fun b xs q => kp b _ q, fun b o u q => kp b _ q, fun b ps q => ⟨#[], by rw [kp b _ q]; simp⟩⟩ (fun b u q => ?_) I.bare fun b z => by simp at z
  · obtain ⟨z1, z2⟩ := low b o q
    rw [off b z1 z2]
    exact n
  · by_cases hb1 : b ∈ as
    · obtain ⟨j, e1⟩ := List.mem_iff_getElem?.mp hb1
      obtain ⟨x, y, f1, f2, f3⟩ := hG.pairs j b e1
      have hj : j < as.length := (List.getElem?_eq_some_iff.mp e1).1
      have hjx : j < xs.length := by omega
      have hjy : j < ys.length := by omega
      have ez : (xs.zip ys)[j]? = some (xs[j], ys[j]) := by
        rw [List.getElem?_zip_eq_some]
        exact ⟨List.getElem?_eq_getElem hjx, List.getElem?_eq_getElem hjy⟩
      rw [atP j b _ e1 ez] at q
      cases q
      obtain ⟨u, hu, ru⟩ := rx.get (List.getElem?_eq_getElem hjx)
      obtain ⟨v, hv, rv⟩ := ry.get (List.getElem?_eq_getElem hjy)
      have f1' : us[j]? = some x := by simpa using f1
      have f2' : ws[j]? = some y := by simpa using f2
      rw [hu] at f1'
      rw [hv] at f2'
      cases f1'
      cases f2'
      exact ⟨by show 2 ≤ sizeLine; decide, [_, _], .cons ru (.cons rv .nil), ⟨_, f3, rfl, _, rfl⟩⟩
    · by_cases hb2 : b = S
      · rw [hb2] at q ⊢
        rw [eS] at q
        cases q
        refine ⟨by rw [List.length_map]; exact hz, acc.toList, c, by rw [hacc]; exact LiI.vals_refs as, ?_⟩
        rw [Array.toArray_toList]
        exact hS
      · rw [off b hb1 hb2] at q
        exact (I.hok b u q).stay (fun d v _ y => hk d v y) (fun d y => kp d _ y) fun d xs y => kp d _ y
def tListZip (K : PySem.W.Frag) (ta : TA) : TE := fun σ H Q => ta σ H fun vs H1 => ∃ a b xs ys, vs = [.ref a, .ref b] ∧ SqT K H1 a xs ∧ SqT K H1 b ys ∧
  ∀ (H' : Hp) (S : Addr) (as : List Addr), (∀ b o, H1 b = some o → H' b = some o) → H1 S = none → as.length = min xs.length ys.length → H' S = some (.lst (as.map V.ref)) → (∀ (j : Nat) (a : Addr) (q : V × V), as[j]? = some a → (xs.zip ys)[j]? = some q → H' a = some (.tup [q.1, q.2])) → Q (.ref S) H'
theorem pe_listZip {e e2 : Expr} {ta : TA} {p p2 pos pos2 : Pos} (hc : X.calm = true) (hgl : Gl X "list") (hml : X.mg "list" = none) (hv : bootBuiltins "list" = some (.type "list")) (hg : Gl X "zip") (hm : X.mg "zip" = none) (ha : PA X [e, e2] ta)
    (hs : starEach [e, e2] X.env = (false, eval e X.env) :: starEach [e2] X.env := by rfl) (hpl : (backTo pos2 (starEach [e2] X.env)).any (·.1) = false := by rfl)
    (hs1 : starEach [.Call (.Name "zip" p2) [e, e2] [] pos2] X.env = (false, eval (.Call (.Name "zip" p2) [e, e2] [] pos2) X.env) :: starEach [] X.env := by rfl) :
    PE X (.Call (.Name "list" p) [.Call (.Name "zip" p2) [e, e2] [] pos2] [] pos) (tListZip X.K ta) := by
  refine ⟨fun pins s σ H Q I h => ?_⟩
  refine wpAny_Call_Name_kw (ld_blt I hgl hml hv ?_)
  refine PyProof.Rows.callWith_type1 ?_ hs1 rfl
  rw [hs1]
  show wpAny _ _ (spliced ((false, eval (.Call (.Name "zip" p2) [e, e2] [] pos2) X.env) :: backTo pos (starEach [] X.env))) _ _ s
  refine Calls.spliced_cons ?_
  refine wpAny_Call_Name_kw (ld_blt I hg hm PyProof.Rows.boot_zip (PyProof.Rows.callWith_type1 (thn (ha.run pos2 pins s σ H _ I h) fun us s1 ⟨vs, H1, I1, r1, q1⟩ => ?_) hs hpl))
  obtain ⟨a, b, xs, ys, ex, hqx, hqy, q⟩ := q1
  subst ex
  cases r1 with
  | cons r rr =>
    cases rr with
    | cons r' rr =>
      cases rr
      cases r
      cases r'
      obtain ⟨its, rv, p1, hz1⟩ := I1.tuple hqx
      obtain ⟨its2, rv2, p3, hz2⟩ := I1.tuple hqy
      obtain ⟨o1, ho1, _⟩ := id p1
      obtain ⟨o2, ho2, _⟩ := id p3
      refine call_zipT (show s1.heap.IsTuple a its.toArray from p1) (show s1.heap.IsTuple b its2.toArray from p3) fun h' hz hTI hTO h1 h2 hsz hk => ?_
      refine Calls.spliced_nil ?_
      have lx := rv.length
      have ly := rv2.length
      refine zs_call (s := { s1 with heap := h' }) (n := min its.length its2.length) (I1.ok.hd hc) (PySem.W.ktu_apart s1.heap.objs.size a b (Heap.lt_size ho1) (Heap.lt_size ho2)) (xs := its.toArray) (ys := its2.toArray) (by simp; omega) (by simp; omega) (by simp; omega) (by omega) hz hTI hTO h1 h2 ((show s1.heap.IsTuple a its.toArray from p1).at fun o e => hk _ o e) ((show s1.heap.IsTuple b its2.toArray from p3).at fun o e => hk _ o e) fun h'' tk acc c as hk2 hS hl hG hacc => ?_
      have hk3 : ∀ b o, s1.heap.get? b = some o → h''.get? b = some o := fun b o e => by
        have := Heap.lt_size e
        have lt : ∀ k, b ≠ s1.heap.objs.size + k := fun k => Nat.ne_of_lt (Nat.lt_of_lt_of_le this (Nat.le_add_right _ _))
        exact hk2 b o (lt 4) (lt 3) (lt 0) (lt 1) (hk b o e)
      obtain ⟨H', k1, k2, k3, k4, J⟩ := zip_laid (tk := tk) I1 rv rv2 (by omega) (by omega) (by show s1.heap.objs.size ≤ h'.objs.size; omega) hk3 hS hG hacc
      exact ⟨.ref _, H', J, rfl, q H' _ as k1 k2 (by omega) k3 k4⟩
end
end ZpL
namespace Nz
open PySem L2 PyProof.Rows
section
variable {K : PySem.W.Frag} {F : Nm} {μ : Mu} {H H' : Hp} {st : Store}
/-- new objects that are not of the store -/
theorem Post.grow (s : Sto K F μ st H) (k : ∀ b u, H b = some u → H' b = some u) : Post K F μ H st μ H' := by
  have kt : ∀ a xs, H a = some (.tup xs) → H' a = some (.tup xs) := fun a xs h => k a _ h
  have kf : ∀ a o w, H a = some (.frz o w) → H' a = some (.frz o w) := fun a o w h => k a _ h
  refine ⟨List.prefix_refl _, fun a o h _ => k a o h, fun a h n => absurd h n, ⟨s.len, fun l o a h1 h2 => ?_, fun l o a h1 h2 => (s.atk l o a h1 h2).keep (List.prefix_refl _) kt kf, s.inj⟩⟩
  have r := s.at_ l o a h1 h2
  obtain ⟨w, hw⟩ := r.some_
  exact r.keep (List.prefix_refl _) kt kf (by rw [hw]; exact k a w hw)
theorem lz_rps : ∀ {ds es : List D} {xs ys : List V} {as : List Addr}, Rps K μ H ds xs → Rps K μ H es ys → as.length = min xs.length ys.length → (∀ (j : Nat) (a : Addr) (q : V × V), as[j]? = some a → (xs.zip ys)[j]? = some q → H a = some (.tup [q.1, q.2])) → Rps K μ H (pairs (fun x y => .tup [x, y]) ds es) (as.map V.ref)
  | [], _, _, _, as, .nil, _, hl, _ => by
    have : as = [] := List.eq_nil_of_length_eq_zero (by simpa using hl)
    subst this
    simp only [pairs]
    exact .nil
  | _ :: _, [], _, _, as, .cons _ _, .nil, hl, _ => by
    have : as = [] := List.eq_nil_of_length_eq_zero (by simpa using hl)
    subst this
    simp only [pairs]
    exact .nil
  | d :: ds, e :: es, x :: xs, y :: ys, as, .cons h1 t1, .cons h2 t2, hl, h => by
    match as, hl, h with
    | [], hl, _ => simp at hl
    | a :: as, hl, h =>
      simp only [pairs, List.map_cons]
      refine .cons (.tup (h 0 a (x, y) rfl rfl) (.cons h1 (.cons h2 .nil))) ?_
      exact lz_rps t1 t2 (by simp at hl; omega) fun j b q e1 e2 => h (j + 1) b q (by simpa using e1) (by simpa using e2)
end
section
variable {X : Cx} {F : Nm} {T : Tab} {G : Ctx} {call : Nat → List D → Store → R D}
theorem asZip_ok {x : Str} {as : List Expr} {a b : Expr} (h : asZip x as = some (a, b)) : x = "list" ∧ ∃ p2 pos2, as = [.Call (.Name "zip" p2) [a, b] [] pos2] := by
  unfold asZip at h
  split at h
  · rename_i hx
    refine ⟨hx, ?_⟩
    split at h
    · rename_i y p2 a' b' pos2
      split at h
      · rename_i hy
        cases h
        exact ⟨p2, pos2, by rw [hy]⟩
      · cases h
    · cases h
  · cases h
theorem lzE (o : Ok X F T G call) {a b : Expr} {k : Env → Store → R (List D)} {p p2 pos pos2 : Pos} (hgl : Gl X "list") (hml : X.mg "list" = none) (hg : Gl X "zip") (hm : X.mg "zip" = none) (hA : PA X [a, b] (tAs X.K F k)) (hs : noStar [a, b]) :
    PE X (.Call (.Name "list" p) [.Call (.Name "zip" p2) [a, b] [] pos2] [] pos) (tE X.K F fun ρ st => (k ρ st).bind fun ds s => lzR ds s) := by
  refine ⟨fun pins s σ H Q I w => ?_⟩
  have hs2 : noStar [b] := fun e he => hs e (List.mem_cons_of_mem _ he)
  refine (ZpL.pe_listZip o.calm hgl hml boot_list hg hm hA (star_cons (hs a (List.mem_cons_self ..))) hs2.any (star_cons rfl)).run pins s σ H Q I ?_
  obtain ⟨μ, ρ, st, S, w⟩ := w
  refine ⟨μ, ρ, st, S, w.bind.mono fun ds s μ1 H1 P1 w1 vs rs => ?_⟩
  match ds, rs, w1 with
  | [.tup ds, .tup es], .cons r1 (.cons r2 .nil), w1 =>
    cases r1 with
    | @tup _ a1 xs h1 q1 =>
      cases r2 with
      | @tup _ a2 ys h2 q2 =>
        refine ⟨a1, a2, xs, ys, rfl, .inl (.inl h1), .inl (.inl h2), fun H' L as k1 k2 k3 k4 k5 => ?_⟩
        obtain ⟨_, w2⟩ := (show WP X.K F μ1 H1 (newL (pairs (fun x y => .tup [x, y]) ds es) s) (VQ X.K Q) from w1).grd
        have PG := Post.grow P1.sto k1
        have PA := Post.adopt PG k2 (P1.sto.free k2) (o := .lst (pairs (fun x y => .tup [x, y]) ds es)) ⟨as.map V.ref, k4, ((lz_rps (q1.post PG) (q2.post PG) k3 k5).mono (List.prefix_append _ _) (fun _ _ h => h) (fun _ _ _ h => h))⟩
        refine w2 _ _ PA _ (.ref (b := false) ?_)
        rw [← P1.sto.len]
        simp
  | [], _, w1 => exact w1.elim
  | [_], _, w1 => exact (by cases ‹D› <;> exact w1.elim)
  | _ :: _ :: _ :: _, _, w1 => exact (by first | exact w1.elim | (simp only [lzR] at w1; exact w1.elim))
  | [.non, _], _, w1 => exact w1.elim
  | [.bl _, _], _, w1 => exact w1.elim
  | [.int _, _], _, w1 => exact w1.elim
  | [.str _, _], _, w1 => exact w1.elim
  | [.wt _, _], _, w1 => exact w1.elim
  | [.ref _, _], _, w1 => exact w1.elim
  | [.tup _, .non], _, w1 => exact w1.elim
  | [.tup _, .bl _], _, w1 => exact w1.elim
  | [.tup _, .int _], _, w1 => exact w1.elim
  | [.tup _, .str _], _, w1 => exact w1.elim
  | [.tup _, .wt _], _, w1 => exact w1.elim
  | [.tup _, .ref _], _, w1 => exact w1.elim
end
end Nz
namespace Nz
open PySem L2 PyProof.Rows
section
variable {F : Nm} {T : Tab} {G : Ctx} {call : Nat → List D → Store → R D} {n : Nat}
theorem s_cmp (A : AllE F T G call n) {X : Cx} {a : Expr} {ops : List CmpOp} {bs : List Expr} {pos : Pos} {E : Nz.E} (o : Ok X F T G call) (h : trE T (n + 1) X.env.scope (.Compare a ops bs pos) = some E) :
    PE X (.Compare a ops bs pos) (tE X.K F (ev G call E)) ∧ PT X (.Compare a ops bs pos) (tCo X.K F fun ρ st => (ev G call E ρ st).bind fun d s => R.asB d s) := by
  simp only [trE] at h
  split at h
  · rename_i op b
    split at h
    · cases h
    rename_i hs
    have hs : isSet b = false := by simpa using hs
    cases q : trE T n X.env.scope a with
    | none => rw [q] at h; cases h
    | some E1 =>
      cases q' : trE T n X.env.scope b with
      | none => rw [q, q'] at h; cases h
      | some E2 =>
        rw [q, q'] at h; cases h
        exact ⟨cmpE o.hu (A.e o q) (A.e o q') (setBehind hs), cmpT o.hu (A.e o q) (A.e o q') (setBehind hs)⟩
  · rename_i op op' b c
    split at h
    · cases h
    rename_i hs
    have hs : isSet c = false := by simpa using hs
    cases q : trE T n X.env.scope a with
    | none => rw [q] at h; cases h
    | some E1 =>
      cases q' : trE T n X.env.scope b with
      | none => rw [q, q'] at h; cases h
      | some E2 =>
        cases q'' : trE T n X.env.scope c with
        | none => rw [q, q', q''] at h; cases h
        | some E3 =>
          rw [q, q', q''] at h; cases h
          exact ⟨chnE o.hu (A.e o q) (A.e o q') (A.e o q'') (setBehind hs), chnT o.hu (A.e o q) (A.e o q') (A.e o q'') (setBehind hs)⟩
  · cases h
theorem s_call (A : AllE F T G call n) {X : Cx} {f : Expr} {as : List Expr} {kws : List Keyword} {pos : Pos} {E : Nz.E} (o : Ok X F T G call) (h : trE T (n + 1) X.env.scope (.Call f as kws pos) = some E) : PE X (.Call f as kws pos) (tE X.K F (ev G call E)) := by
  simp only [trE] at h
  split at h
  · rename_i x p
    cases qk : T.kfs.lookup x with
    | some r =>
      obtain ⟨i, kn, dd⟩ := r
      simp only [qk] at h
      split at h
      · rename_i hg
        simp only [Bool.and_eq_true, Bool.not_eq_true'] at hg
        obtain ⟨hgl, hd⟩ := isGl_ok hg.1
        cases as with
        | nil => simp at hg
        | cons a as =>
          cases q : trEs T n X.env.scope (a :: as) with
          | none => rw [q] at h; cases h
          | some E1 =>
            simp only [q] at h
            obtain ⟨h1, h2, h3⟩ := A.es o q
            split at h
            · cases dd with
              | none => cases h
              | some d =>
                cases h
                refine impE (kwE0 o qk hgl hd h1 (star_cons (h2 a (List.mem_cons_self ..))) (noStar.any fun e he => h2 e (List.mem_cons_of_mem _ he))) fun σ H Q w => ?_
                obtain ⟨μ, ρ, st, S, w⟩ := w
                refine ⟨μ, ρ, st, S, ?_⟩
                rw [ev, evs_snoc] at w
                simpa only [ev, R.bind_ok] using w
            · rename_i nm b kp
              split at h
              · rename_i hn
                subst hn
                cases q2 : trE T n X.env.scope b with
                | none => rw [q2] at h; cases h
                | some E2 =>
                  rw [q2] at h; cases h
                  refine impE (kwE o qk hgl hd h1 (A.e o q2) (star_cons (h2 a (List.mem_cons_self ..))) (noStar.any h2)) fun σ H Q w => ?_
                  obtain ⟨μ, ρ, st, S, w⟩ := w
                  refine ⟨μ, ρ, st, S, ?_⟩
                  rw [ev, evs_snoc] at w
                  exact w
              · cases h
            · cases h
      · cases h
    | none =>
    simp only [qk] at h
    split at h
    · split at h
      · rename_i hg
        obtain ⟨hgl, hd⟩ := isGl_ok hg
        cases qf : T.fns.lookup x with
        | some i =>
          simp only [qf] at h
          cases q : trEs T n X.env.scope as with
          | none => rw [q] at h; cases h
          | some E1 =>
            rw [q] at h; cases h
            obtain ⟨h1, h2, h3⟩ := A.es o q
            cases as with
            | nil =>
              cases h3 rfl
              exact callE0 o qf hgl hd
            | cons a r => exact callE o qf hgl hd h1 (star_cons (h2 a (List.mem_cons_self ..))) (noStar.any fun e he => h2 e (List.mem_cons_of_mem _ he))
        | none =>
          simp only [qf] at h
          cases qc : T.cls.lookup x with
          | some c =>
            simp only [qc] at h
            cases q : trEs T n X.env.scope as with
            | none => rw [q] at h; cases h
            | some E1 =>
              rw [q] at h; cases h
              obtain ⟨h1, h2, h3⟩ := A.es o q
              cases qi : G.init[c]? with
              | none =>
                refine impE (t := fun _ _ _ => False) ⟨fun _ _ _ _ _ _ w => w.elim⟩ fun σ H Q w => ?_
                obtain ⟨μ, ρ, st, S, w⟩ := w
                have w : WP X.K F μ H ((evs G call E1 ρ st).bind fun ds s => mkR G call c ds s) (VQ X.K Q) := w
                cases qe : evs G call E1 ρ st with
                | no => rw [qe] at w; exact w
                | ok ds s => rw [qe] at w; unfold mkR at w; simp only [qi, R.bind_ok] at w; exact w
              | some oi =>
                cases oi with
                | none =>
                  refine impE (t := fun _ _ _ => False) ⟨fun _ _ _ _ _ _ w => w.elim⟩ fun σ H Q w => ?_
                  obtain ⟨μ, ρ, st, S, w⟩ := w
                  have w : WP X.K F μ H ((evs G call E1 ρ st).bind fun ds s => mkR G call c ds s) (VQ X.K Q) := w
                  cases qe : evs G call E1 ρ st with
                  | no => rw [qe] at w; exact w
                  | ok ds s => rw [qe] at w; unfold mkR at w; simp only [qi, R.bind_ok] at w; exact w
                | some i =>
                  cases as with
                  | nil =>
                    cases h3 rfl
                    exact mkE0 o qc qi hgl hd
                  | cons a r => exact mkE o qc qi hgl hd h1 (star_cons (h2 a (List.mem_cons_self ..))) (noStar.any fun e he => h2 e (List.mem_cons_of_mem _ he))
          | none =>
            simp only [qc] at h
            split at h
            · rename_i hf
              split at h
              · rename_i b c qz
                split at h
                · rename_i hz
                  cases q' : trEs T n X.env.scope [b, c] with
                  | none => rw [q'] at h; cases h
                  | some E2 =>
                    rw [q'] at h; cases h
                    obtain ⟨h1, h2, _⟩ := A.es o q'
                    obtain ⟨rfl, p2, pos2, rfl⟩ := asZip_ok qz
                    obtain ⟨g1, _, g3⟩ := isFree_ok o hf
                    obtain ⟨z1, _, z3⟩ := isFree_ok o hz
                    exact lzE o g1 g3 z1 z3 h1 h2
                · cases h
              · exact A.bi o hf h
            · cases h
      · cases h
    · cases h
  · rename_i a m ap
    split at h
    · split at h
      · cases h
      rename_i hs
      have hs : isCall a = false ∧ (ap.endLine == pos.line) = true ∧ as.length < 20 := by
        simpa [Bool.or_eq_true, not_or, and_assoc] using hs
      obtain ⟨s1, s2, s3⟩ := hs
      cases q : trE T n X.env.scope a with
      | none => rw [q] at h; cases h
      | some E1 =>
        simp only [q] at h
        cases qm : ixOf m T.mth with
        | some i =>
          simp only [qm] at h
          have hm := ixOf_ok qm
          cases qst : T.sts.contains m with
          | false =>
            rw [qst] at h
            simp only [Bool.false_eq_true, if_false] at h
            cases q' : trEs T n X.env.scope as with
            | none => rw [q'] at h; cases h
            | some E2 =>
              rw [q'] at h; cases h
              obtain ⟨h1, h2, h3⟩ := A.es o q'
              cases as with
              | nil =>
                cases h3 rfl
                exact methE0 o hm qst (A.e o q) s1 s2
              | cons b r => exact methE o hm qst (A.e o q) s1 s2 h1 h2 s3
          | true =>
            rw [qst] at h
            simp only [if_true] at h
            split at h
            · cases h
            · rename_i b ps
              cases q' : trE T n X.env.scope b with
              | none => rw [q'] at h; cases h
              | some E2 =>
                rw [q'] at h; cases h
                exact methS1 o hm qst (A.e o q) s1 (A.e o q')
            · rename_i b r _
              cases q' : trEs T n X.env.scope (b :: r) with
              | none => rw [q'] at h; cases h
              | some E2 =>
                rw [q'] at h; cases h
                obtain ⟨h1, h2, h3⟩ := A.es o q'
                exact methS o hm qst (A.e o q) s1 s2 h1 h2 s3
        | none =>
          simp only [qm] at h
          split at h
          · rename_i hx
            subst hx
            split at h
            · rename_i b
              split at h
              · cases h
              rename_i hs
              have hs : isStar b = false := by simpa using hs
              cases q' : trE T n X.env.scope b with
              | none => rw [q'] at h; cases h
              | some E2 => rw [q'] at h; cases h; exact appE (A.e o q) (A.e o q') (base_ok s1) s2 (star_one hs)
            · cases h
          · split at h
            · rename_i hx
              subst hx
              split at h
              · rename_i b c
                split at h
                · cases h
                rename_i hs
                have hs : isStar b = false ∧ isStar c = false := by simpa using hs
                cases q' : trE T n X.env.scope b with
                | none => rw [q'] at h; cases h
                | some E2 =>
                  cases q2 : trE T n X.env.scope c with
                  | none => rw [q', q2] at h; cases h
                  | some E3 => rw [q', q2] at h; cases h; exact dgetE o.hu (A.e o q) (A.e o q') (A.e o q2) s1 hs.1 hs.2 s2
              · cases h
            split at h
            · rename_i hx
              subst hx
              split at h
              · rename_i b
                split at h
                · cases h
                rename_i hs
                have hs : isStar b = false := by simpa using hs
                cases q' : trE T n X.env.scope b with
                | none => rw [q'] at h; cases h
                | some E2 =>
                  rw [q'] at h; cases h
                  refine impE (cntE (A.e o q) (A.e o q') (base_ok s1) s2 (star_one hs)) fun σ H Q ⟨μ, ρ, st, S, w⟩ => ⟨μ, ρ, st, S, by rw [ev] at w; exact w⟩
              · cases h
            split at h
            · rename_i hx
              subst hx
              split at h
              · rename_i b
                split at h
                · cases h
                rename_i hs
                have hs : isStar b = false := by simpa using hs
                cases q' : trE T n X.env.scope b with
                | none => rw [q'] at h; cases h
                | some E2 =>
                  rw [q'] at h; cases h
                  refine impE (popiE (A.e o q) (A.e o q') (base_ok s1) s2 (star_one hs)) fun σ H Q ⟨μ, ρ, st, S, w⟩ => ⟨μ, ρ, st, S, by rw [ev] at w; exact w⟩
              · cases h
            split at h
            · rename_i k hk
              cases q' : trEs T n X.env.scope as with
              | none => rw [q'] at h; cases h
              | some E2 =>
                rw [q'] at h
                obtain ⟨h1, h2, h3⟩ := A.es o q'
                cases as with
                | nil => cases h
                | cons b r =>
                  cases h
                  refine impE (lmE hk (A.e o q) h1 (base_ok s1) s2 (star_cons (h2 b (List.mem_cons_self ..))) h2 s3) fun σ H Q ⟨μ, ρ, st, S, w⟩ => ⟨μ, ρ, st, S, by rw [ev] at w; exact w⟩
            split at h
            · rename_i hb
              rw [Bool.and_eq_true, decide_eq_true_eq, List.isEmpty_iff] at hb
              obtain ⟨hb, rfl⟩ := hb
              subst hb
              cases h
              exact bitsE (A.e o q) (base_ok s1) s2
            · cases h
    · cases h
  · cases h
theorem s_comp (A : AllE F T G call n) {X : Cx} {elt : Expr} {gs : List Comprehension} {scope : Scope} {pos : Pos} {E : Nz.E} (o : Ok X F T G call) (hg1 : gs.length ≤ 1) (h : trE T (n + 1) X.env.scope (.ListComp elt gs scope pos) = some E) :
    ∃ tg it ifs, gs = [⟨tg, it, ifs, 0⟩] ∧ isSet it = false ∧ ∃ (own : List (Str × Nat)) (t : Nz.T) (i : Nz.Iw) (e : Nz.E) (c : Nz.Oc), E = wrapC i (.comp (own.map (·.2)) e t i c) ∧ (itmOf it = none ∧ isKey T it = false → ∀ E', wrapC i E' = E') ∧ (∀ j ∈ t.slots, j ∈ own.map (·.2)) ∧ BlkOk X.N X.env.scope scope own ∧ PI X tg it (tIt X.K F (evi G call i)) ∧
      (∀ (s : Shared) (H : Hp) (C : Addr) (cl : List (Str × Addr)) (fp : List Addr), PG (X.blk s H scope (compEnvC scope cl C X.env) fp) tg (gT X.K F t)) ∧
      (∀ (s : Shared) (H : Hp) (C : Addr) (cl : List (Str × Addr)) (fp : List Addr), PTs (X.blk s H scope (compEnvC scope cl C X.env) fp) ifs (tCo X.K F (evOc G call c))) ∧
      (∀ (s : Shared) (H : Hp) (C : Addr) (cl : List (Str × Addr)) (fp : List Addr), PE (X.blk s H scope (compEnvC scope cl C X.env) fp) elt (tE X.K F (ev G call e))) := by
  cases gs with
  | nil => simp only [trE, reduceCtorEq] at h
  | cons g gs =>
  obtain ⟨tg, it, ifs, as⟩ := g
  cases gs with
  | cons _ _ => simp at hg1
  | nil =>
    simp only [trE] at h
    split at h
    · cases h
    rename_i hs
    have hs0 : as = 0 ∧ isSet it = false := by simpa using hs
    obtain ⟨has, hs1⟩ := hs0
    subst has
    cases qo : trOwn T scope.names with
    | none => rw [qo] at h; cases h
    | some own =>
      simp only [qo] at h
      split at h
      · rename_i hb
        have hB : BlkOk X.N X.env.scope scope own := by rw [o.hN]; exact blk_ok hb
        cases q1 : trI T n X.env.scope (isTup tg) it with
        | none => simp only [q1] at h; cases h
        | some i =>
          cases q2 : trT T scope n tg with
          | none => simp only [q1, q2] at h; cases h
          | some t =>
            cases q3 : trE T n (relS scope X.env.scope) elt with
            | none => simp only [q1, q2, q3] at h; cases h
            | some e =>
              simp only [q1, q2, q3] at h
              split at h
              · rename_i hsl
                have hsl : ∀ j ∈ t.slots, j ∈ own.map (·.2) := fun j hj => by
                  have := List.all_eq_true.mp hsl j hj
                  simpa using this
                have pg : ∀ (s : Shared) (H : Hp) (C : Addr) (cl : List (Str × Addr)) (fp : List Addr), PG (X.blk s H scope (compEnvC scope cl C X.env) fp) tg (gT X.K F t) := fun s H C cl fp =>
                  trT_ok (X := X.blk s H scope (compEnvC scope cl C X.env) fp) o.hN o.nd o.calm fnLoc_blk n q2
                have pe : ∀ (s : Shared) (H : Hp) (C : Addr) (cl : List (Str × Addr)) (fp : List Addr), PE (X.blk s H scope (compEnvC scope cl C X.env) fp) elt (tE X.K F (ev G call e)) := fun s H C cl fp =>
                  A.e (X := X.blk s H scope (compEnvC scope cl C X.env) fp) (o.blk _ _ _ _ _) q3
                cases ifs with
                | nil =>
                  simp only [Option.some.injEq] at h
                  exact ⟨tg, it, [], rfl, hs1, own, t, i, e, .none, h.symm, trI_no q1, hsl, hB, (A.i o id q1).1, pg, fun s H C cl fp => ⟨fun pins s2 σ H2 Q I w => (pts_nil (X := X.blk s H scope (compEnvC scope cl C X.env) fp)).run pins s2 σ H2 Q I (by
                    obtain ⟨μ, ρ, st, S, w⟩ := w
                    exact WP.ok (Φ := fun b _ _ H' => Q b H') S.sto w)⟩, pe⟩
                | cons c ifs =>
                  cases ifs with
                  | nil =>
                    cases q4 : trC T n (relS scope X.env.scope) c with
                    | none => simp only [q4] at h; cases h
                    | some C =>
                      simp only [q4, Option.some.injEq] at h
                      exact ⟨tg, it, [c], rfl, hs1, own, t, i, e, .some C, h.symm, trI_no q1, hsl, hB, (A.i o id q1).1, pg, fun s H Ca cl fp => pts_one (A.c (X := X.blk s H scope (compEnvC scope cl Ca X.env) fp) (o.blk _ _ _ _ _) q4), pe⟩
                  | cons _ _ => simp only [reduceCtorEq] at h
              · cases h
      · cases h
theorem s_dcmp (A : AllE F T G call n) {X : Cx} {kx vx : Expr} {gs : List Comprehension} {scope : Scope} {pos : Pos} {E : Nz.E} (o : Ok X F T G call) (h : trE T (n + 1) X.env.scope (.DictComp kx vx gs scope pos) = some E) : PE X (.DictComp kx vx gs scope pos) (tE X.K F (ev G call E)) := by
  cases gs with
  | nil => simp only [trE, reduceCtorEq] at h
  | cons g gs =>
  obtain ⟨tg, it, ifs, as⟩ := g
  cases gs with
  | cons _ _ => simp only [trE, reduceCtorEq] at h
  | nil =>
    simp only [trE] at h
    split at h
    · cases h
    rename_i hs
    have hs0 : as = 0 ∧ isSet it = false := by simpa using hs
    obtain ⟨has, hs1⟩ := hs0
    subst has
    cases qo : trOwn T scope.names with
    | none => rw [qo] at h; cases h
    | some own =>
      simp only [qo] at h
      split at h
      · rename_i hb
        have hB : BlkOk X.N X.env.scope scope own := by rw [o.hN]; exact blk_ok hb
        cases q1 : trI T n X.env.scope (isTup tg) it with
        | none => simp only [q1] at h; cases h
        | some i =>
          cases q2 : trT T scope n tg with
          | none => simp only [q1, q2] at h; cases h
          | some t =>
            cases q3 : trE T n (relS scope X.env.scope) kx with
            | none => simp only [q1, q2, q3] at h; cases h
            | some k =>
              cases q5 : trE T n (relS scope X.env.scope) vx with
              | none => simp only [q1, q2, q3, q5] at h; cases h
              | some v =>
                simp only [q1, q2, q3, q5] at h
                split at h
                · rename_i hsl
                  have hsl : ∀ j ∈ t.slots, j ∈ own.map (·.2) := fun j hj => by
                    have := List.all_eq_true.mp hsl j hj
                    simpa using this
                  have pg : ∀ (s : Shared) (H : Hp) (C : Addr) (cl : List (Str × Addr)) (fp : List Addr), PG (X.blk s H scope (compEnvC scope cl C X.env) fp) tg (gT X.K F t) := fun s H C cl fp =>
                    trT_ok (X := X.blk s H scope (compEnvC scope cl C X.env) fp) o.hN o.nd o.calm fnLoc_blk n q2
                  have pk : ∀ (s : Shared) (H : Hp) (C : Addr) (cl : List (Str × Addr)) (fp : List Addr), PE (X.blk s H scope (compEnvC scope cl C X.env) fp) kx (tE X.K F (ev G call k)) := fun s H C cl fp =>
                    A.e (X := X.blk s H scope (compEnvC scope cl C X.env) fp) (o.blk _ _ _ _ _) q3
                  have pv : ∀ (s : Shared) (H : Hp) (C : Addr) (cl : List (Str × Addr)) (fp : List Addr), PE (X.blk s H scope (compEnvC scope cl C X.env) fp) vx (tE X.K F (ev G call v)) := fun s H C cl fp =>
                    A.e (X := X.blk s H scope (compEnvC scope cl C X.env) fp) (o.blk _ _ _ _ _) q5
                  cases ifs with
                  | nil =>
                    simp only [Option.some.injEq] at h
                    subst h
                    refine wrapE <| impE (peDk (T.dts.contains (pos.line, pos.col)) (tt := tCo X.K F (evOc G call .none)) o.hu o.calm o.nd (A.i o id q1).1 hB pg (fun s H C cl fp => ⟨fun pins s2 σ H2 Q I w => (pts_nil (X := X.blk s H scope (compEnvC scope cl C X.env) fp)).run pins s2 σ H2 Q I (by
                      obtain ⟨μ, ρ, st, S, w⟩ := w
                      exact WP.ok (Φ := fun b _ _ H' => Q b H') S.sto w)⟩) pk pv (setFold hs1 X.env)) fun σ H Q w => ?_
                    refine dcmpE _ (own := own) (fi := evi G call i) (fc := evOc G call .none) (fk := ev G call k) (fv := ev G call v) hsl ?_
                    obtain ⟨μ, ρ, st, S, w⟩ := w
                    refine ⟨μ, ρ, st, S, ?_⟩
                    rw [ev] at w
                    exact w
                  | cons c ifs =>
                    cases ifs with
                    | nil =>
                      cases q4 : trC T n (relS scope X.env.scope) c with
                      | none => simp only [q4] at h; cases h
                      | some C =>
                        simp only [q4, Option.some.injEq] at h
                        subst h
                        refine wrapE <| impE (peDk (T.dts.contains (pos.line, pos.col)) (tt := tCo X.K F (evOc G call (.some C))) o.hu o.calm o.nd (A.i o id q1).1 hB pg (fun s H Ca cl fp => pts_one (A.c (X := X.blk s H scope (compEnvC scope cl Ca X.env) fp) (o.blk _ _ _ _ _) q4)) pk pv (setFold hs1 X.env)) fun σ H Q w => ?_
                        refine dcmpE _ (own := own) (fi := evi G call i) (fc := evOc G call (.some C)) (fk := ev G call k) (fv := ev G call v) hsl ?_
                        obtain ⟨μ, ρ, st, S, w⟩ := w
                        refine ⟨μ, ρ, st, S, ?_⟩
                        rw [ev] at w
                        exact w
                    | cons _ _ => simp only [reduceCtorEq] at h
                · cases h
      · cases h
theorem s_comp2 (A : AllE F T G call n) {X : Cx} {elt : Expr} {g1 g2 : Comprehension} {scope : Scope} {pos : Pos} {E : Nz.E} (o : Ok X F T G call) (h : trE T (n + 1) X.env.scope (.ListComp elt [g1, g2] scope pos) = some E) : PE X (.ListComp elt [g1, g2] scope pos) (tE X.K F (ev G call E)) := by
  obtain ⟨tg, it, ifs, as⟩ := g1
  obtain ⟨tg2, it2, ifs2, as2⟩ := g2
  simp only [trE] at h
  split at h
  · cases h
  rename_i hs
  have hs0 : as = 0 ∧ as2 = 0 ∧ isSet it = false ∧ isSet it2 = false ∧ ifs = [] := by
    simp only [Bool.or_eq_true, not_or, bne_iff_ne, ne_eq, Decidable.not_not, Bool.not_eq_true, Bool.not_eq_false', List.isEmpty_iff] at hs
    exact ⟨hs.1.1.1.1, hs.1.1.1.2, hs.1.1.2, hs.1.2, hs.2⟩
  obtain ⟨has, has2, hs1, hs2, hif⟩ := hs0
  subst has has2 hif
  cases qo : trOwn T scope.names with
  | none => rw [qo] at h; cases h
  | some own =>
    simp only [qo] at h
    split at h
    · rename_i hb
      have hB : BlkOk X.N X.env.scope scope own := by rw [o.hN]; exact blk_ok hb
      cases q1 : trI T n X.env.scope (isTup tg) it with
      | none => simp only [q1] at h; cases h
      | some i =>
        cases q2 : trT T scope n tg with
        | none => simp only [q1, q2] at h; cases h
        | some t =>
          cases q5 : trI T n (relS scope X.env.scope) (isTup tg2) it2 with
          | none => simp only [q1, q2, q5] at h; cases h
          | some i2 =>
            cases q6 : trT T scope n tg2 with
            | none => simp only [q1, q2, q5, q6] at h; cases h
            | some t2 =>
              cases q3 : trE T n (relS scope X.env.scope) elt with
              | none => simp only [q1, q2, q3, q5, q6] at h; cases h
              | some e =>
                simp only [q1, q2, q3, q5, q6] at h
                split at h
                · rename_i hsl
                  rw [Bool.and_eq_true] at hsl
                  have hsl1 : ∀ j ∈ t.slots, j ∈ own.map (·.2) := fun j hj => by
                    have := List.all_eq_true.mp hsl.1 j hj
                    simpa using this
                  have hsl2 : ∀ j ∈ t2.slots, j ∈ own.map (·.2) := fun j hj => by
                    have := List.all_eq_true.mp hsl.2 j hj
                    simpa using this
                  have pg : ∀ (s : Shared) (H : Hp) (C : Addr) (cl : List (Str × Addr)) (fp : List Addr), PG (X.blk s H scope (compEnvC scope cl C X.env) fp) tg (gT X.K F t) := fun s H C cl fp =>
                    trT_ok (X := X.blk s H scope (compEnvC scope cl C X.env) fp) o.hN o.nd o.calm fnLoc_blk n q2
                  have pg2 : ∀ (s : Shared) (H : Hp) (C : Addr) (cl : List (Str × Addr)) (fp : List Addr), PG (X.blk s H scope (compEnvC scope cl C X.env) fp) tg2 (gT X.K F t2) := fun s H C cl fp =>
                    trT_ok (X := X.blk s H scope (compEnvC scope cl C X.env) fp) o.hN o.nd o.calm fnLoc_blk n q6
                  have pe : ∀ (s : Shared) (H : Hp) (C : Addr) (cl : List (Str × Addr)) (fp : List Addr), PE (X.blk s H scope (compEnvC scope cl C X.env) fp) elt (tE X.K F (ev G call e)) := fun s H C cl fp =>
                    A.e (X := X.blk s H scope (compEnvC scope cl C X.env) fp) (o.blk _ _ _ _ _) q3
                  have pi2 : ∀ (s : Shared) (H : Hp) (C : Addr) (cl : List (Str × Addr)) (fp : List Addr), PI (X.blk s H scope (compEnvC scope cl C X.env) fp) tg2 it2 (tIt X.K F (evi G call i2)) := fun s H C cl fp =>
                    (A.i (X := X.blk s H scope (compEnvC scope cl C X.env) fp) (o.blk _ _ _ _ _) id q5).1
                  have nt : ∀ (s : Shared) (H : Hp) (C : Addr) (cl : List (Str × Addr)) (fp : List Addr), PTs (X.blk s H scope (compEnvC scope cl C X.env) fp) [] (tCo X.K F fun _ st => .ok true st) := fun s H C cl fp => ⟨fun pins s2 σ H2 Q I w => (pts_nil (X := X.blk s H scope (compEnvC scope cl C X.env) fp)).run pins s2 σ H2 Q I (by
                    obtain ⟨μ, ρ, st, S, w⟩ := w
                    exact WP.ok (Φ := fun b _ _ H' => Q b H') S.sto w)⟩
                  cases ifs2 with
                  | nil =>
                    simp only [Option.some.injEq] at h
                    subst h
                    refine impE (pe_lc2 (vs1 := t2.slots) o.calm o.nd (A.i o id q1).1 hB hsl2 pg nt pi2 pg2 nt pe (setFold hs1 X.env) (fun env => setFold hs2 env)) fun σ H Q w => ?_
                    refine compE2 (fc := evOc G call .none) (own := own) (fi := evi G call i) (fi1 := evi G call i2) (fe := ev G call e) hsl1 ?_
                    obtain ⟨μ, ρ, st, S, w⟩ := w
                    refine ⟨μ, ρ, st, S, ?_⟩
                    rw [ev] at w
                    exact w
                  | cons c ifs2 =>
                    cases ifs2 with
                    | nil =>
                      cases q4 : trC T n (relS scope X.env.scope) c with
                      | none => simp only [q4] at h; cases h
                      | some C =>
                        simp only [q4, Option.some.injEq] at h
                        subst h
                        have pt : ∀ (s : Shared) (H : Hp) (Ca : Addr) (cl : List (Str × Addr)) (fp : List Addr), PTs (X.blk s H scope (compEnvC scope cl Ca X.env) fp) [c] (tCo X.K F (evOc G call (.some C))) := fun s H Ca cl fp => pts_one (A.c (X := X.blk s H scope (compEnvC scope cl Ca X.env) fp) (o.blk _ _ _ _ _) q4)
                        refine impE (pe_lc2 (vs1 := t2.slots) o.calm o.nd (A.i o id q1).1 hB hsl2 pg nt pi2 pg2 pt pe (setFold hs1 X.env) (fun env => setFold hs2 env)) fun σ H Q w => ?_
                        refine compE2 (fc := evOc G call (.some C)) (own := own) (fi := evi G call i) (fi1 := evi G call i2) (fe := ev G call e) hsl1 ?_
                        obtain ⟨μ, ρ, st, S, w⟩ := w
                        refine ⟨μ, ρ, st, S, ?_⟩
                        rw [ev] at w
                        exact w
                    | cons _ _ => simp only [reduceCtorEq] at h
                · cases h
    · cases h
theorem s_e (A : AllE F T G call n) {X : Cx} {e : Expr} {E : Nz.E} (o : Ok X F T G call) (h : trE T (n + 1) X.env.scope e = some E) : PE X e (tE X.K F (ev G call E)) := by
  cases e with
  | Constant c k pos =>
    simp only [trE] at h
    have : ∃ d, E = .con d := by cases c <;> simp only [Option.some.injEq, reduceCtorEq] at h <;> exact ⟨_, h.symm⟩
    obtain ⟨d, rfl⟩ := this
    exact con_ok h
  | Name x pos =>
    simp only [trE] at h
    cases q : trVar T X.env.scope x with
    | some i => rw [q] at h; cases h; exact var_ok o q
    | none =>
      simp only [q] at h
      split at h
      · rename_i hg
        obtain ⟨hgl, hd⟩ := isGl_ok hg
        cases qc : T.cons.lookup x with
        | none => rw [qc] at h; cases h
        | some d =>
          rw [qc] at h; cases h
          obtain ⟨u, v, hm, hv, hr⟩ := o.cons x d qc
          refine impE (pe_glob hgl hm hv hd) fun σ H Q w => ?_
          obtain ⟨μ, ρ, st, S, w⟩ := w
          exact WP.ok (Φ := VQ X.K Q) S.sto w v (hr μ H)
      · cases h
  | BinOp a op b pos =>
    simp only [trE] at h
    cases q0 : trBin op with
    | none => rw [q0] at h; cases h
    | some op' =>
      cases q : trE T n X.env.scope a with
      | none => rw [q0, q] at h; cases h
      | some E1 =>
        cases q' : trE T n X.env.scope b with
        | none => rw [q0, q, q'] at h; cases h
        | some E2 => rw [q0, q, q'] at h; cases h; exact binE q0 (A.e o q) (A.e o q')
  | UnaryOp op a pos =>
    simp only [trE] at h
    cases q : trE T n X.env.scope a with
    | none => rw [q] at h; cases op <;> cases h
    | some E1 =>
      rw [q] at h
      cases op <;> simp only [Option.some.injEq, reduceCtorEq] at h <;> subst h
      · exact notE (A.e o q)
      · exact negE (A.e o q)
  | BoolOp op es pos =>
    simp only [trE] at h
    cases op <;> simp only at h
    · exact A.and o h
    · exact A.or o h
  | Compare a ops bs pos => exact (s_cmp A o h).1
  | IfExp c a b pos =>
    simp only [trE] at h
    cases q0 : trC T n X.env.scope c with
    | none => rw [q0] at h; cases h
    | some C1 =>
      cases q : trE T n X.env.scope a with
      | none => rw [q0, q] at h; cases h
      | some E1 =>
        cases q' : trE T n X.env.scope b with
        | none => rw [q0, q, q'] at h; cases h
        | some E2 => rw [q0, q, q'] at h; cases h; exact iteE (A.c o q0) (A.e o q) (A.e o q')
  | Tuple es k pos =>
    simp only [trE] at h
    cases q : trEd T n X.env.scope es with
    | none => rw [q] at h; cases h
    | some E1 => rw [q] at h; cases h; exact tupE (A.ed o q)
  | List es pos =>
    simp only [trE] at h
    cases q : trEd T n X.env.scope es with
    | none => rw [q] at h; cases h
    | some E1 => rw [q] at h; cases h; exact lstE (A.ed o q)
  | Subscript a i pos =>
    simp only [trE] at h
    cases q : trE T n X.env.scope a with
    | none => rw [q] at h; cases h
    | some E1 =>
      simp only [q] at h
      split at h
      · rename_i lo hi st p2
        split at h
        · cases q1 : trO T n X.env.scope lo with
          | none => rw [q1] at h; cases h
          | some L =>
            cases q2 : trO T n X.env.scope hi with
            | none => rw [q1, q2] at h; cases h
            | some U => rw [q1, q2] at h; cases h; exact slcE (A.e o q) (A.o o q1) (A.o o q2)
        · split at h
          · cases h
            refine impE (revE (A.e o q)) fun σ H Q w => ?_
            obtain ⟨μ, ρ, st, S, w⟩ := w
            refine ⟨μ, ρ, st, S, ?_⟩
            rw [ev] at w
            exact w
          · cases h
        · cases h
      · cases q1 : trIx T n X.env.scope i with
        | none => rw [q1] at h; cases h
        | some E2 => rw [q1] at h; cases h; exact idxE o.hu (A.e o q) (A.ix o q1).1 (A.ix o q1).2
  | Attribute a f pos =>
    simp only [trE] at h
    split at h
    · cases h
    rename_i hs
    have hs : isCall a = false := by simpa using hs
    cases q : trE T n X.env.scope a with
    | none => rw [q] at h; cases h
    | some E1 =>
      simp only [q] at h
      cases qf : ixOf f T.fld with
      | some i => rw [qf] at h; cases h; exact fldE o (ixOf_ok qf) (A.e o q) (base_ok hs)
      | none =>
        simp only [qf] at h
        cases qp : ixOf f T.prp with
        | none => rw [qp] at h; cases h
        | some i =>
          rw [qp] at h; cases h
          exact propE o (ixOf_ok qp) (A.e o q) hs
  | Dict ks vs pos =>
    simp only [trE] at h
    split at h
    · cases h; exact dnewE
    · cases q1 : trKs ks with
      | none => rw [q1] at h; cases h
      | some xs =>
        rw [q1] at h
        simp only at h
        split at h
        · rename_i hh
          simp only [Bool.and_eq_true, decide_eq_true_eq, Bool.not_eq_true'] at hh
          cases q2 : vs.mapM (trE T n X.env.scope) with
          | none => rw [q2] at h; cases h
          | some es => rw [q2] at h; cases h; exact dispE (fun q => A.e o q) q1 q2 hh.1.1 hh.1.2 hh.2
        · cases h
  | DictComp kx vx gs scope pos => exact s_dcmp A o h
  | ListComp elt gs scope pos =>
    match gs, h with
    | [], h => simp only [trE, reduceCtorEq] at h
    | [g1, g2], h => exact s_comp2 A o h
    | _ :: _ :: _ :: _, h => simp only [trE, reduceCtorEq] at h
    | [g0], h =>
    obtain ⟨tg, it, ifs, hgs, hs, own, t, i, e, c, rfl, _, hsl, hB, hi, hg, ht, he⟩ := s_comp A o (by simp) h
    rw [hgs]
    exact wrapE <| impE (pe_lc o.calm o.nd hi hB hg ht he (setFold hs X.env)) fun σ H Q w => compE (elt := elt) (tg := tg) (iter := it) (ifs := ifs) (scope := scope) (pos := pos) hsl w
  | Call f as kws pos => exact s_call A o h
  | _ => simp only [trE, reduceCtorEq] at h
theorem allE : ∀ n, AllE F T G call n
  | 0 => by
    constructor <;> intros <;> rename_i h <;> first
      | (simp only [trE, trAnd, trOr, trIx, trBi, trEs, trEd, trO, trC, trCAnd, trCOr, trI, reduceCtorEq] at h)
  | n + 1 => by
    have A := allE n
    have hc : ∀ {X : Cx} {e : Expr} {E : Nz.C}, Ok X F T G call → trC T (n + 1) X.env.scope e = some E → PT X e (tCo X.K F (evC G call E)) := fun {X e E} o h => s_c A o h fun {a ops bs pos E'} q => by
      cases n with
      | zero => simp only [trE, reduceCtorEq] at q
      | succ m => exact (s_cmp (allE m) o q).2
    exact ⟨s_e A, s_and A, s_or A, s_ix A, s_bi A, s_es A, s_ed A, s_o A, hc, s_cand A, s_cor A, s_i A⟩
end
end Nz
namespace Nz
open PySem L2 PyProof.Rows
def FQ (K : PySem.W.Frag) (F : Nm) (D : Ends) : Fl × Env → Store → Mu → Hp → Prop := fun p s μ' H' => match p.1 with
  | .nx => ∀ σ', Sim K F μ' p.2 s σ' H' → D.nx σ' H'
  | .bk => ∀ σ', Sim K F μ' p.2 s σ' H' → D.bk σ' H'
  | .ct => ∀ σ', Sim K F μ' p.2 s σ' H' → D.ct σ' H'
  | .ret d => ∀ v, Rp K μ' H' d v → D.rt v H'
def tS (K : PySem.W.Frag) (F : Nm) (f : Env → Store → R (Fl × Env)) : TS := fun D σ H => ∃ μ ρ st, Sim K F μ ρ st σ H ∧ WP K F μ H (f ρ st) (FQ K F D)
theorem impS {X : Cx} {e : Stmt} {t t' : TS} (h : X.env.scope.kind = .function → PS X e t) (k : ∀ D σ H, t' D σ H → t D σ H) : PS X e t' := ⟨fun pins s σ H D I w => (h I.ok.kind).run pins s σ H D I (k D σ H w)⟩
theorem impSs {X : Cx} {e : List Stmt} {t t' : TS} (h : PSs X e t) (k : ∀ D σ H, t' D σ H → t D σ H) : PSs X e t' := ⟨fun pins s σ H D I w => h.run pins s σ H D I (k D σ H w)⟩
theorem mask_len : ∀ (a b : Env), (mask a b).length = b.length
  | some _ :: a, x :: b => by simp only [mask, List.length_cons, mask_len a b]
  | none :: a, x :: b => by simp only [mask, List.length_cons, mask_len a b]
  | [], x :: b => by simp only [mask, List.length_cons, mask_len [] b]
  | some _ :: a, [] => rfl
  | none :: a, [] => rfl
  | [], [] => rfl
theorem mask_get : ∀ {a b : Env} {i : Nat} {d : D}, (mask a b)[i]? = some (some d) → b[i]? = some (some d)
  | some _ :: a, x :: b, 0, d, h => by simpa only [mask, List.getElem?_cons_zero] using h
  | none :: a, x :: b, 0, d, h => by simp only [mask, List.getElem?_cons_zero, Option.some.injEq, reduceCtorEq] at h
  | [], x :: b, 0, d, h => by simp only [mask, List.getElem?_cons_zero, Option.some.injEq, reduceCtorEq] at h
  | some _ :: a, x :: b, i + 1, d, h => by simp only [mask, List.getElem?_cons_succ] at h ⊢; exact mask_get h
  | none :: a, x :: b, i + 1, d, h => by simp only [mask, List.getElem?_cons_succ] at h ⊢; exact mask_get h
  | [], x :: b, i + 1, d, h => by simp only [mask, List.getElem?_cons_succ] at h ⊢; exact mask_get h
  | some _ :: a, [], i, d, h => by simp [mask] at h
  | none :: a, [], i, d, h => by simp [mask] at h
  | [], [], i, d, h => by simp [mask] at h
theorem Sim.mask {K : PySem.W.Frag} {F : Nm} {μ : Mu} {ρ : Env} {st : Store} {σ : L2.St} {H : Hp} (S : Sim K F μ ρ st σ H) (ρ₀ : Env) : Sim K F μ (Nz.mask ρ₀ ρ) st σ H :=
  ⟨by rw [mask_len]; exact S.len, fun i d h => S.env i d (mask_get h), S.sto⟩
section
variable {X : Cx} {F : Nm} {T₀ : Tab} {G : Ctx} {call : Nat → List D → Store → R D} {pos pos' : Pos} {e a b : Expr} {f g h : Env → Store → R D}
theorem passS : PS X (.Pass pos) (tS X.K F fun ρ st => .ok (.nx, ρ) st) := impS (fun _ => ps_pass) fun D σ H ⟨μ, ρ, st, S, w⟩ => (WP.ok (Φ := FQ X.K F D) S.sto w) σ S
theorem brkS : PS X (.Break pos) (tS X.K F fun ρ st => .ok (.bk, ρ) st) := impS (fun _ => ps_break) fun D σ H ⟨μ, ρ, st, S, w⟩ => (WP.ok (Φ := FQ X.K F D) S.sto w) σ S
theorem contS : PS X (.Continue pos) (tS X.K F fun ρ st => .ok (.ct, ρ) st) := impS (fun _ => ps_continue) fun D σ H ⟨μ, ρ, st, S, w⟩ => (WP.ok (Φ := FQ X.K F D) S.sto w) σ S
theorem neverS {s : Stmt} : PS X s (tS X.K F fun _ _ => .no) := impS (fun _ => ps_never) fun D σ H ⟨μ, ρ, st, S, w⟩ => w.elim
theorem retnS : PS X (.Return none pos) (tS X.K F fun ρ st => .ok (.ret .non, ρ) st) := impS (fun _ => ps_retN) fun D σ H ⟨μ, ρ, st, S, w⟩ => (WP.ok (Φ := FQ X.K F D) S.sto w) _ .non
theorem retS (he : PE X e (tE X.K F f)) : PS X (.Return (some e) pos) (tS X.K F fun ρ st => (f ρ st).bind fun d s => .ok (.ret d, ρ) s) := impS (fun _ => ps_ret he) fun D σ H ⟨μ, ρ, st, S, w⟩ =>
  ⟨μ, ρ, st, S, w.bind.mono fun d s μ1 H1 P1 w1 v rv => (WP.ok (Φ := FQ X.K F D) P1.sto w1) v rv⟩
theorem compN {t : Option Expr} {l : Nat} {env : PySem.Env} (h : isComp e = false) : swapsWith e t l env = pure false := by
  cases e <;> first | rfl | cases h
theorem exprS (hc : isComp e = false) (he : PE X e (tE X.K F f)) : PS X (.Expr e pos) (tS X.K F fun ρ st => (f ρ st).bind fun _ s => .ok (.nx, ρ) s) := impS (fun _ => ps_expr he (compN hc)) fun D σ H ⟨μ, ρ, st, S, w⟩ =>
  ⟨μ, ρ, st, S, w.bind.mono fun d s μ1 H1 P1 w1 v rv => (WP.ok (Φ := FQ X.K F D) P1.sto w1) σ (S.post P1)⟩
theorem setQ {K : PySem.W.Frag} {t : Nz.T} {D : Ends} {σ : L2.St} {H : Hp} (w : tS K F (fun ρ st => (f ρ st).bind fun d s => (match Nz.T.asg t d ρ with
    | some ρ' => .ok (.nx, ρ') s
    | none => .no)) D σ H) : tAsg (tE K F f) (gT K F t) D σ H := by
  obtain ⟨μ, ρ, st, S, w⟩ := w
  refine ⟨μ, ρ, st, S, w.bind.mono fun d s μ1 H1 P1 w1 v rv => ?_⟩
  cases ha : Nz.T.asg t d ρ with
  | none => rw [ha] at w1; exact w1.elim
  | some ρ' =>
    rw [ha] at w1
    exact ⟨μ1, ρ, s, d, ρ', S.post P1, rv, ha, fun σ' S' _ => (WP.ok (Φ := FQ K F D) P1.sto w1) σ' S'⟩
theorem setQ1 {K : PySem.W.Frag} {i : Nat} {D : Ends} {σ : L2.St} {H : Hp} (w : tS K F (fun ρ st => (f ρ st).bind fun d s => (match Nz.T.asg (.nm i) d ρ with
    | some ρ' => .ok (.nx, ρ') s
    | none => .no)) D σ H) : tAsg (tE K F f) (gName i) D σ H := by
  obtain ⟨μ, ρ, st, S, w⟩ := w
  refine ⟨μ, ρ, st, S, w.bind.mono fun d s μ1 H1 P1 w1 v rv => ?_⟩
  exact (WP.ok (Φ := FQ K F D) P1.sto w1) _ ((S.post P1).set rv i)
def ipA (o : BinO) : TIp := fun x y H Q => ∃ i j k, x = .int i ∧ y = .int j ∧ arith o i j = some k ∧ Q (.int k) H
theorem ipA_ok {op : Operator} {o : BinO} (ho : trBin op = some o) (hp : o ≠ .pow) : PIp X op (ipA o) := by
  intro pins s σ H x y v u Q I r1 r2 h
  obtain ⟨i, j, k, e1, e2, ha, q⟩ := h
  subst e1; subst e2
  obtain ⟨t, rfl⟩ := r1
  obtain ⟨t', rfl⟩ := r2
  exact ar_in ho hp ha ⟨.int _, H, I.tok _, ⟨_, rfl⟩, q⟩
theorem augQ {K : PySem.W.Frag} {α : Type} {μ : Mu} {H : Hp} {st : Store} {o : BinO} {x y : D} {v u : V} {c : D → Store → R α} {Φ : α → Store → Mu → Hp → Prop} (S : Sto K F μ st H) (rx : Rp K μ H x v) (ry : Rp K μ H y u)
    (w : WP K F μ H (match x, y with
      | .int _, .int _ => (binop o x y st).bind c
      | _, _ => .no) Φ) : ∃ i j k, v = .int i ∧ u = .int j ∧ arith o i j = some k ∧ WP K F μ H (c (.int k) st) Φ := by
  cases rx with
  | int i =>
    cases ry with
    | int j =>
      have w : WP K F μ H ((R.ofI (arith o i j) st).bind c) Φ := w
      cases ha : arith o i j with
      | none => rw [ha] at w; exact w.elim
      | some k => rw [ha] at w; exact ⟨i, j, k, rfl, rfl, ha, w⟩
    | _ => exact w.elim
  | _ => exact w.elim
theorem augS {x : Str} {i : Nat} {op : Operator} {o : BinO} (hN : X.N = T₀.N) (nd : X.N.Nodup) (hf : FnLoc X X.env.scope) (hi : trLoc T₀ X.env.scope x = some i) (ho : trBin op = some o) (hp : o ≠ .pow) (he : PE X e (tE X.K F f)) :
    PS X (.AugAssign (.Name x pos') op e pos) (tS X.K F fun ρ st => (R.ofO (ρ[i]?.join) st).bind fun x s => (f ρ s).bind fun y s => (match x, y with
    | .int _, .int _ => (binop o x y s).bind fun d s => .ok (.nx, ρ.set i (some d)) s
    | _, _ => .no)) := by
  have hx : T₀.N[i]? = some x := by
    unfold trLoc at hi
    split at hi
    · exact ixOf_ok hi
    · cases hi
  refine impS (fun _ => ps_aug nd (by rw [hN]; exact hx) (trLoc_loc hi) he (ipA_ok ho hp) (hf x (trLoc_loc hi)).2) fun D σ H ⟨μ, ρ, st, S, w⟩ => ?_
  dsimp only at w
  cases q : ρ[i]? with
  | none => rw [q] at w; exact w.elim
  | some d =>
    cases d with
    | none => rw [q] at w; exact w.elim
    | some d =>
      rw [q] at w
      obtain ⟨v, hv, rv⟩ := S.env i d q
      refine ⟨v, hv, μ, ρ, st, S, (WP.bind (r := f ρ st) w).mono fun y s μ1 H1 P1 w1 u ru => ?_⟩
      obtain ⟨a, b, k, e1, e2, hk, w2⟩ := augQ P1.sto (rv.post P1) ru w1
      refine ⟨a, b, k, e1, e2, hk, ?_⟩
      exact (WP.ok (Φ := FQ X.K F D) P1.sto w2) _ ((S.post P1).set (.int k) i)
def rSetA : TSet := fun o i v H Q => rSetL o i v H Q ∨ ∃ a H', o = .ref a ∧ DPut H a i v H' ∧ Q H'
theorem set_any (hu : X.A.units + 64 < cLine) : PSet X rSetA := by
  intro pins s σ H o i v ov iv u Q I ro ri rv h
  rcases h with h | ⟨a, H', rfl, g, q⟩
  · exact set_list pins s σ H o i v ov iv u Q I ro ri rv h
  · cases ro
    exact d_setItem (by omega) I g ri rv fun s' I' => ⟨H', I', q⟩
theorem setAt_ok {K : PySem.W.Frag} {μ : Mu} {H : Hp} {st : Store} {α : Type} {x i d : D} {v u z : V} {c : D → Store → R α} {Φ : α → Store → Mu → Hp → Prop} {Q : Hp → Prop} (S : Sto K F μ st H) (rx : Rp K μ H x v) (ri : Rp K μ H i u) (rd : Rp K μ H d z) (w : WP K F μ H ((setAt x i d st).bind c) Φ)
    (hq : ∀ st' H', Post K F μ H st' μ H' → WP K F μ H' (c .non st') Φ → Q H') : rSetA v u z H Q := by
  cases rx with
  | @ref l p b hl =>
    cases hdc : dctOf (.ref l) st with
    | some tk =>
      obtain ⟨t, kvs⟩ := tk
      obtain ⟨l', a, e1, e2, h1, h2, h3⟩ := dctOf_ok S (Rp.ref (H := H) (K := K) hl) hdc
      cases e1; cases e2
      have w : WP K F μ H ((R.grd (i.keyOk t && decide (kvs.length < LINE)) (.ok .non (st.set l (.dct t (dPut kvs i d))))).bind c) Φ := by
        have e : setAt (.ref l) i d st = R.grd (i.keyOk t && decide (kvs.length < LINE)) (.ok .non (st.set l (.dct t (dPut kvs i d)))) := by
          simp only [setAt, h2]
        rw [e] at w; exact w
      by_cases hg : (i.keyOk t && decide (kvs.length < LINE)) = true
      · rw [hg] at w
        rw [Bool.and_eq_true] at hg
        have hz : kvs.length < 16777216 := of_decide_eq_true hg.2
        obtain ⟨H', g, P⟩ := dput_ok S h1 h2 ri rd hg.1 hz
        refine .inr ⟨_, H', rfl, g, hq _ _ P ?_⟩
        have w : WP K F μ H (c .non (st.set l (.dct t (dPut kvs i d)))) Φ := w
        revert w
        cases c .non (st.set l (.dct t (dPut kvs i d))) with
        | no => exact id
        | ok a s => exact fun w μ2 H2 P2 => w μ2 H2 (P.trans P2)
      · rw [Bool.not_eq_true] at hg
        rw [hg] at w
        exact w.elim
    | none =>
    left
    have nd : ∀ t kvs, st[l]? ≠ some (.dct t kvs) := fun t kvs e => by
      simp only [dctOf, e, reduceCtorEq] at hdc
    cases ri with
    | int k =>
      have w : WP K F μ H (R.bind (match st[l]? with
        | some (.lst ds) => (match place ds.length k with
          | some j => .ok .non (st.set l (.lst (ds.set j d)))
          | none => .no)
        | some (.dct t kvs) => R.grd (D.keyOk t (.int k) && decide (kvs.length < LINE)) (.ok .non (st.set l (.dct t (dPut kvs (.int k) d))))
        | _ => .no) c) Φ := w
      split at w
      · rename_i ds hst
        cases hp : place ds.length k with
        | none => simp only [hp] at w; exact w.elim
        | some j =>
          simp only [hp] at w
          obtain ⟨vs, h1, r1⟩ := S.back hst hl rfl
          refine ⟨p, vs, k, j, rfl, rfl, h1, by rw [← r1.length]; exact hp, ?_⟩
          have kt : ∀ a xs, H a = some (.tup xs) → upd H p (.lst (vs.set j z)) a = some (.tup xs) := fun a xs z => by rw [upd_ne (fun q => by subst q; rw [h1] at z; cases z)]; exact z
          have kf : ∀ a o x, H a = some (.frz o x) → upd H p (.lst (vs.set j z)) a = some (.frz o x) := fun a o x z => by rw [upd_ne (fun q => by subst q; rw [h1] at z; cases z)]; exact z
          have P : Post K F μ H (st.set l (.lst (ds.set j d))) μ (upd H p (.lst (vs.set j z))) := Post.write S hst hl rfl h1 trivial ⟨_, upd_same, (r1.set rd j).mono (List.prefix_refl _) kt kf⟩
          refine hq _ _ P ?_
          have w : WP K F μ H (c .non (st.set l (.lst (ds.set j d)))) Φ := w
          revert w
          cases c .non (st.set l (.lst (ds.set j d))) with
          | no => exact id
          | ok a s => exact fun w μ2 H2 P2 => w μ2 H2 (P.trans P2)
      · exact absurd (by assumption) (nd _ _)
      · exact w.elim
    | _ =>
      exfalso
      revert w
      unfold setAt
      simp only
      split
      · exact fun w => w
      · exact absurd (by assumption) (nd _ _)
      · exact fun w => w
  | _ => exact w.elim
theorem stiS (hu : X.A.units + 64 < cLine) {i : Expr} {tpos : Pos} (hn : ∀ lo hi st p, i ≠ .Slice lo hi st p) (he : PE X e (tE X.K F f)) (ha : PE X a (tE X.K F g)) (hi : PE X i (tE X.K F h)) :
    PS X (.Assign [.Subscript a i tpos] e pos) (tS X.K F fun ρ st => (f ρ st).bind fun d s => (g ρ s).bind fun x s => (h ρ s).bind fun y s => (setAt x y d s).bind fun _ s => .ok (.nx, ρ) s) := by
  refine impS (fun _ => ps_asg (g := gSub (tE X.K F g) (tE X.K F h) rSetA) he (pg_sub ha hi (set_any hu) (by intro v; cases i <;> first | rfl | exact absurd rfl (hn _ _ _ _))) (by cases e <;> rfl) (by rfl)) fun D σ H ⟨μ, ρ, st, S, w⟩ => ?_
  refine ⟨μ, ρ, st, S, w.bind.mono fun d s μ1 H1 P1 w1 z rz => ?_⟩
  refine ⟨μ1, ρ, s, S.post P1, w1.bind.mono fun x s2 μ2 H2 P2 w2 v rv => ?_⟩
  refine ⟨μ2, ρ, s2, (S.post P1).post P2, w2.bind.mono fun y s3 μ3 H3 P3 w3 u ru => ?_⟩
  exact setAt_ok P3.sto (rv.post P3) ru ((rz.post P2).post P3) w3 fun st' H' P w4 => (WP.ok (Φ := FQ X.K F D) P.sto w4) _ ((((S.post P1).post P2).post P3).post P)
def rGetL (K : PySem.W.Frag) : V → V → Hp → VK → Prop := fun x y H Q => ∃ p xs i v, x = .ref p ∧ y = .int i ∧ SqL K H p xs ∧ atI xs i = some v ∧ Q v H
theorem get_list : PGet X (rGetL X.K) := by
  intro pins s σ H x y v u Q I rx ry h
  obtain ⟨p, xs, i, z, rfl, rfl, hq, he, q⟩ := h
  cases rx
  obtain ⟨t, rfl⟩ := ry
  obtain ⟨its, r, pl, hz⟩ := I.list hq
  obtain ⟨j, h1, h2, h3, h4, h5⟩ := atI_get he
  obtain ⟨w, ew, rw'⟩ := r.get h2
  have hl := r.length
  have hn := line63
  have fin : EP X pins σ Q w s := ⟨z, H, I, rw', q⟩
  by_cases h0 : 0 ≤ i
  · have hj : i.toNat = j := by
      rw [seqIndex_of h0 h5] at h1
      exact Option.some.inj h1
    exact wpAny_getItem_list pl.isList h0 (by omega) (by rw [hj]; simpa using ew) fin
  · have hj : (i + (its.toArray.size : Int)).toNat = j := by
      rw [seqIndex_neg (by omega) h4] at h1
      rw [List.size_toArray, ← hl]
      exact Option.some.inj h1
    exact wpAny_getItem_list_neg pl.isList (by omega) (by rw [List.size_toArray] <;> omega) (by omega) (by rw [hj]; simpa using ew) fin
def rGetA (K : PySem.W.Frag) : V → V → Hp → VK → Prop := fun x y H Q => rGetL K x y H Q ∨ ∃ a v, x = .ref a ∧ DGet H a y (some v) ∧ Q v H
theorem get_any (hu : X.A.units + 64 < cLine) : PGet X (rGetA X.K) := by
  intro pins s σ H x y v u Q I rx ry h
  rcases h with h | ⟨a, z, rfl, g, q⟩
  · exact get_list pins s σ H x y v u Q I rx ry h
  · cases rx
    exact d_getItem (by omega) I g ry fun w' s' I' r' => ⟨z, H, I', r', q⟩
theorem augiS (hu : X.A.units + 64 < cLine) {i : Expr} {tpos : Pos} {op : Operator} {o : BinO} (hn : ∀ lo hi st p, i ≠ .Slice lo hi st p) (ho : trBin op = some o) (hp : o ≠ .pow) (he : PE X e (tE X.K F f)) (ha : PE X a (tE X.K F g)) (hi : PE X i (tE X.K F h)) :
    PS X (.AugAssign (.Subscript a i tpos) op e pos) (tS X.K F fun ρ st => (g ρ st).bind fun x s => (h ρ s).bind fun y s => R.grd ((lstOf x s).isSome || (dctOf x s).isSome) ((index x y s).bind fun v s => (f ρ s).bind fun z s => (match v, z with
    | .int _, .int _ => (binop o v z s).bind fun d s => (setAt x y d s).bind fun _ s => .ok (.nx, ρ) s
    | _, _ => .no))) := by
  refine impS (fun _ => ps_augS ha hi (get_any hu) he (ipA_ok ho hp) (set_any hu) (by intro ov iv new; cases i <;> first | rfl | exact absurd rfl (hn _ _ _ _))) fun D σ H ⟨μ, ρ, st, S, w⟩ => ?_
  refine ⟨μ, ρ, st, S, w.bind.mono fun x s μ1 H1 P1 w1 v rv => ?_⟩
  refine ⟨μ1, ρ, s, S.post P1, w1.bind.mono fun y s2 μ2 H2 P2 w2 u ru => ?_⟩
  obtain ⟨hl, w2⟩ := w2.grd
  have rv2 := rv.post P2
  have S2 := (S.post P1).post P2
  cases hdc : dctOf x s2 with
  | some tk =>
    obtain ⟨t, kvs⟩ := tk
    have w2 := WP.bind w2
    unfold index at w2
    rw [hdc] at w2
    obtain ⟨hk, w2⟩ := WP.grd w2
    obtain ⟨l, a, rfl, rfl, h1, h2, h3⟩ := dctOf_ok P2.sto rv2 hdc
    rcases dget_ok h3 ru hk with ⟨e1, g⟩ | ⟨z, zv, e1, g, rz⟩
    · rw [e1] at w2; exact w2.elim
    · rw [e1] at w2
      have w3 := WP.ok P2.sto w2
      refine .inr ⟨a, zv, rfl, g, μ2, ρ, s2, S2, w3.bind.mono fun n s3 μ3 H3 P3 w4 nv rn => ?_⟩
      obtain ⟨i1, i2, i3, e1, e2, hk, w5⟩ := augQ P3.sto (rz.post P3) rn w4
      refine ⟨i1, i2, i3, e1, e2, hk, ?_⟩
      exact setAt_ok P3.sto (rv2.post P3) (ru.post P3) (.int i3) w5 fun st' H' P w6 => (WP.ok (Φ := FQ X.K F D) P.sto w6) _ ((S2.post P3).post P)
  | none =>
  rw [hdc] at hl
  have hl : (lstOf x s2).isSome = true := by simpa using hl
  left
  cases hd : lstOf x s2 with
  | none => rw [hd] at hl; cases hl
  | some ds =>
    obtain ⟨p, vs, rfl, hq, rs⟩ := lstOf_ok P2.sto rv2 hd
    unfold index at w2
    rw [hdc] at w2
    cases ru with
    | int k =>
      have hs : seqW x s2 = some ds := by
        unfold lstOf at hd
        cases x with
        | ref l => exact hd
        | _ => cases hd
      have w3 : WP X.K F μ2 H2 (R.bind (match seqW x s2 with
        | some ds => (match getAt ds k with
          | some d => .ok d s2
          | none => .no)
        | none => .no) fun v s => (f ρ s).bind fun z s => (match v, z with
          | .int _, .int _ => (binop o v z s).bind fun d s => (setAt x (.int k) d s).bind fun _ s => .ok (.nx, ρ) s
          | _, _ => .no)) (FQ X.K F D) := w2
      rw [hs] at w3
      cases hg : getAt ds k with
      | none => simp only [hg] at w3; exact w3.elim
      | some z =>
        simp only [hg, R.bind_ok] at w3
        obtain ⟨zv, e1, rz⟩ := getAt_ok rs hg
        refine ⟨p, vs, k, zv, rfl, rfl, hq, e1, μ2, ρ, s2, S2, w3.bind.mono fun n s3 μ3 H3 P3 w4 nv rn => ?_⟩
        obtain ⟨i1, i2, i3, e1, e2, hk, w5⟩ := augQ P3.sto (rz.post P3) rn w4
        refine ⟨i1, i2, i3, e1, e2, hk, ?_⟩
        exact setAt_ok P3.sto (rv2.post P3) (.int k) (.int i3) w5 fun st' H' P w6 => (WP.ok (Φ := FQ X.K F D) P.sto w6) _ ((S2.post P3).post P)
    | _ =>
      have w3 : WP X.K F μ2 H2 (R.bind .no _) (FQ X.K F D) := w2
      exact w3.elim
end
end Nz
namespace Nz
open PySem L2 PyProof.Rows
theorem sw_par {env : PySem.Env} {x y : Str} {px py pt pt2 : Pos} {kt k2 : Nat} {a b : Expr} (hk : env.scope.kind = .function) (sa : isStar a = false) (sb : isStar b = false) (hc : ([a, b].all (PySem.constantsAlone 8) && !([a, b].all (PySem.foldedForSure 8))) = false) :
    swappedStores [.Tuple [.Name x px, .Name y py] kt pt] (.Tuple [a, b] k2 pt2) env = pure none ∨
    (swappedStores [.Tuple [.Name x px, .Name y py] kt pt] (.Tuple [a, b] k2 pt2) env = pure (some [x, y]) ∧ env.scope.names.lookup x = some .local ∧ env.scope.names.lookup y = some .local ∧ x ≠ y) := by
  have hb : env.blockKind = .function := by unfold Env.blockKind; rw [hk]; rfl
  unfold swappedStores
  simp only [hb, List.length_cons, List.length_nil, bne_self_eq_false, Bool.or_false, Nat.zero_add, Nat.reduceAdd, Nat.reduceBEq, Bool.or_true, Bool.true_or, Bool.not_true, Bool.false_eq_true, if_false]
  have s3 : ∀ p : Expr → Bool, (∀ e, isStar e = false → p e = false) → [a, b].any p = false := fun p h => by simp only [List.any_cons, List.any_nil, h a sa, h b sb, Bool.or_self]
  rw [s3]
  case a => exact fun e h => by cases e <;> first | rfl | cases h
  simp only [Bool.false_eq_true, if_false, List.head?_cons, Option.map_some, Option.getD_some, Expr.pos, pure_bind, List.filterMap_cons, List.filterMap_nil]
  have kx : env.kindOf x = env.scope.names.lookup x := rfl
  have ky : env.kindOf y = env.scope.names.lookup y := rfl
  simp only [kx, ky]
  by_cases hx : env.scope.names.lookup x = some .local
  · by_cases hy : env.scope.names.lookup y = some .local
    · by_cases hl : py.line = px.line
      · by_cases hxy : x = y
        · subst hxy
          left
          simp [hx, hl, List.eraseDups_cons]
        · simp only [hx, hy, hl, beq_self_eq_true, Bool.and_self, if_true]
          have he : [x, y].eraseDups.length = 2 := by simp [List.eraseDups_cons, hxy, Ne.symm hxy]
          simp only [he, List.length_cons, List.length_nil, bne_self_eq_false, Bool.or_self, Bool.false_eq_true, if_false]
          by_cases hf : ([a, b].all (PySem.foldedForSure 8)) = true
          · left; rw [if_pos hf]
          · right
            rw [if_neg hf]
            have hc' : ¬ ([a, b].all (PySem.constantsAlone 8)) = true := fun q => by
              rw [q] at hc
              simp [hf] at hc
            rw [if_neg hc']
            exact ⟨rfl, trivial, trivial, hxy⟩
      · left
        simp [hx, hy, hl]
    · left
      by_cases hl : py.line = px.line <;> simp [hx, hy, hl]
  · left
    by_cases hl : py.line = px.line <;> by_cases hy : env.scope.names.lookup y = some .local <;> simp [hx, hy, hl]
theorem sw_par3 {env : PySem.Env} {x y z : Str} {px py pz pt pt2 : Pos} {kt k2 : Nat} {a b c : Expr} (hk : env.scope.kind = .function) (sa : isStar a = false) (sb : isStar b = false) (sc : isStar c = false) (hc : ([a, b, c].all (PySem.constantsAlone 8) && !([a, b, c].all (PySem.foldedForSure 8))) = false) :
    swappedStores [.Tuple [.Name x px, .Name y py, .Name z pz] kt pt] (.Tuple [a, b, c] k2 pt2) env = pure none ∨
    (swappedStores [.Tuple [.Name x px, .Name y py, .Name z pz] kt pt] (.Tuple [a, b, c] k2 pt2) env = pure (some [x, y, z]) ∧ env.scope.names.lookup x = some .local ∧ env.scope.names.lookup y = some .local ∧ env.scope.names.lookup z = some .local ∧ x ≠ y ∧ x ≠ z ∧ y ≠ z) := by
  have hb : env.blockKind = .function := by unfold Env.blockKind; rw [hk]; rfl
  unfold swappedStores
  simp only [hb, List.length_cons, List.length_nil, bne_self_eq_false, Bool.or_false, Nat.zero_add, Nat.reduceAdd, Nat.reduceBEq, Bool.or_true, Bool.true_or, Bool.not_true, Bool.false_eq_true, if_false]
  have s3 : ∀ p : Expr → Bool, (∀ e, isStar e = false → p e = false) → [a, b, c].any p = false := fun p h => by simp only [List.any_cons, List.any_nil, h a sa, h b sb, h c sc, Bool.or_self]
  rw [s3]
  case a => exact fun e h => by cases e <;> first | rfl | cases h
  simp only [Bool.false_eq_true, if_false, List.head?_cons, Option.map_some, Option.getD_some, Expr.pos, pure_bind, List.filterMap_cons, List.filterMap_nil]
  have kx : env.kindOf x = env.scope.names.lookup x := rfl
  have ky : env.kindOf y = env.scope.names.lookup y := rfl
  have kz : env.kindOf z = env.scope.names.lookup z := rfl
  simp only [kx, ky, kz]
  by_cases hx : env.scope.names.lookup x = some .local
  · by_cases hy : env.scope.names.lookup y = some .local
    · by_cases hz : env.scope.names.lookup z = some .local
      · by_cases hl : py.line = px.line
        · by_cases hl2 : pz.line = px.line
          · by_cases hxy : x = y
            · subst hxy
              left
              by_cases hxz : x = z
              · subst hxz; simp [hx, hl, hl2, List.eraseDups_cons]
              · simp [hx, hz, hl, hl2, List.eraseDups_cons, hxz, Ne.symm hxz]
            · by_cases hxz : x = z
              · subst hxz; left; simp [hx, hy, hl, hl2, List.eraseDups_cons, hxy, Ne.symm hxy]
              · by_cases hyz : y = z
                · subst hyz; left; simp [hx, hy, hl, hl2, List.eraseDups_cons, hxy, Ne.symm hxy]
                · simp only [hx, hy, hz, hl, hl2, beq_self_eq_true, Bool.and_self, if_true]
                  have he : [x, y, z].eraseDups.length = 3 := by simp [List.eraseDups_cons, hxy, Ne.symm hxy, hxz, Ne.symm hxz, hyz, Ne.symm hyz]
                  simp only [he, List.length_cons, List.length_nil, bne_self_eq_false, Bool.or_self, Bool.false_eq_true, if_false]
                  by_cases hf : ([a, b, c].all (PySem.foldedForSure 8)) = true
                  · left; rw [if_pos hf]
                  · right
                    rw [if_neg hf]
                    have hc' : ¬ ([a, b, c].all (PySem.constantsAlone 8)) = true := fun q => by
                      rw [q] at hc
                      simp [hf] at hc
                    rw [if_neg hc']
                    exact ⟨rfl, trivial, trivial, trivial, hxy, hxz, hyz⟩
          · left; simp [hx, hy, hz, hl, hl2]
        · left
          by_cases hl2 : pz.line = px.line <;> simp [hx, hy, hz, hl, hl2]
      · left
        by_cases hl : py.line = px.line <;> by_cases hl2 : pz.line = px.line <;> simp [hx, hy, hz, hl, hl2]
    · left
      by_cases hl : py.line = px.line <;> by_cases hl2 : pz.line = px.line <;> by_cases hz : env.scope.names.lookup z = some .local <;> simp [hx, hy, hz, hl, hl2]
  · left
    by_cases hl : py.line = px.line <;> by_cases hl2 : pz.line = px.line <;> by_cases hz : env.scope.names.lookup z = some .local <;> by_cases hy : env.scope.names.lookup y = some .local <;> simp [hx, hy, hz, hl, hl2]
section
variable {X : Cx} {F : Nm} {T : Tab} {G : Ctx} {call : Nat → List D → Store → R D} {pos pos' : Pos} {e a b : Expr} {f g h : Env → Store → R D}
theorem trLoc_N {sc : Scope} {x : Str} {i : Nat} (h : trLoc T sc x = some i) : T.N[i]? = some x := by
  unfold trLoc at h
  split at h
  · exact ixOf_ok h
  · cases h
theorem parS {x y : Str} {i j k2 kt : Nat} {px py pt pt2 : Pos} (o : Ok X F T G call) (hf : FnLoc X X.env.scope) (hi : trLoc T X.env.scope x = some i) (hj : trLoc T X.env.scope y = some j) (sa : isStar a = false) (sb : isStar b = false)
    (hc : ([a, b].all (PySem.constantsAlone 8) && !([a, b].all (PySem.foldedForSure 8))) = false) (ha : PE X a (tE X.K F f)) (hb : PE X b (tE X.K F g)) :
    PS X (.Assign [.Tuple [.Name x px, .Name y py] kt pt] (.Tuple [a, b] k2 pt2) pos) (tS X.K F fun ρ st => (f ρ st).bind fun x s => (g ρ s).bind fun y s => .ok (.nx, (ρ.set i (some x)).set j (some y)) s) := by
  have hA := consA ha (consA hb nilA (star_one sb)) (star_cons sa)
  refine ⟨fun pins s σ H D I w => ?_⟩
  rcases sw_par (px := px) (py := py) (pt := pt) (pt2 := pt2) (kt := kt) (k2 := k2) (x := x) (y := y) I.ok.kind sa sb hc with hw | ⟨hw, hx, hy, hxy⟩
  · refine (ps_asg (tupE hA) (tupG (F := F) (ts := [.nm i, .nm j]) o.calm (consG (nameG o.hN o.nd hi (hf x (trLoc_loc hi)).1 (hf x (trLoc_loc hi)).2) (consG (nameG o.hN o.nd hj (hf y (trLoc_loc hj)).1 (hf y (trLoc_loc hj)).2) nilG (by rfl)) (by rfl)) rfl rfl rfl) (by rfl) hw).run pins s σ H D I (setQ ?_)
    obtain ⟨μ, ρ, st, S, w⟩ := w
    refine ⟨μ, ρ, st, S, ?_⟩
    simp only [R.bind_assoc, R.bind_ok]
    exact w
  · have hij : i ≠ j := fun q => by
      subst q
      have h1 := trLoc_N hi
      have h2 := trLoc_N hj
      rw [h1] at h2
      exact hxy (Option.some.inj h2)
    refine (ps_par (i := i) (j := j) o.calm o.nd (by rw [o.hN]; exact trLoc_N hi) (by rw [o.hN]; exact trLoc_N hj) hij hx hy hA hw (by rfl)).run pins s σ H D I ?_
    obtain ⟨μ, ρ, st, S, w⟩ := w
    refine ⟨μ, ρ, st, S, ?_⟩
    refine WP.mono (Φ := fun ds s μ' H' => WP X.K F μ' H' (match ds with
      | [x, y] => .ok (.nx, (ρ.set i (some x)).set j (some y)) s
      | _ => .no) (FQ X.K F D)) (WP.bind ?_) fun ds s μ1 H1 P1 w1 vs rs => ?_
    · simp only [R.bind_assoc, R.bind_ok]
      exact w
    · cases rs with
      | nil => exact w1.elim
      | cons r rs =>
        cases rs with
        | nil => exact w1.elim
        | cons r' rs =>
          cases rs with
          | cons _ _ => exact w1.elim
          | nil => exact ⟨_, _, rfl, (WP.ok (Φ := FQ X.K F D) P1.sto w1) _ (((S.post P1).set r i).set r' j)⟩
theorem par3S {x y z : Str} {i j l k2 kt : Nat} {px py pz pt pt2 : Pos} {c : Expr} {fe : Env → Store → R D} {k : Env → Store → R (List D)} (o : Ok X F T G call) (hf : FnLoc X X.env.scope) (hi : trLoc T X.env.scope x = some i) (hj : trLoc T X.env.scope y = some j) (hl : trLoc T X.env.scope z = some l) (sa : isStar a = false) (sb : isStar b = false) (sc : isStar c = false)
    (hc : ([a, b, c].all (PySem.constantsAlone 8) && !([a, b, c].all (PySem.foldedForSure 8))) = false) (hE : PE X (.Tuple [a, b, c] k2 pt2) (tE X.K F fe)) (hA : PA X [a, b, c] (tAs X.K F k)) (hfe : ∀ ρ st, fe ρ st = (k ρ st).bind fun ds s => newT ds s) :
    PS X (.Assign [.Tuple [.Name x px, .Name y py, .Name z pz] kt pt] (.Tuple [a, b, c] k2 pt2) pos) (tS X.K F fun ρ st => (fe ρ st).bind fun d s => (match Nz.T.asg (.tp [.nm i, .nm j, .nm l]) d ρ with
      | some ρ' => .ok (.nx, ρ') s
      | none => .no)) := by
  refine ⟨fun pins s σ H D I w => ?_⟩
  rcases sw_par3 (px := px) (py := py) (pz := pz) (pt := pt) (pt2 := pt2) (kt := kt) (k2 := k2) (x := x) (y := y) (z := z) I.ok.kind sa sb sc hc with hw | ⟨hw, hx, hy, hz, hxy, hxz, hyz⟩
  · refine (ps_asg hE (tupG (F := F) (ts := [.nm i, .nm j, .nm l]) o.calm (consG (nameG o.hN o.nd hi (hf x (trLoc_loc hi)).1 (hf x (trLoc_loc hi)).2) (consG (nameG o.hN o.nd hj (hf y (trLoc_loc hj)).1 (hf y (trLoc_loc hj)).2) (consG (nameG o.hN o.nd hl (hf z (trLoc_loc hl)).1 (hf z (trLoc_loc hl)).2) nilG (by rfl)) (by rfl)) (by rfl)) rfl rfl rfl) (by rfl) hw).run pins s σ H D I (setQ ?_)
    exact w
  · have ne : ∀ {x y : Str} {i j : Nat}, trLoc T X.env.scope x = some i → trLoc T X.env.scope y = some j → x ≠ y → i ≠ j := fun {x y i j} hi hj hxy q => by
      subst q
      have h1 := trLoc_N hi
      have h2 := trLoc_N hj
      rw [h1] at h2
      exact hxy (Option.some.inj h2)
    refine (ps_par3 (i := i) (j := j) (l := l) o.calm o.nd (by rw [o.hN]; exact trLoc_N hi) (by rw [o.hN]; exact trLoc_N hj) (by rw [o.hN]; exact trLoc_N hl) (ne hi hj hxy) (ne hi hl hxz) (ne hj hl hyz) hx hy hz hA hw (by rfl)).run pins s σ H D I ?_
    obtain ⟨μ, ρ, st, S, w⟩ := w
    refine ⟨μ, ρ, st, S, ?_⟩
    simp only [hfe, R.bind_assoc] at w
    refine w.bind.mono fun ds s μ1 H1 P1 w1 vs rs => ?_
    unfold newT at w1
    by_cases hn : ds.length ≤ LINE
    · rw [decide_eq_true hn] at w1
      simp only [R.grd_true, R.bind_ok] at w1
      cases rs with
      | nil => exact w1.elim
      | cons r rs =>
        cases rs with
        | nil => exact w1.elim
        | cons r' rs =>
          cases rs with
          | nil => exact w1.elim
          | cons r'' rs =>
            cases rs with
            | cons _ _ => exact w1.elim
            | nil => exact ⟨_, _, _, rfl, (WP.ok (Φ := FQ X.K F D) P1.sto w1) _ ((((S.post P1).set r i).set r' j).set r'' l)⟩
    · rw [decide_eq_false hn] at w1
      exact w1.elim
theorem ifS {c : Expr} {p q : List Stmt} {fc : Env → Store → R Bool} {fa fb : Env → Store → R (Fl × Nz.Env)} (hc : PT X c (tCo X.K F fc)) (ha : PSs X p (tS X.K F fa)) (hb : PSs X q (tS X.K F fb)) :
    PS X (.If c p q pos) (tS X.K F fun ρ st => (fc ρ st).bind fun k s => (match k with
    | true => fa ρ s
    | false => fb ρ s)) := impS (fun _ => ps_if hc ha hb) fun D σ H ⟨μ, ρ, st, S, w⟩ => by
  refine ⟨μ, ρ, st, S, w.bind.mono fun k s μ1 H1 P1 w1 => ?_⟩
  cases k with
  | true => rw [if_pos rfl]; exact ⟨μ1, ρ, s, S.post P1, w1⟩
  | false => rw [if_neg Bool.false_ne_true]; exact ⟨μ1, ρ, s, S.post P1, w1⟩
theorem nilS : PSs X [] (tS X.K F fun ρ st => .ok (.nx, ρ) st) := impSs pss_nil fun D σ H ⟨μ, ρ, st, S, w⟩ => (WP.ok (Φ := FQ X.K F D) S.sto w) σ S
theorem consS {s : Stmt} {r : List Stmt} {fa fb : Env → Store → R (Fl × Nz.Env)} (ha : PS X s (tS X.K F fa)) (hb : PSs X r (tS X.K F fb)) : PSs X (s :: r) (tS X.K F fun ρ st => (fa ρ st).bind fun p s => (match p.1 with
    | .nx => fb p.2 s
    | f => .ok (f, p.2) s)) := impSs (pss_cons ha hb) fun D σ H ⟨μ, ρ, st, S, w⟩ => by
  refine ⟨μ, ρ, st, S, w.bind.mono fun p s μ1 H1 P1 w1 => ?_⟩
  obtain ⟨fl, ρ'⟩ := p
  cases fl with
  | nx => exact fun σ' S' => ⟨μ1, ρ', s, S', w1⟩
  | bk => exact WP.ok (Φ := FQ X.K F D) P1.sto w1
  | ct => exact WP.ok (Φ := FQ X.K F D) P1.sto w1
  | ret d => exact WP.ok (Φ := FQ X.K F D) P1.sto w1
theorem forS {tg it : Expr} {body : List Stmt} {t : Nz.T} {fi : Env → Store → R Wk} {fb : Env → Store → R (Fl × Nz.Env)} (hp : PassesOwn (model X.prog X.w) X.A X.env X.xe) (hc : X.calm = true) (hi : PI X tg it (tIt X.K F fi)) (hg : PG X tg (gT X.K F t)) (hb : PSs X body (tS X.K F fb)) (hs : isSet it = false) :
    PS X (.For tg it body [] pos) (tS X.K F fun ρ st => (fi ρ st).bind fun w s => forLoop fb t ρ s w.wat w.its ρ s) := impS (fun _ => ps_for hp hc hi hg hb (setFold hs X.env)) fun D σ H ⟨μ, ρ, st, S, w⟩ => by
  refine ⟨μ, ρ, st, S, w.bind.mono fun wk s1 μ1 H1 P1 w1 J hJ => ?_⟩
  let Iv := fun (i : Nat) (σ2 : L2.St) (H2 : Hp) => ∃ (ρ' : Nz.Env) (s2 : Store) (μ2 : Mu), Sim X.K F μ2 ρ' s2 σ2 H2 ∧ Post X.K F μ1 H1 s2 μ2 H2 ∧ i ≤ wk.its.length ∧ WP X.K F μ1 H1 (forLoop fb t ρ s1 wk.wat (wk.its.drop i) ρ' s2) (FQ X.K F D)
  refine ⟨fun i m σ2 H2 => m = wk.its.length - i ∧ Iv i σ2 H2, ⟨wk.its.length, by simp, ρ, s1, μ1, S.post P1, .refl P1.sto, Nat.zero_le _, by simpa using w1⟩, ?_⟩
  rintro i m σ2 H2 ⟨rfl, ρ', s2, μ2, S2, P2, hi, w2⟩
  by_cases hlt : i < wk.its.length
  · have ed : wk.its.drop i = wk.its[i] :: wk.its.drop (i + 1) := List.drop_eq_getElem_cons hlt
    rw [ed] at w2
    simp only [forLoop] at w2
    obtain ⟨hw, w2⟩ := w2.grd
    obtain ⟨j1, j2, j3⟩ := hJ s2 μ2 H2 P2 hw
    refine .inr ⟨j1 i hlt, Iv (i + 1), fun σ' H' h' => ⟨wk.its.length - (i + 1), by omega, rfl, h'⟩, fun x H3 y => ?_⟩
    obtain ⟨d, hd, P3, rd⟩ := j3 i x H3 hlt y
    have hd' : d = wk.its[i] := by
      rw [List.getElem?_eq_getElem hlt] at hd
      exact (Option.some.inj hd).symm
    subst hd'
    have P13 := P2.trans P3
    cases ha : Nz.T.asg t wk.its[i] ρ' with
    | none => rw [ha] at w2; exact w2.elim
    | some ρ1 =>
      rw [ha] at w2
      refine ⟨μ2, ρ', s2, _, ρ1, S2.post P3, rd, ha, fun σ3 S3 _ => ⟨μ2, ρ1, s2, S3, (WP.anchor (μ' := μ2) (H' := H3) w2).mono fun p s4 μ4 H4 P4 w4 => ?_⟩⟩
      obtain ⟨fl, ρ4⟩ := p
      have P14 := P13.trans P4
      cases fl with
      | nx => exact fun σ' S' => let ⟨μ5, P5, S5⟩ := cutE_ok P1.sto P14 (S'.mask ρ); ⟨mask ρ ρ4, _, μ5, S5, P5, hlt, w4⟩
      | ct => exact fun σ' S' => let ⟨μ5, P5, S5⟩ := cutE_ok P1.sto P14 (S'.mask ρ); ⟨mask ρ ρ4, _, μ5, S5, P5, hlt, w4⟩
      | bk => exact fun σ' S' => let ⟨μ5, P5, S5⟩ := cutE_ok P1.sto P14 (S'.mask ρ); w4 μ5 H4 P5 σ' S5
      | ret v => exact fun u ru => w4 μ4 H4 P14 u ru
  · have e : i = wk.its.length := by omega
    subst e
    rw [List.drop_length] at w2
    simp only [forLoop] at w2
    obtain ⟨hw, w2⟩ := w2.grd
    obtain ⟨j1, j2, j3⟩ := hJ s2 μ2 H2 P2 hw
    exact .inl ⟨j2, w2 μ2 H2 P2 σ2 S2⟩
theorem whlS {c : Expr} {body : List Stmt} {fc : Env → Store → R Bool} {fb : Env → Store → R (Fl × Nz.Env)} (hp : PassesOwn (model X.prog X.w) X.A X.env X.xe) (hc : PT X c (tCo X.K F fc)) (hb : PSs X body (tS X.K F fb)) :
    PS X (.While c body [] pos) (tS X.K F fun ρ st => whlLoop fc fb ρ st WF ρ st) := impS (fun _ => ps_while hp hc hb) fun D σ H ⟨μ, ρ, st, S, w⟩ => by
  refine ⟨fun m σ2 H2 => ∃ (ρ' : Nz.Env) (s2 : Store) (μ2 : Mu), Sim X.K F μ2 ρ' s2 σ2 H2 ∧ Post X.K F μ H s2 μ2 H2 ∧ WP X.K F μ H (whlLoop fc fb ρ st m ρ' s2) (FQ X.K F D), ⟨WF, ρ, st, μ, S, .refl S.sto, w⟩, ?_⟩
  rintro m σ2 H2 ⟨ρ', s2, μ2, S2, P2, w2⟩
  cases m with
  | zero => exact w2.elim
  | succ n =>
    have w2 : WP X.K F μ H ((fc ρ' s2).bind fun b s => (match b with
      | false => .ok (.nx, ρ') s
      | true => (fb ρ' s).bind fun p s => (match p.1 with
        | .nx => whlLoop fc fb ρ st n (mask ρ p.2) (cutE st (mask ρ p.2) s)
        | .ct => whlLoop fc fb ρ st n (mask ρ p.2) (cutE st (mask ρ p.2) s)
        | .bk => .ok (.nx, mask ρ p.2) (cutE st (mask ρ p.2) s)
        | .ret v => .ok (.ret v, p.2) s))) (FQ X.K F D) := w2
    refine ⟨μ2, ρ', s2, S2, (WP.anchor (μ' := μ2) (H' := H2) w2).mono fun k s3 μ3 H3 P3 w3 => ?_⟩
    cases k with
    | false =>
      rw [if_neg Bool.false_ne_true]
      exact w3 μ3 H3 (P2.trans P3) σ2 (S2.post P3)
    | true =>
      rw [if_pos rfl]
      refine ⟨_, fun σ' H' h' => ⟨n, Nat.lt_succ_self n, h'⟩, μ3, ρ', s3, S2.post P3, (WP.anchor (μ' := μ3) (H' := H3) w3).mono fun p s4 μ4 H4 P4 w4 => ?_⟩
      obtain ⟨fl, ρ4⟩ := p
      have P14 := (P2.trans P3).trans P4
      cases fl with
      | nx => exact fun σ' S' => let ⟨μ5, P5, S5⟩ := cutE_ok S.sto P14 (S'.mask ρ); ⟨mask ρ ρ4, _, μ5, S5, P5, w4⟩
      | ct => exact fun σ' S' => let ⟨μ5, P5, S5⟩ := cutE_ok S.sto P14 (S'.mask ρ); ⟨mask ρ ρ4, _, μ5, S5, P5, w4⟩
      | bk => exact fun σ' S' => let ⟨μ5, P5, S5⟩ := cutE_ok S.sto P14 (S'.mask ρ); w4 μ5 H4 P5 σ' S5
      | ret v => exact fun u ru => w4 μ4 H4 P14 u ru
theorem Kit.inj {K : PySem.W.Frag} (k : Kit K F) {c d : Nat} {C : Addr} (h1 : F.cls c = some C) (h2 : F.cls d = some C) : c = d := k.ij c d C h1 h2
theorem setF_ok {K : PySem.W.Frag} {μ : Mu} {H : Hp} {st : Store} {α : Type} {x d : D} {v z : V} {i : Nat} {n : Str} {c : D → Store → R α} {Φ : α → Store → Mu → Hp → Prop} {Q : Hp → Prop} (nd : F.fld.Nodup) (hx : F.fld[i]? = some n) (S : Sto K F μ st H) (rx : Rp K μ H x v) (rd : Rp K μ H d z) (w : WP K F μ H ((setField x i d st).bind c) Φ)
    (hq : ∀ st' H', Post K F μ H st' μ H' → WP K F μ H' (c .non st') Φ → Q H') : ∃ (a C dx : Addr) (j : Nat) (fs : List (Str × V)), v = .ref a ∧ H a = some (.ins C dx fs) ∧ F.cls j = some C ∧ clsOf x st = some j ∧ fs.length < 1000 ∧ Q (upd H a (.ins C dx (L2.putF n z fs))) := by
  cases rx with
  | @ref l p b hl =>
    have w : WP K F μ H (R.bind (match st[l]? with
      | some (.ins c fs) => R.grd (decide (fs.length < 100)) (.ok .non (st.set l (.ins c (putF i d fs))))
      | _ => .no) c) Φ := w
    split at w
    · rename_i j fs hst
      by_cases hlen : fs.length < 100
      · rw [decide_eq_true hlen, R.grd_true, R.bind_ok] at w
        obtain ⟨C, dx, fv, h1, h2, h3⟩ := S.back hst hl rfl
        refine ⟨p, C, dx, j, fv, rfl, h2, h1, by simp only [clsOf, hst], by rw [← h3.length]; omega, ?_⟩
        have kt : ∀ a xs, H a = some (.tup xs) → upd H p (.ins C dx (L2.putF n z fv)) a = some (.tup xs) := fun a xs z => by rw [upd_ne (fun q => by subst q; rw [h2] at z; cases z)]; exact z
        have kf : ∀ a o x, H a = some (.frz o x) → upd H p (.ins C dx (L2.putF n z fv)) a = some (.frz o x) := fun a o x z => by rw [upd_ne (fun q => by subst q; rw [h2] at z; cases z)]; exact z
        have P : Post K F μ H (st.set l (.ins j (putF i d fs))) μ (upd H p (.ins C dx (L2.putF n z fv))) := Post.write S hst hl rfl h2 trivial ⟨C, dx, _, h1, upd_same, (putF_ok nd hx rd h3).mono (List.prefix_refl _) kt kf⟩
        refine hq _ _ P ?_
        revert w
        cases c .non (st.set l (.ins j (putF i d fs))) with
        | no => exact id
        | ok a s => exact fun w μ2 H2 P2 => w μ2 H2 (P.trans P2)
      · rw [decide_eq_false hlen] at w
        exact w.elim
    · exact w.elim
  | _ => exact w.elim
theorem stfS (o : Ok X F T G call) {n : Str} {i : Nat} {tpos : Pos} (hx : T.fld[i]? = some n) (he : PE X e (tE X.K F f)) (ha : PE X a (tE X.K F g)) :
    PS X (.Assign [.Attribute a n tpos] e pos) (tS X.K F fun ρ st => (f ρ st).bind fun d s => (g ρ s).bind fun x s => (setField x i d s).bind fun _ s => .ok (.nx, ρ) s) := by
  refine impS (fun _ => ps_fld ha he (by cases e <;> rfl)) fun D σ H ⟨μ, ρ, st, S, w⟩ => ?_
  refine ⟨μ, ρ, st, S, w.bind.mono fun d s μ1 H1 P1 w1 z rz => ?_⟩
  refine ⟨μ1, ρ, s, S.post P1, w1.bind.mono fun x s2 μ2 H2 P2 w2 v rv => ?_⟩
  obtain ⟨p, C, dx, j, fs, e1, e2, e3, e4, e5, q⟩ := setF_ok (F := F) (n := n) (by rw [o.fld]; exact o.fnd) (by rw [o.fld]; exact hx) P2.sto rv (rz.post P2) w2 fun st' H' P w4 => (WP.ok (Φ := FQ X.K F D) P.sto w4) _ (((S.post P1).post P2).post P)
  exact ⟨p, C, dx, fs, e1, e2, o.kit.cl j C e3, o.noat j C n e3 (List.mem_of_getElem? hx), e5, q⟩
theorem augfS (o : Ok X F T G call) {n : Str} {i : Nat} {tpos : Pos} {op : Operator} {ob : BinO} (hx : T.fld[i]? = some n) (ho : trBin op = some ob) (hp : ob ≠ .pow) (he : PE X e (tE X.K F f)) (ha : PE X a (tE X.K F g)) :
    PS X (.AugAssign (.Attribute a n tpos) op e pos) (tS X.K F fun ρ st => (g ρ st).bind fun x s0 => (field x i s0).bind fun v s => (f ρ s).bind fun z s => R.grd (clsOf x s0 == clsOf x s) (match v, z with
    | .int _, .int _ => (binop ob v z s).bind fun d s => (setField x i d s).bind fun _ s => .ok (.nx, ρ) s
    | _, _ => .no)) := by
  refine impS (fun _ => ps_fldaug ha he (rd := ipA ob) (ipA_ok ho hp)) fun D σ H ⟨μ, ρ, st, S, w⟩ => ?_
  refine ⟨μ, ρ, st, S, w.bind.mono fun x s μ1 H1 P1 w1 v rv => ?_⟩
  cases hfd : field x i s with
  | no => rw [hfd] at w1; exact w1.elim
  | ok d s' =>
    rw [hfd] at w1
    obtain ⟨rfl, a, C, dx, c, fv, z, h1, h2, h3, h4, h5⟩ := field_ok (F := F) (by rw [o.fld]; exact o.fnd) (by rw [o.fld]; exact hx) P1.sto rv hfd
    have hcx : clsOf x s' = some c := by
      cases rv with
      | @ref l p b hl =>
        simp only [field] at hfd
        split at hfd
        · rename_i c' fs hst
          obtain ⟨C', dx', fv', g1, g2, g3⟩ := P1.sto.back hst hl rfl
          cases h1
          rw [h3] at g2
          cases g2
          simp only [clsOf, hst]
          rw [Kit.inj o.kit g1 h2]
        · cases hfd
      | _ => simp only [field] at hfd; cases hfd
    refine ⟨a, C, dx, fv, z, h1, h3, o.kit.cl c C h2, o.noat c C n h2 (List.mem_of_getElem? hx), h4, μ1, ρ, s', S.post P1, (WP.bind (r := f ρ s') w1).mono fun y s2 μ2 H2 P2 w2 u ru => ?_⟩
    obtain ⟨hcl, w2⟩ := w2.grd
    obtain ⟨i1, i2, i3, e1, e2, hk, w3⟩ := augQ P2.sto (h5.post P2) ru w2
    refine ⟨i1, i2, i3, e1, e2, hk, ?_⟩
    obtain ⟨p, C', dx', j, fs, e1, e2, e3, e4, e5, q⟩ := setF_ok (F := F) (n := n) (by rw [o.fld]; exact o.fnd) (by rw [o.fld]; exact hx) P2.sto (rv.post P2) (.int i3) w3 fun st' H' P w4 => (WP.ok (Φ := FQ X.K F D) P.sto w4) _ (((S.post P1).post P2).post P)
    rw [h1] at e1
    cases e1
    have : j = c := by
      have := eq_of_beq hcl
      rw [hcx, e4] at this
      exact (Option.some.inj this).symm
    subst this
    rw [h2] at e3
    cases e3
    exact ⟨dx', fs, e2, e5, q⟩
end
end Nz
namespace Nz
open PySem L2 PyProof.Rows
section
variable {X : Cx} {F : Nm} {T₀ : Tab} {G : Ctx} {call : Nat → List D → Store → R D}
theorem lckS {s : Stmt} {f : Env → Store → R D} {g : Env → Store → R (Fl × Nz.Env)} (hs : PS X s (tS X.K F g)) : PS X s (tS X.K F fun ρ st => lckR (f ρ st) st fun s => g ρ s) :=
  impS (fun _ => ps_lock hs) fun D σ H ⟨μ, ρ, st, S, w⟩ => by
    obtain ⟨l, a, u, t, kvs, hu, mu, k⟩ := lck_ok S.sto w
    refine ⟨a, u, hu, mu, fun od => ?_⟩
    obtain ⟨P, w1⟩ := k od
    refine ⟨μ, ρ, _, S.post P, w1.mono fun p s μ1 H1 P1 w2 => ?_⟩
    obtain ⟨hz, s2, P2, q, w3⟩ := w2
    have sim : ∀ ρ' σ', Sim X.K F μ1 ρ' s σ' H1 → Sim X.K F μ1 ρ' s2 σ' (upd H1 a u) := fun ρ' σ' S' =>
      ⟨S'.len, fun i d e => let ⟨v, h, r⟩ := S'.env i d e; ⟨v, h, q d v r⟩, P2.sto⟩
    obtain ⟨fl, ρ1⟩ := p
    cases fl with
    | nx => exact fun σ' S' => ⟨hz, w3 σ' (sim _ _ S')⟩
    | bk => exact fun σ' S' => ⟨hz, w3 σ' (sim _ _ S')⟩
    | ct => exact fun σ' S' => ⟨hz, w3 σ' (sim _ _ S')⟩
    | ret d => exact fun v rv => ⟨hz, w3 v (q d v rv)⟩
theorem wrapSt {s : Stmt} {E : Nz.S} {i : Nz.Iw} (h : PS X s (tS X.K F (ex G call E))) : PS X s (tS X.K F (ex G call (wrapS i E))) := by
  cases i <;> first
    | exact h
    | exact impS (fun _ => lckS (f := ev G call _) h) fun D σ H ⟨μ, ρ, st, S, w⟩ => ⟨μ, ρ, st, S, by rw [wrapS, ex] at w; exact w⟩
section
variable {prog : Program} {w : World} {A : Around} {E : Value → Shared → Prop} {s : Shared}
theorem star_items {l : Addr} {items : Array Value} {i : Nat} {Q : List Value → Shared → Prop} (hl : IsTup s.heap l items) (hh : A.handled = none) (hi : i ≤ items.size) (hz : items.size ≤ 16384)
    (h : ∀ (h₂ : Heap) (tk : Nat), (∀ b o, s.heap.get? b = some o → h₂.get? b = some o) → Q (items.toList.take i ++ [.ref h₂.objs.size]) { s with heap := h₂.push { cls := .type "list", data := .seq (items.toList.drop i).toArray }, toks := tk }) :
    wpAny (model prog w) A (unpackItems (.ref l) (i + 1) (some i)) Q E s := by
  have lt : l ≠ s.heap.objs.size := by obtain ⟨o, ho, _⟩ := hl; exact Nat.ne_of_lt (Heap.lt_size ho)
  have lz : (items.toList.take i).length = i := by rw [List.length_take, Array.length_toList]; omega
  unfold unpackItems
  refine wpAny_bind ?_
  unfold notIterableAtAll
  refine wpAny_bind (wpAny_specialOf hl.typeIs slot_tuple_iter.lookup (wpAny_pure ?_))
  simp only [Bool.false_eq_true, if_false]
  refine wpAny_bind (wpAny_holding (iter_tuple hl (wpAny_bind (wpAny_holding (draw_tuple lt i 0 _ _ ⟨_, Heap.get?_push_size _ rfl, rfl, rfl⟩ (hl.push _) (by omega) fun h₁ hit hs => ?_)))))
  have hl1 : IsTup h₁ l items := (hl.push _).extBut hs.extBut lt
  rw [Nat.zero_add] at hit
  obtain ⟨oi, hoi, hoi2⟩ := hit
  obtain ⟨ol, hol, hol2⟩ := hl1
  rw [List.drop_zero, if_neg (by rw [lz]; exact Nat.lt_irrefl _)]
  refine wpAny_bind (wpAny_holding (PySem.W.kun_collect (s := { s with heap := h₁ }) (T := "tuple_iterator") (.inr (.inr (.inr rfl))) (Walks.tuple (A := A.in1) hh s.heap.objs.size l lt items) (fun j u st => st.1.typeIs) (k := i) hi ⟨⟨oi, hoi, hoi2⟩, ⟨ol, hol, hol2⟩⟩ (Heap.lt_size hoi) (Heap.lt_size hol) (fun h₂ tk hk => ?_) (by rw [sizeLine_eq]; omega)))
  have e0 : i + 1 - 1 - i = 0 := by omega
  simp only [e0, Nat.not_lt_zero, if_false, Nat.sub_zero, List.take_length, List.drop_length, List.append_nil]
  refine wpAny_bind (wpAny_newList (wpAny_pure (h h₂ tk fun b o e => ?_)) (by rw [List.length_drop, Array.length_toList, sizeLine_eq]; omega))
  have nb : b ≠ s.heap.objs.size := Nat.ne_of_lt (Heap.lt_size e)
  exact hk b o nb (hs.extBut b o nb (Heap.get?_push_of_some _ e))
end
/-- targets ahead of one with a star -/
def gStar (K : PySem.W.Frag) (i : Nat) (t : TGs) : TG := fun v σ H Q => ∃ a xs, v = .ref a ∧ SqT K H a xs ∧ i ≤ xs.length ∧ xs.length ≤ 1000 ∧ ∀ p, H p = none → t (xs.take i ++ [.ref p]) σ (upd H p (.lst (xs.drop i))) Q
theorem pg_star {es : List Expr} {k : Nat} {pos : Pos} {t : TGs} {i : Nat} (hc : X.calm = true) (h : PGs X es t) (hn : (assignEach es X.env).length = i + 1) (hst : (assignEach es X.env).findIdx? (·.1) = some i) : PG X (.Tuple es k pos) (gStar X.K i t) := by
  refine ⟨fun pins s σ H v u Q I r hw => ?_⟩
  obtain ⟨a, xs, e1, hq, hl, hl2, hw⟩ := hw
  subst e1
  cases r
  obtain ⟨its, rv, ht, hz⟩ := I.tuple hq
  have hlen := rv.length
  rw [assign_Tuple]
  refine wpAny_bind (wpAny_standAt ?_)
  unfold unpack
  rw [hn, hst]
  refine wpAny_bind (wpAny_holding (star_items ht (I.ok.hd hc) (by rw [List.size_toArray]; omega) (by rw [List.size_toArray]; omega) fun h₂ tk hx => ?_))
  have I1 : Inv X pins σ H { s with heap := h₂, toks := tk } := I.kept hx
  have rd : Vals (xs.drop i) (its.drop i) := by
    clear hw hq hl hl2 hlen hz ht hst hn
    induction i generalizing xs its with
    | zero => exact rv
    | succ i ih => cases rv with
      | nil => exact .nil
      | cons _ t => exact ih _ _ t
  have rt : Vals (xs.take i) (its.take i) := by
    clear hw hq hl hl2 hlen hz ht hst hn rd
    induction i generalizing xs its with
    | zero => exact .nil
    | succ i ih => cases rv with
      | nil => exact .nil
      | cons r t => exact .cons r (ih _ _ t)
  have rr : ∀ {as bs : List V} {us ws : List Value}, Vals as us → Vals bs ws → Vals (as ++ bs) (us ++ ws) := fun {as bs us ws} g1 g2 => by
    induction g1 with
    | nil => exact g2
    | cons r _ ih => exact .cons r ih
  have I2 : Inv X pins σ (upd H h₂.objs.size (.lst (xs.drop i))) { s with heap := h₂.push { cls := .type "list", data := .seq (its.drop i).toArray }, toks := tk } :=
    I1.laid (a := h₂.objs.size) (t' := tk) (fun b o e => Heap.get?_push_of_some _ e) (Nat.le_refl _) (show ObjOk X.prog X.w _ _ _ (.lst (xs.drop i)) from ⟨by rw [List.length_drop]; omega, its.drop i, 0, rd, Heap.get?_push_size _ rfl⟩)
  exact h.run pins _ σ _ _ _ Q I2 (rr rt (.cons (show L2.RelV (V.ref h₂.objs.size) (Value.ref h₂.objs.size) from rfl) .nil)) (hw _ (I1.hok.fresh (Nat.le_refl _)))
theorem starLast_ok : ∀ {es fs : List Expr} {r : Expr}, starLast es = some (fs, r) → (∃ p, es = fs ++ [.Starred r p]) ∧ ∀ e ∈ fs, isStar e = false
  | [], _, _, h => by simp only [starLast, reduceCtorEq] at h
  | e :: es, fs, r, h => by
    unfold starLast at h
    split at h
    · rename_i heq
      cases heq
      cases h
      exact ⟨⟨_, rfl⟩, fun _ m => by cases m⟩
    · cases h
    · rename_i e' es' h1 h2 heq
      cases heq
      split at h
      · rename_i fs' r' hq
        cases h
        obtain ⟨⟨p, rfl⟩, h3⟩ := starLast_ok hq
        refine ⟨⟨p, rfl⟩, fun e m => ?_⟩
        rcases List.mem_cons.mp m with rfl | m
        · cases e <;> first | rfl | exact absurd rfl (h2 _ _)
        · exact h3 e m
      · cases h
    · cases h
theorem unpG {n : Nat} (hN : X.N = T₀.N) (nd : X.N.Nodup) (hc : X.calm = true) {sc : Scope} (hf : FnLoc X sc) {r : Expr} {p : Pos} {tr : Nz.T} (hr : trT T₀ sc n r = some tr) : ∀ (fs : List Expr) (ts : List Nz.T), (∀ e ∈ fs, isStar e = false) → fs.mapM (trT T₀ sc n) = some ts →
    PGs X (fs ++ [.Starred r p]) (gTs X.K F (ts ++ [tr])) ∧ ts.length = fs.length ∧ (assignEach (fs ++ [.Starred r p]) X.env).length = fs.length + 1 ∧ (assignEach (fs ++ [.Starred r p]) X.env).findIdx? (·.1) = some fs.length := by
  intro fs
  induction fs with
  | nil =>
    intro ts _ q
    simp only [List.mapM_nil, Option.pure_def, Option.some.injEq] at q
    subst q
    refine ⟨?_, rfl, rfl, rfl⟩
    refine ⟨fun pins s σ H vs us Q I rv w => ?_⟩
    obtain ⟨μ, ρ, st, ds, ρ', S, rs, e, q⟩ := w
    cases rs with
    | nil => simp only [List.nil_append, Nz.T.asgs] at e; cases e
    | @cons d v ds vs rd rs =>
      cases rs with
      | cons _ _ =>
        simp only [List.nil_append, Nz.T.asgs] at e
        cases hq : Nz.T.asg tr d ρ with
        | none => rw [hq] at e; cases e
        | some ρ1 => rw [hq] at e; cases e
      | nil =>
        simp only [List.nil_append, Nz.T.asgs] at e
        cases hq : Nz.T.asg tr d ρ with
        | none => rw [hq] at e; cases e
        | some ρ1 =>
          rw [hq] at e
          cases e
          cases rv with
          | cons ru t =>
            cases t
            have g := trT_ok (F := F) hN nd hc hf n hr
            show wpAny _ _ (assignInOrder [assign r X.env] _) _ _ _
            refine assignInOrder_cons (thn (g.run pins s σ H _ _ _ I ru ⟨μ, ρ, st, d, _, S, rd, hq, fun σ' S' n' => ?_⟩) fun _ s1 z => assignInOrder_nil z)
            exact q σ' S' ⟨n'.1, fun i hi => n'.2 i (by simpa [Nz.T.slotss] using hi)⟩
  | cons e fs ih =>
    intro ts hs q
    rw [List.mapM_cons] at q
    cases q1 : trT T₀ sc n e with
    | none => simp only [q1, Option.bind_eq_bind, Option.bind_none, reduceCtorEq] at q
    | some t =>
      cases q2 : fs.mapM (trT T₀ sc n) with
      | none => simp only [q1, q2, Option.bind_eq_bind, Option.bind_none, Option.bind_some, reduceCtorEq] at q
      | some ts' =>
        simp only [q1, q2, Option.bind_eq_bind, Option.bind_some, Option.pure_def, Option.some.injEq] at q
        subst q
        obtain ⟨a1, a2, a3, a4⟩ := ih ts' (fun e h => hs e (List.mem_cons_of_mem _ h)) q2
        have hh : assignEach (e :: (fs ++ [.Starred r p])) X.env = (false, assign e X.env) :: assignEach (fs ++ [.Starred r p]) X.env := by
          have := hs e (List.mem_cons_self ..)
          cases e <;> first | rfl | cases this
        refine ⟨consG (trT_ok hN nd hc hf n q1) a1 (by rw [show e :: fs.append [.Starred r p] = e :: (fs ++ [.Starred r p]) from rfl, hh]; rfl), by simp [a2], by rw [List.cons_append, hh]; simp [a3], ?_⟩
        rw [List.cons_append, hh, List.findIdx?_cons, a4]; rfl
theorem asgs_snoc : ∀ {ts : List Nz.T} {ds : List D} {tr : Nz.T} {d : D} {ρ ρ1 ρ2 : Nz.Env}, Nz.T.asgs ts ds ρ = some ρ1 → Nz.T.asg tr d ρ1 = some ρ2 → Nz.T.asgs (ts ++ [tr]) (ds ++ [d]) ρ = some ρ2
  | [], [], _, _, _, _, _, h, h2 => by
    simp only [Nz.T.asgs, Option.some.injEq] at h
    subst h
    simp only [List.nil_append, Nz.T.asgs, h2]
  | [], _ :: _, _, _, _, _, _, h, _ => by simp only [Nz.T.asgs] at h; cases h
  | _ :: _, [], _, _, _, _, _, h, _ => by simp only [Nz.T.asgs] at h; cases h
  | t :: ts, d :: ds, _, _, ρ, _, _, h, h2 => by
    simp only [Nz.T.asgs] at h
    cases e : Nz.T.asg t d ρ with
    | none => rw [e] at h; cases h
    | some ρ0 =>
      rw [e] at h
      simp only [List.cons_append, Nz.T.asgs, e]
      exact asgs_snoc h h2
theorem unpS {n : Nat} {es fs : List Expr} {k : Nat} {e r : Expr} {f : Env → Store → R D} {ts : List Nz.T} {tr : Nz.T} {pos pos' : Pos} (hN : X.N = T₀.N) (nd : X.N.Nodup) (hc : X.calm = true) (hf : FnLoc X X.env.scope) (h0 : starLast es = some (fs, r)) (h1 : fs.mapM (trT T₀ X.env.scope n) = some ts) (h2 : trT T₀ X.env.scope n r = some tr)
    (he : PE X e (tE X.K F f)) (hs : swapsWith e (some (.Tuple es k pos')) pos.line X.env = pure false) (hw : swappedStores [.Tuple es k pos'] e X.env = pure none) :
    PS X (.Assign [.Tuple es k pos'] e pos) (tS X.K F fun ρ st => (f ρ st).bind fun d s => (match d with
    | .tup ds => R.grd (decide (ts.length ≤ ds.length) && decide (ds.length ≤ 1000)) (match Nz.T.asgs ts (ds.take ts.length) ρ with
      | some ρ1 => (match Nz.T.asg tr (.ref s.length) ρ1 with
        | some ρ2 => .ok (.nx, ρ2) (s ++ [.lst (ds.drop ts.length)])
        | none => .no)
      | none => .no)
    | _ => .no)) := by
  obtain ⟨⟨p, rfl⟩, h3⟩ := starLast_ok h0
  obtain ⟨a1, a2, a3, a4⟩ := unpG (F := F) (p := p) hN nd hc hf h2 fs ts h3 h1
  refine impS (fun _ => ps_asg he (pg_star hc a1 a3 a4) hs hw (by rfl)) fun D σ H ⟨μ, ρ, st, S, w⟩ => ?_
  refine ⟨μ, ρ, st, S, w.bind.mono fun d s μ1 H1 P1 w1 v rv => ?_⟩
  cases rv with
  | @tup ds a vs hq rs =>
    simp only at w1
    obtain ⟨hg, w1⟩ := w1.grd
    simp only [Bool.and_eq_true, decide_eq_true_eq] at hg
    have hl := rs.length
    refine ⟨a, vs, rfl, .of hq, by omega, by omega, fun q hqn => ?_⟩
    cases g1 : Nz.T.asgs ts (ds.take ts.length) ρ with
    | none => rw [g1] at w1; exact w1.elim
    | some ρ1 =>
      rw [g1] at w1
      simp only at w1
      cases g2 : Nz.T.asg tr (.ref s.length) ρ1 with
      | none => rw [g2] at w1; exact w1.elim
      | some ρ2 =>
        rw [g2] at w1
        have kt : ∀ b xs, H1 b = some (.tup xs) → upd H1 q (.lst (vs.drop fs.length)) b = some (.tup xs) := fun b xs e => by
          rw [upd_ne (fun z => by subst z; rw [hqn] at e; cases e)]; exact e
        have kf : ∀ b o w, H1 b = some (.frz o w) → upd H1 q (.lst (vs.drop fs.length)) b = some (.frz o w) := fun b o w e => by
          rw [upd_ne (fun z => by subst z; rw [hqn] at e; cases e)]; exact e
        have P := Post.push (u := .lst (vs.drop fs.length)) (o := .lst (ds.drop ts.length)) P1.sto hqn ⟨_, upd_same, by rw [a2]; exact (rs.drop _).mono (List.prefix_append _ _) kt kf⟩
        refine ⟨μ1 ++ [(q, false)], ρ, _, ds.take ts.length ++ [.ref s.length], ρ2, (S.post P1).post P, ?_, asgs_snoc g1 g2, fun σ' S' _ => w1 _ _ P σ' S'⟩
        rw [a2]
        exact ((rs.take _).mono (List.prefix_append _ _) kt kf).append (.cons (.ref (b := false) (by rw [← P1.sto.len]; simp)) .nil)
  | _ => exact w1.elim
end
end Nz
namespace Nz
open PySem L2 PyProof.Rows
structure AllS (F : Nm) (T : Tab) (G : Ctx) (call : Nat → List D → Store → R D) (n : Nat) : Prop where
  s : ∀ {X : Cx} {s : Stmt} {E : Nz.S}, Ok X F T G call → FnLoc X X.env.scope → PassesOwn (model X.prog X.w) X.A X.env X.xe → trS T X.env.scope n s = some E → PS X s (tS X.K F (ex G call E))
  ss : ∀ {X : Cx} {s : List Stmt} {E : Nz.Ss}, Ok X F T G call → FnLoc X X.env.scope → PassesOwn (model X.prog X.w) X.A X.env X.xe → trSs T X.env.scope n s = some E → PSs X s (tS X.K F (exs G call E))
section
variable {F : Nm} {T : Tab} {G : Ctx} {call : Nat → List D → Store → R D} {n : Nat}
/-- name = value, of any kind -/
theorem setS {X : Cx} {x : Str} {i : Nat} {e : Expr} {E : Nz.E} {pos pos' : Pos} (o : Ok X F T G call) (hf : FnLoc X X.env.scope) (hi : trLoc T X.env.scope x = some i) (h2 : isComp2 e = false) (h3 : isItmC T e = false) (he : trE T n X.env.scope e = some E) :
    PS X (.Assign [.Name x pos'] e pos) (tS X.K F (ex G call (.set (.nm i) E))) := by
  refine ⟨fun pins s σ H D I w => ?_⟩
  have pe := (allE n).e o he
  by_cases hc : isComp e = true
  · cases e with
    | ListComp elt gs scope p2 =>
      obtain ⟨m, rfl⟩ : ∃ m, n = m + 1 := by
        cases n with
        | zero => simp only [trE, reduceCtorEq] at he
        | succ m => exact ⟨m, rfl⟩
      obtain ⟨tg, it, ifs, rfl, hs, own, t, ii, e, c, rfl, hno, hsl, hB, hI, hg, ht, he'⟩ := s_comp (allE m) o (by match gs, h2 with | [], _ => simp | [_], _ => simp) he
      have hno := hno (by simpa [isItmC] using h3)
      rw [hno] at pe w
      have hb : X.env.blockKind = .function := by unfold Env.blockKind; rw [I.ok.kind]; rfl
      have hsw : ∃ b, swapsWith (.ListComp elt [⟨tg, it, ifs, 0⟩] scope p2) (some (.Name x pos')) pos.line X.env = pure b ∧ (b = true → X.env.scope.names.lookup x = some .local) := by
        refine ⟨_, rfl, fun h => ?_⟩
        simp only [Bool.and_eq_true] at h
        exact eq_of_beq h.1.1.2
      obtain ⟨b, hb1, hb2⟩ := hsw
      cases b with
      | false => exact (ps_set (i := i) o.nd (by rw [o.hN]; exact trLoc_N hi) (trLoc_loc hi) pe hb1 (hf x (trLoc_loc hi)).2).run pins s σ H D I (setQ1 w)
      | true =>
        refine (ps_setLc (i := i) o.calm o.nd (by rw [o.hN]; exact trLoc_N hi) (hb2 rfl) hb1 hI hB hg ht he' (setFold hs X.env)).run pins s σ H D I ?_
        exact compE (elt := elt) (tg := tg) (iter := it) (ifs := ifs) (scope := scope) (pos := p2) hsl (setQ1 w)
    | SetComp _ _ _ _ => 
      cases n with
      | zero => simp only [trE, reduceCtorEq] at he
      | succ m => simp only [trE, reduceCtorEq] at he
    | DictComp _ _ _ _ _ => cases h2
    | _ => cases hc
  · exact (ps_set (i := i) o.nd (by rw [o.hN]; exact trLoc_N hi) (trLoc_loc hi) pe (compN (by simpa using hc)) (hf x (trLoc_loc hi)).2).run pins s σ H D I (setQ1 w)
theorem swNone {e tg : Expr} {env : PySem.Env} (h : isTup e = false) : swappedStores [tg] e env = pure none := by
  cases e <;> first | (cases tg <;> rfl) | cases h
theorem swNone4 {e : Expr} {es : List Expr} {k : Nat} {p : Pos} {env : PySem.Env} (h : (isTup e && decide (es.length < 4)) = false) : swappedStores [.Tuple es k p] e env = pure none := by
  by_cases h1 : isTup e = true
  · rw [h1, Bool.true_and, decide_eq_false_iff_not] at h
    cases e <;> first | (cases h1; done) | skip
    unfold swappedStores
    have e1 : (es.length == 2 || es.length == 3) = false := by
      rw [Bool.or_eq_false_iff]
      constructor <;> (simp only [beq_eq_false_iff_ne]; omega)
    simp only [e1, Bool.not_false, Bool.true_or, if_true]
  · exact swNone (by simpa using h1)
theorem setTS {X : Cx} {es : List Expr} {k : Nat} {t : Nz.T} {e : Expr} {E : Nz.E} {pos pos' : Pos} (o : Ok X F T G call) (hf : FnLoc X X.env.scope) (h1 : isComp e = false) (h2 : (isTup e && decide (es.length < 4)) = false) (ht : trT T X.env.scope n (.Tuple es k pos') = some t) (he : trE T n X.env.scope e = some E) :
    PS X (.Assign [.Tuple es k pos'] e pos) (tS X.K F (ex G call (.set t E))) :=
  impS (fun _ => ps_asg ((allE n).e o he) (trT_ok o.hN o.nd o.calm hf n ht) (compN (t := some (.Tuple es k pos')) (l := pos.line) (env := X.env) h1) (swNone4 h2) (by rfl)) fun D σ H w => setQ w
theorem trIx_sl {sc : Scope} {i : Expr} {E : Nz.E} (h : trIx T n sc i = some E) : ∀ lo hi st p, i ≠ .Slice lo hi st p := by
  intro lo hi st p q
  subst q
  cases n with
  | zero => simp only [trIx, reduceCtorEq] at h
  | succ m => simp only [trIx, reduceCtorEq] at h
theorem s_asg {X : Cx} {ts : List Expr} {e : Expr} {pos : Pos} {E : Nz.S} (o : Ok X F T G call) (hf : FnLoc X X.env.scope) (h : trS T X.env.scope (n + 1) (.Assign ts e pos) = some E) : PS X (.Assign ts e pos) (tS X.K F (ex G call E)) := by
  cases ts with
  | nil => simp only [trS, reduceCtorEq] at h
  | cons t ts =>
  cases ts with
  | cons _ _ => simp only [trS, reduceCtorEq] at h
  | nil =>
  cases t with
  | Name x p =>
    simp only [trS] at h
    split at h
    · cases h
    rename_i hc2
    cases q1 : trLoc T X.env.scope x with
    | none => rw [q1] at h; cases h
    | some i =>
      cases q2 : trE T n X.env.scope e with
      | none => rw [q1, q2] at h; cases h
      | some E1 => rw [q1, q2] at h; cases h; exact setS o hf q1 (show isComp2 e = false ∧ isItmC T e = false by simpa using hc2).1 (show isComp2 e = false ∧ isItmC T e = false by simpa using hc2).2 q2
  | Tuple es k p =>
    simp only [trS] at h
    split at h
    · rename_i x px y py a b k2 p2
      split at h
      · cases h
      · rename_i hc
        simp only [Bool.or_eq_true, not_or, Bool.not_eq_true] at hc
        obtain ⟨⟨sa, sb⟩, hc⟩ := hc
        cases q1 : trLoc T X.env.scope x with
        | none => simp only [q1, reduceCtorEq] at h
        | some i =>
          cases q2 : trLoc T X.env.scope y with
          | none => simp only [q1, q2, reduceCtorEq] at h
          | some j =>
            cases q3 : trE T n X.env.scope a with
            | none => simp only [q1, q2, q3, reduceCtorEq] at h
            | some E1 =>
              cases q4 : trE T n X.env.scope b with
              | none => simp only [q1, q2, q3, q4, reduceCtorEq] at h
              | some E2 =>
                simp only [q1, q2, q3, q4, Option.some.injEq] at h
                subst h
                exact parS o hf q1 q2 sa sb hc ((allE n).e o q3) ((allE n).e o q4)
    · rename_i x px y py z pz a b c k2 p2
      split at h
      · cases h
      · rename_i hc
        simp only [Bool.or_eq_true, not_or, Bool.not_eq_true] at hc
        obtain ⟨⟨⟨sa, sb⟩, sc⟩, hc⟩ := hc
        cases q1 : trLoc T X.env.scope x with
        | none => simp only [q1, reduceCtorEq] at h
        | some i =>
          cases q2 : trLoc T X.env.scope y with
          | none => simp only [q1, q2, reduceCtorEq] at h
          | some j =>
            cases q3 : trLoc T X.env.scope z with
            | none => simp only [q1, q2, q3, reduceCtorEq] at h
            | some l =>
              cases q4 : trE T n X.env.scope (.Tuple [a, b, c] k2 p2) with
              | none => simp only [q1, q2, q3, q4, reduceCtorEq] at h
              | some E1 =>
                simp only [q1, q2, q3, q4, Option.some.injEq] at h
                subst h
                cases n with
                | zero => simp only [trE, reduceCtorEq] at q4
                | succ m =>
                  have hE := (allE (m + 1)).e o q4
                  simp only [trE] at q4
                  cases q5 : trEd T m X.env.scope [a, b, c] with
                  | none => rw [q5] at q4; cases q4
                  | some Es =>
                    rw [q5] at q4
                    cases q4
                    exact par3S (fe := ev G call (.tup Es)) (k := evs G call Es) o hf q1 q2 q3 sa sb sc hc hE ((allE m).ed o q5) fun ρ st => by rw [ev]
    · split at h
      · cases h
      · rename_i hc
        simp only [Bool.or_eq_true, not_or, Bool.not_eq_true] at hc
        split at h
        · rename_i fs r hst
          split at h
          · cases h
          rename_i htp
          cases q1 : fs.mapM (trT T X.env.scope n) with
          | none => simp only [q1, reduceCtorEq] at h
          | some ts =>
            cases q2 : trT T X.env.scope n r with
            | none => simp only [q1, q2, reduceCtorEq] at h
            | some tr =>
              cases q3 : trE T n X.env.scope e with
              | none => simp only [q1, q2, q3, reduceCtorEq] at h
              | some E1 =>
                simp only [q1, q2, q3, Option.some.injEq] at h
                subst h
                refine impS (fun _ => unpS o.hN o.nd o.calm hf hst q1 q2 ((allE n).e o q3) (compN (t := some (.Tuple es k p)) (l := pos.line) (env := X.env) hc.1) (swNone (by simpa using htp))) fun D σ H ⟨μ, ρ, st, S, w⟩ => ⟨μ, ρ, st, S, by rw [ex] at w; exact w⟩
        · cases q1 : trT T X.env.scope n (.Tuple es k p) with
          | none => simp only [q1, reduceCtorEq] at h
          | some t =>
            cases q2 : trE T n X.env.scope e with
            | none => simp only [q1, q2, reduceCtorEq] at h
            | some E1 =>
              simp only [q1, q2, Option.some.injEq] at h
              subst h
              exact setTS o hf hc.1 hc.2 q1 q2
  | Subscript a i p =>
    simp only [trS] at h
    cases q1 : trE T n X.env.scope a with
    | none => rw [q1] at h; cases h
    | some E1 =>
      cases q2 : trIx T n X.env.scope i with
      | none => rw [q1, q2] at h; cases h
      | some E2 =>
        cases q3 : trE T n X.env.scope e with
        | none => rw [q1, q2, q3] at h; cases h
        | some E3 =>
          rw [q1, q2, q3] at h; cases h
          exact stiS o.hu (trIx_sl q2) ((allE n).e o q3) ((allE n).e o q1) ((allE n).ix o q2).1
  | Attribute a f p =>
    simp only [trS] at h
    cases q1 : trE T n X.env.scope a with
    | none => rw [q1] at h; cases h
    | some E1 =>
      cases q2 : ixOf f T.fld with
      | none => rw [q1, q2] at h; cases h
      | some i =>
        cases q3 : trE T n X.env.scope e with
        | none => rw [q1, q2, q3] at h; cases h
        | some E3 =>
          rw [q1, q2, q3] at h; cases h
          exact stfS o (ixOf_ok q2) ((allE n).e o q3) ((allE n).e o q1)
  | _ => simp only [trS, reduceCtorEq] at h
theorem s_aug {X : Cx} {t : Expr} {op : Operator} {e : Expr} {pos : Pos} {E : Nz.S} (o : Ok X F T G call) (hf : FnLoc X X.env.scope) (h : trS T X.env.scope (n + 1) (.AugAssign t op e pos) = some E) : PS X (.AugAssign t op e pos) (tS X.K F (ex G call E)) := by
  simp only [trS] at h
  cases q0 : trBin op with
  | none => rw [q0] at h; cases h
  | some ob =>
    cases q1 : trE T n X.env.scope e with
    | none => rw [q0, q1] at h; cases h
    | some E1 =>
      simp only [q0, q1] at h
      split at h
      · cases h
      rename_i hp
      cases t with
      | Name x p =>
        simp only at h
        cases q2 : trLoc T X.env.scope x with
        | none => rw [q2] at h; cases h
        | some i =>
          rw [q2] at h; cases h
          exact augS o.hN o.nd hf q2 q0 hp ((allE n).e o q1)
      | Subscript a i p =>
        simp only at h
        cases q2 : trE T n X.env.scope a with
        | none => rw [q2] at h; cases h
        | some E2 =>
          cases q3 : trIx T n X.env.scope i with
          | none => rw [q2, q3] at h; cases h
          | some E3 =>
            rw [q2, q3] at h; cases h
            exact augiS o.hu (trIx_sl q3) q0 hp ((allE n).e o q1) ((allE n).e o q2) ((allE n).ix o q3).1
      | Attribute a f p =>
        simp only at h
        cases q2 : trE T n X.env.scope a with
        | none => rw [q2] at h; cases h
        | some E2 =>
          cases q3 : ixOf f T.fld with
          | none => rw [q2, q3] at h; cases h
          | some i =>
            rw [q2, q3] at h; cases h
            exact augfS o (ixOf_ok q3) q0 hp ((allE n).e o q1) ((allE n).e o q2)
      | _ => simp only [reduceCtorEq] at h
theorem ex_whl (c : Nz.C) (b : Nz.Ss) : ex G call (.whl c b) = fun ρ st => whlLoop (evC G call c) (exs G call b) ρ st WF ρ st := by
  funext ρ st
  rw [ex]
theorem s_s (A : AllS F T G call n) {X : Cx} {s : Stmt} {E : Nz.S} (o : Ok X F T G call) (hf : FnLoc X X.env.scope) (hp : PassesOwn (model X.prog X.w) X.A X.env X.xe) (h : trS T X.env.scope (n + 1) s = some E) : PS X s (tS X.K F (ex G call E)) := by
  cases s with
  | Pass p => simp only [trS, Option.some.injEq] at h; subst h; exact passS
  | Break p => simp only [trS, Option.some.injEq] at h; subst h; exact brkS
  | Continue p => simp only [trS, Option.some.injEq] at h; subst h; exact contS
  | Raise a b p => simp only [trS, Option.some.injEq] at h; subst h; exact neverS
  | Return v p =>
    simp only [trS] at h
    cases v with
    | none => simp only [Option.some.injEq] at h; subst h; exact retnS
    | some e =>
      simp only at h
      cases q : trE T n X.env.scope e with
      | none => rw [q] at h; cases h
      | some E1 => rw [q] at h; cases h; exact retS ((allE n).e o q)
  | Expr e p =>
    simp only [trS] at h
    split at h
    · cases h
    rename_i hc
    cases q : trE T n X.env.scope e with
    | none => rw [q] at h; cases h
    | some E1 => rw [q] at h; cases h; exact exprS (by simpa using hc) ((allE n).e o q)
  | Assign ts e p => exact s_asg o hf h
  | AugAssign t op e p => exact s_aug o hf h
  | If c a b p =>
    simp only [trS] at h
    cases q0 : trC T n X.env.scope c with
    | none => rw [q0] at h; cases h
    | some C1 =>
      cases q1 : trSs T X.env.scope n a with
      | none => rw [q0, q1] at h; cases h
      | some A1 =>
        cases q2 : trSs T X.env.scope n b with
        | none => rw [q0, q1, q2] at h; cases h
        | some B1 => rw [q0, q1, q2] at h; cases h; exact ifS ((allE n).c o q0) (A.ss o hf hp q1) (A.ss o hf hp q2)
  | For t i b e p =>
    simp only [trS] at h
    cases e with
    | cons _ _ => simp only [List.isEmpty_cons, Bool.not_false, if_true, reduceCtorEq] at h
    | nil =>
      simp only [List.isEmpty_nil, Bool.not_true, Bool.false_eq_true, if_false] at h
      cases q0 : trT T X.env.scope n t with
      | none => rw [q0] at h; cases h
      | some t' =>
        cases q1 : trI T n X.env.scope (isTup t) i with
        | none => rw [q0, q1] at h; cases h
        | some i' =>
          cases q2 : trSs T X.env.scope n b with
          | none => rw [q0, q1, q2] at h; cases h
          | some B1 => rw [q0, q1, q2] at h; cases h; exact wrapSt <| forS hp o.calm ((allE n).i o id q1).1 (trT_ok o.hN o.nd o.calm hf n q0) (A.ss o hf hp q2) ((allE n).i (tg := t) o id q1).2
  | While c b e p =>
    simp only [trS] at h
    cases e with
    | cons _ _ => simp only [List.isEmpty_cons, Bool.not_false, if_true, reduceCtorEq] at h
    | nil =>
      simp only [List.isEmpty_nil, Bool.not_true, Bool.false_eq_true, if_false] at h
      cases q1 : trC T n X.env.scope c with
      | none => rw [q1] at h; cases h
      | some c' =>
        cases q2 : trSs T X.env.scope n b with
        | none => rw [q1, q2] at h; cases h
        | some B1 => rw [q1, q2] at h; cases h; rw [ex_whl]; exact whlS hp ((allE n).c o q1) (A.ss o hf hp q2)
  | _ => simp only [trS, reduceCtorEq] at h
theorem consBad {X : Cx} {s : Stmt} {r : List Stmt} : PSs X (s :: r) (tS X.K F (exs G call (.cons .raise .nil))) := impSs pss_never fun D σ H ⟨μ, ρ, st, S, w⟩ => by
  rw [exs, ex] at w
  exact w.elim
theorem allS : ∀ n, AllS F T G call n
  | 0 => ⟨fun o hf hp h => by simp only [trS, reduceCtorEq] at h, fun o hf hp h => by simp only [trSs, reduceCtorEq] at h⟩
  | n + 1 => by
    have A := allS n
    refine ⟨s_s A, fun {X s E} o hf hp h => ?_⟩
    cases s with
    | nil => simp only [trSs, Option.some.injEq] at h; subst h; exact nilS
    | cons s r =>
      simp only [trSs] at h
      cases q1 : trS T X.env.scope n s with
      | none => rw [q1] at h; cases h; exact consBad
      | some S1 =>
        cases q2 : trSs T X.env.scope n r with
        | none => rw [q1, q2] at h; cases h
        | some R1 => rw [q1, q2] at h; cases h; exact consS (A.s o hf hp q1) (A.ss o hf hp q2)
end
end Nz
namespace NzSup
open PySem PySem.Spec PyProof.Rows L2 NdefX
theorem execs_app {r : List Stmt} {env : PySem.Env} : ∀ p : List Stmt, execs (p ++ r) env = (execs p env >>= fun fl => match fl with
    | .next => execs r env
    | fl => pure fl)
  | [] => by
    rw [List.nil_append, execs_nil, pure_bind]
  | s :: p => by
    rw [List.cons_append, execs_cons, execs_cons, bind_assoc]
    congr 1
    funext fl
    cases fl <;> first | exact execs_app p | rw [pure_bind]
theorem at_execs_app {M : Model} {A : Around} {c : Code} {env : PySem.Env} {E : Value → Shared → Prop} {r : List Stmt} {Q : Flow → Shared → Prop} {p : List Stmt} {s : Shared}
    (h : wpAny M A (execs p env) (fun fl s' => match fl with
      | .next => _root_.PySem.wpAt M A c (execs r env) Q E s'
      | fl => Q fl s') E s) : _root_.PySem.wpAt M A c (execs (p ++ r) env) Q E s := by
  rw [execs_app]
  refine _root_.PySem.wpAt_bind (wpAt_of_wpAny (wpAny_mono h (fun fl s' h' => ?_) fun _ _ z => z))
  cases fl <;> first | exact h' | exact wpAt_of_wpAny (wpAny_pure h')
/-- what the written part says of the class at D, of the def at f2 that super finds, of the code object at cda -/
structure SupC (file : Str) (K : PySem.W.Frag) (D cc cda f2 : Addr) : Prop where
  cell : ∃ cl cld csl, K.lookup cc = some (⟨cl, cld, .cell (some (.ref D)), csl⟩ : Obj)
  cls : ∃ cd, PySem.W.clsIn K D = some cd
  sub : PySem.W.mroIn K D (.ref D) = some true
  opq : PySem.W.nsIn K cStatics "thirdparty.any" = some none
  sup : PySem.W.ks_superIn K D D "__init__" = some (some (.ref f2))
  fn2 : PySem.W.typeIn K (.ref f2) = some (.type "function")
  kp2 : PySem.W.fnIn K f2 = true
  code : ∃ ccl cdd vs ccs tf, K.lookup cda = some (⟨ccl, cdd, .fields vs, ccs⟩ : Obj) ∧ vs[2]? = some (.str file tf)
  msup : PySem.W.nsIn K mainGlobals "super" = some none
section
variable {P : Program} {w : World} {K : PySem.W.Frag} {mg : Str → Option Value} {base : Heap} {CX : CXT}
/-- the class cell as a captured cell -/
theorem cells_at {file : Str} {D cc cda f2 : Addr} {A : Around} {outer : List PySem.Env} {s : Shared} {H : Hp} (T : SupC file K D cc cda f2) (e0 : Env0 P w K mg base A outer s H) : CellsAt [(("__class__" : Str), cc)] ["__class__"] [none] s.heap H := by
  obtain ⟨cl, cld, csl, h⟩ := T.cell
  have hb := e0.bs _ _ (e0.mod.kin _ _ h)
  have one : ∀ (y : Str) (c : Addr), [(("__class__" : Str), cc)].lookup y = some c → c = cc ∧ y = "__class__" := fun y c e => by
    rw [List.lookup_cons] at e
    split at e
    · rename_i q
      exact ⟨(Option.some.inj e).symm, eq_of_beq q⟩
    · cases e
  refine ⟨rfl, fun y c e => ?_, fun x y c e1 e2 => by rw [(one _ _ e1).2, (one _ _ e2).2], fun i y e => ?_⟩
  · obtain ⟨rfl, _⟩ := one _ _ e
    exact ⟨hb.2, _, _, hb.1, rfl⟩
  · cases i with
    | succ i => simp at e
    | zero =>
      simp at e
      subst e
      exact ⟨cc, by simp [List.lookup], fun v z => by simp at z⟩
end
section
variable {P : Program} {w : World} {K : PySem.W.Frag} {mg : Str → Option Value} {base : Heap} {N ps : List Str} {F : NF} {f cc cda D f2 : Addr} {A : Around} {outer : List PySem.Env} {s0 : Shared} {H0 : Hp} {E : XK} {ar : Str} {file : Str}
/-- the statement super().__init__(e, ..) -/
theorem at_sup {pl : Sem Bool} {fd2 : FuncData} {ps2 : List Str} {k2 : Nat} {sp2 : Sp} {p0 p1 apos pos pos' : Pos} {e : Expr} {es : List Expr} {ta : TA} {nx : L2.St → Hp → Prop} {body : List Stmt} {s : Shared} {σ : L2.St} {H : Hp}
    {oc : Value} {od an : Option Addr} {osl : Array (Option Value)} {dV kV doc pm ct : Value} {arg : Arg}
    (T : SupC file K D cc cda f2) (hcl : F.cl = [(("__class__" : Str), cc)]) (hc : F.c = cda) (lk : K.lookup f = some ⟨oc, od, .func (PySem.W.fnX F.name F.qual F.params F.body F.scope F.cl dV kV doc pm an (.ref cda) ct), osl⟩)
    (hb : F.body = body) (hpar : (F.params.posonlyargs ++ F.params.args).head? = some arg) (harg : arg.arg = ar) (hN : N[0]? = some ar) (hl : F.scope.names.lookup ar = some .local) (hs : F.scope.names.lookup ("super" : Str) = some .globalImplicit)
    (hk : F.scope.names.lookup ("__class__" : Str) = some .free) (hkind : F.scope.kind = .function) (hfile : (P.main.file == file) = true) (htop : (P.main.scope.names.lookup ("super" : Str)).isSome = false) (hmg : mg ("super" : Str) = none)
    (F2 : FnOk P w K mg base CX0 k2 f2 fd2 ps2 sp2) (hr : Room k2 (ncx CX0 P w K mg base N F f A outer s0 H0 E).A) (hb2 : Binds K fd2 ps2 []) (ha : PA (ncx CX0 P w K mg base N F f A outer s0 H0 E) (e :: es) ta)
    (I : Inv (ncx CX0 P w K mg base N F f A outer s0 H0 E) [] σ H s)
    (h : ∃ a dx fs, σ[0]? = some (some (V.ref a)) ∧ H a = some (.ins D dx fs) ∧ ta σ H fun vs H2 => sp2 (.ref a :: vs) H2 (fun _ H3 => nx σ H3) fun _ _ _ => False)
    (hin : interactive (envF F f s0.heap.objs.size) = false := by rfl) (hsw : swapsWith (.Call (.Attribute (.Call (.Name "super" p0) [] [] p1) "__init__" apos) (e :: es) [] pos) none pos'.line (envF F f s0.heap.objs.size) = pure false := by rfl)
    (he : eval (.Call (.Attribute (.Call (.Name "super" p0) [] [] p1) "__init__" apos) (e :: es) [] pos) (envF F f s0.heap.objs.size) = (do
      let ov ← attributeBase (.Call (.Name "super" p0) [] [] p1) "__init__" (envF F f s0.heap.objs.size) (eval (.Call (.Name "super" p0) [] [] p1) (envF F f s0.heap.objs.size))
      standAt apos.atName
      let (ff, first) ← holding [ov] (getMethod ov "__init__" pl)
      callWith pos ff first (backTo pos (starEach (e :: es) (envF F f s0.heap.objs.size))) []))
    (hst : starEach (e :: es) (envF F f s0.heap.objs.size) = (false, eval e (envF F f s0.heap.objs.size)) :: starEach es (envF F f s0.heap.objs.size) := by rfl) (hpl : (backTo pos (starEach es (envF F f s0.heap.objs.size))).any (·.1) = false := by rfl) :
    _root_.PySem.wpAt (model P w) (A.deeper (envF F f s0.heap.objs.size)) (.func body (envF F f s0.heap.objs.size)) (exec (.Expr (.Call (.Attribute (.Call (.Name "super" p0) [] [] p1) "__init__" apos) (e :: es) [] pos) pos') (envF F f s0.heap.objs.size))
      (fun fl s' => fl = .next ∧ ∃ H', Inv (ncx CX0 P w K mg base N F f A outer s0 H0 E) [] σ H' s' ∧ nx σ H') (ncx CX0 P w K mg base N F f A outer s0 H0 E).xe s := by
  obtain ⟨a, dx, fs, hσ, ea, h⟩ := h
  obtain ⟨cd, hcd⟩ := T.cls
  obtain ⟨ccl, cdd, vs, ccs, tf, lkc, hvs⟩ := T.code
  obtain ⟨cl, cld, csl, lkcc⟩ := T.cell
  have X := I.kIn
  obtain ⟨mA, O, _⟩ := ins_get I.hok ea
  obtain ⟨odd, J, _⟩ := O.look
  obtain ⟨oD, hD1, hD2⟩ : ∃ oD, s.heap.get? D = some oD ∧ oD.data = .cls cd := by
    unfold PySem.W.clsIn at hcd
    split at hcd
    · rename_i c d cd' sl ho
      cases hcd
      exact ⟨_, X _ _ ho, rfl⟩
    · cases hcd
  obtain ⟨m, hns, hlook⟩ := I.loc
  have hm : m ar = some (.ref a) := by
    obtain ⟨u, ru, hu⟩ := hlook 0 ar (.ref a) hN hσ (.inl hl)
    obtain rfl : u = Value.ref a := ru
    rcases hu with ⟨_, q⟩ | ⟨q | q, _⟩
    · exact q
    · have q : F.scope.names.lookup ar = some .cell := q
      rw [hl] at q; cases q
    · have q : F.scope.names.lookup ar = some .free := q
      rw [hl] at q; cases q
  refine ks_wpAt_Expr_any ?_ hin hsw
  refine ks_wpAt_MethodCall (pl := pl) ?_ he
  refine ks_wpAt_super_base (fd := PySem.W.fnX F.name F.qual F.params F.body F.scope F.cl dV kV doc pm an (.ref cda) ct) hs hk (by decide) rfl (X _ _ lk) rfl hpar (by rw [← hc]) (X _ _ lkc) rfl hvs hfile htop ?_
  refine PySem.W.ks_loadName_global hkind hs ?_
  obtain ⟨mb, b1, b2⟩ := I.mod.blt
  refine Calls.loadGlobal_builtin (env := envF F f s0.heap.objs.size) (show s.heap.Ns mainGlobals mg from I.mod.glob.keeps I.bk) hmg (show s.heap.Ns builtinsNs mb from b1.keeps I.bk) ((b2 _ (by decide)).trans (show bootBuiltins "super" = some (.type "super") by first | boot_by_name | rfl | kernel_rfl)) ⟨rfl, ?_⟩
  refine wpAny_loadName_free hkind hk (show F.cl.lookup ("__class__" : Str) = some cc by rw [hcl]; rfl) ⟨_, X _ _ lkcc, rfl⟩ ?_
  rw [harg]
  refine wpAny_loadName_local hkind hl hns hm ?_
  refine ks_wpAny_isType_cls hD1 hD2 ⟨rfl, ?_⟩
  obtain ⟨hh, g, d, t, os⟩ := s
  refine ks_wpAny_call_super hD1 hD2 J.at_ J.cls (fun c e => ?_) (PySem.W.looks_mroIn X T.sub) (fun h' e1 k1 => ?_)
  · have := J.no
    unfold PySem.W.notCls at this
    rw [e] at this
    exact Bool.noConfusion this
  have I1 : Inv (ncx CX0 P w K mg base N F f A outer s0 H0 E) [] σ H ⟨h', g, d, t, os⟩ := I.kept (t' := t) k1
  have X1 := I1.kIn
  obtain ⟨mA1, O1, _⟩ := ins_get I1.hok ea
  obtain ⟨odd1, J1, _⟩ := O1.look
  obtain ⟨of2, hof, hofc⟩ : ∃ of, h'.get? f2 = some of ∧ of.cls = .type "function" := by
    have ht' : (K.lookup f2).map (·.cls) = some (.type "function") := T.fn2
    cases z : K.lookup f2 with
    | none => rw [z] at ht'; cases ht'
    | some of => rw [z] at ht'; exact ⟨of, X1 _ _ z, Option.some.inj ht'⟩
  have hsup := T.sup
  unfold PySem.W.ks_superIn at hsup
  rw [hcd] at hsup
  refine ks_wpAny_getMethod_super e1 (PySem.W.looks_opaque X1 T.opq) (l₀ := cd.mro) (fun A Q E s k q => wpAny_bind ((PySem.W.looks_clsIn X1 hcd) A _ E s k (wpAny_pure q))) rfl X1 hsup hof hofc (PySem.W.ks_ne X1 J1 hcd) (by decide) ?_
  have e2 : (h'.push { cls := .type "method", data := .fields #[.ref f2, .ref a] }).get? h'.objs.size = some (PySem.W.methodObj (.ref f2) (.ref a)) := Heap.get?_push_at rfl rfl
  have I2 : Inv (ncx CX0 P w K mg base N F f A outer s0 H0 E) [(h'.objs.size, PySem.W.methodObj (.ref f2) (.ref a))] σ H ⟨h'.push { cls := .type "method", data := .fields #[.ref f2, .ref a] }, g, d, t + 1, os⟩ :=
    (I1.kept (t' := t + 1) (h' := h'.push { cls := .type "method", data := .fields #[.ref f2, .ref a] }) fun b o e => Heap.get?_push_of_some _ e).pins_of fun p hp => by
      cases List.mem_singleton.mp hp
      refine ⟨e2, I1.hok.fresh (Nat.le_refl _), fun z => ?_, I1.nofs (Nat.le_refl _), fun v z => by cases z⟩
      have := I1.lt
      rw [← z] at this
      exact absurd this (Nat.lt_irrefl _)
  show wpAny _ _ (callWith pos (.ref h'.objs.size) [] (backTo pos (starEach (e :: es) (envF F f s0.heap.objs.size))) []) _ _ _
  have hrun := ha.run pos _ _ σ H _ I2 h
  change wpAny _ _ (spliced (backTo pos (starEach (e :: es) (envF F f s0.heap.objs.size)))) _ _ _ at hrun
  rw [hst] at hrun ⊢
  refine PySem.W.callWith_of (P := PySem.W.MethP K h'.objs.size f2 (.ref a)) (by show ((false || (backTo pos (starEach es (envF F f s0.heap.objs.size))).any (·.1)) || false) = false; rw [hpl]; rfl) (PySem.W.keeps_M T.kp2) (PySem.Calls.evalArgs_plain (thn hrun fun us s1 ⟨vs, H1, I3, r, q⟩ => ?_))
  obtain ⟨hget, _⟩ := I3.pin (h'.objs.size, PySem.W.methodObj (.ref f2) (.ref a)) (List.mem_append_right _ List.mem_cons_self)
  refine ⟨⟨hget, I3.kIn⟩, ?_⟩
  have I4 := I3.pins_of (pins' := []) fun p hp => absurd hp (by simp)
  have r2 : Vals (V.ref a :: vs) (Value.ref a :: us) := .cons rfl r
  have hl2 : (Value.ref a :: us).length = ps2.length := by rw [← r2.length]; exact F2.len _ _ _ _ q
  refine wpAny_call (ks_codeAny_call_bound hget (codeAny_mono (F2.run _ _ s1 H1 ⟨Value.ref a :: us, []⟩ (Value.ref a :: us) (V.ref a :: vs) _ _ hr I4.env0 (by have := hb2 s1 (Value.ref a :: us) I4.kIn (by rw [List.append_nil]; exact hl2); rwa [List.append_nil] at this) r2 q) fun r s' hq => ?_))
  cases r with
  | error e => exact hq.elim
  | ok fl =>
    cases fl with
    | ret u =>
      obtain ⟨v, H3, I5, rv, q3⟩ := I4.after hq
      exact ⟨rfl, H3, I5, q3⟩
    | next => exact False.elim hq
    | brk => exact False.elim hq
    | cont => exact False.elim hq
/-- a def whose body says super().__init__(..) once, as a statement of its own -/
theorem fn_sup {pl : Nat → Sem Bool} {fd2 : FuncData} {ps2 : List Str} {k k2 : Nat} {sp sp2 : Sp} {p0 p1 apos pos pos' : Pos} {e : Expr} {es : List Expr} {pre post : List Stmt}
    {oc : Value} {od an : Option Addr} {osl : Array (Option Value)} {dV kV doc pm ct : Value} {arg : Arg} {fd : FuncData}
    (S : NScope N ps ["__class__"] F.scope) (T : SupC file K D cc F.c f2) (hcl : F.cl = [(("__class__" : Str), cc)]) (efd : fd = PySem.W.fnX F.name F.qual F.params F.body F.scope F.cl dV kV doc pm an (.ref F.c) ct) (lk : K.lookup f = some ⟨oc, od, .func fd, osl⟩)
    (hcd : PySem.W.codeIn K (.ref F.c) F.qual = true)
    (hb : F.body = pre ++ .Expr (.Call (.Attribute (.Call (.Name "super" p0) [] [] p1) "__init__" apos) (e :: es) [] pos) pos' :: post) (hpar : (F.params.posonlyargs ++ F.params.args).head? = some arg) (hp0 : ps[0]? = some arg.arg) (hs : F.scope.names.lookup ("super" : Str) = some .globalImplicit)
    (hk : F.scope.names.lookup ("__class__" : Str) = some .free) (hfile : (P.main.file == file) = true) (htop : (P.main.scope.names.lookup ("super" : Str)).isSome = false) (hmg : mg ("super" : Str) = none)
    (len : ∀ vs H Q E, sp vs H Q E → vs.length = ps.length) (F2 : FnOk P w K mg base CX0 k2 f2 fd2 ps2 sp2) (hk2 : k2 ≤ k) (hb2 : Binds K fd2 ps2 [])
    (hin : ∀ n : Nat, interactive (envF F f n) = false) (hsw : ∀ n : Nat, swapsWith (.Call (.Attribute (.Call (.Name "super" p0) [] [] p1) "__init__" apos) (e :: es) [] pos) none pos'.line (envF F f n) = pure false)
    (he : ∀ n : Nat, eval (.Call (.Attribute (.Call (.Name "super" p0) [] [] p1) "__init__" apos) (e :: es) [] pos) (envF F f n) = (do
      let ov ← attributeBase (.Call (.Name "super" p0) [] [] p1) "__init__" (envF F f n) (eval (.Call (.Name "super" p0) [] [] p1) (envF F f n))
      standAt apos.atName
      let (ff, first) ← holding [ov] (getMethod ov "__init__" (pl n))
      callWith pos ff first (backTo pos (starEach (e :: es) (envF F f n))) []))
    (hst : ∀ n : Nat, starEach (e :: es) (envF F f n) = (false, eval e (envF F f n)) :: starEach es (envF F f n)) (hpl : ∀ n : Nat, (backTo pos (starEach es (envF F f n))).any (·.1) = false)
    (hbody : ∀ (A : Around) (outer : List PySem.Env) (s : Shared) (H : Hp) (vs : List V) (Q : VK) (E : XK), Room k (A.deeper (envF F f s.heap.objs.size)) → sp vs H Q E →
      ∃ t1 ta t2, PSs (ncx CX0 P w K mg base N F f A outer s H E) pre t1 ∧ PA (ncx CX0 P w K mg base N F f A outer s H E) (e :: es) ta ∧ PSs (ncx CX0 P w K mg base N F f A outer s H E) post t2 ∧
        t1 { nx := fun σ1 H1 => ∃ a dx fs, σ1[0]? = some (some (V.ref a)) ∧ H1 a = some (.ins D dx fs) ∧ ta σ1 H1 fun vs H2 => sp2 (.ref a :: vs) H2 (fun _ H3 => t2 { nx := fun _ H' => Q .non H', rt := Q } σ1 H3) fun _ _ _ => False, rt := Q } (startF N vs [none]) H) :
    FnOk P w K mg base CX0 (k + 1) f fd ps sp := by
  refine ⟨len, fun A outer s H args us vs Q E hr e0 hbind r hsp => ?_⟩
  have hl := len _ _ _ _ hsp
  have KX : K.In s.heap := e0.mod.kin.keeps fun b o e => (e0.bs b o e).1
  have lim : s.heap.NoLimit := e0.mod.nolimit.keeps fun b o e => (e0.bs b o e).1
  have hN : N[0]? = some arg.arg := by
    have q := S.pre
    have h1 : (ps ++ [("__class__" : Str)])[0]? = some arg.arg := by rw [List.getElem?_append_left (List.getElem?_eq_some_iff.mp hp0).1]; exact hp0
    rw [← q, List.getElem?_take] at h1
    split at h1
    · exact h1
    · cases h1
  have hl0 : F.scope.names.lookup arg.arg = some .local := S.par _ (List.mem_of_getElem? hp0)
  subst efd
  refine codeAny_call_function hr.depth (KX _ _ lk) rfl S.co S.gen rfl (PySem.W.codeRec_of KX hcd) (hbind _ _ _ _ ?_)
  refine wpAny_newFunctionEnv S.nocell (fun ⟨n, _⟩ hy => S.par n (List.of_mem_zip hy).1) (fun h₁ hns hsb => ⟨lim.fresh _ hsb, ?_⟩) S.kind
  show codeAny _ _ (.func F.body (envF F f s.heap.objs.size)) _ _
  refine ks_codeAny_funcAt ?_
  have kp : ∀ b o, s.heap.get? b = some o → h₁.get? b = some o := fun b o e => hsb.extBut b o (Nat.ne_of_lt (Heap.lt_size e)) (Heap.get?_push_of_some _ e)
  obtain ⟨t1, ta, t2, h1, ha, h2, hq⟩ := hbody A outer s H vs Q E (hr.deeper _) hsp
  have I : Inv (ncx CX0 P w K mg base N F f A outer s H E) [] (startF N vs [none]) H { s with heap := h₁, toks := s.toks + (ps.zip us).length } := inv_startN S hr.hd e0 hl r (by rw [hcl]; exact cells_at T e0) hns kp
  have fin : ∀ {σ' : L2.St} {H' : Hp} {v : V} {u : Value} {s' : Shared}, Inv (ncx CX0 P w K mg base N F f A outer s H E) [] σ' H' s' → L2.RelV v u → Q v H' → CE outer P w H s Q u s' :=
    fun {σ' H' v u s'} J rv q => ⟨v, H', J.os, J.bare, J.base, J.hok, rv, q⟩
  have done : ∀ (fl : Flow) (s' : Shared), SP (ncx CX0 P w K mg base N F f A outer s H E) [] { nx := fun _ H' => Q .non H', rt := Q } fl s' → CR CX0 outer P w H s Q E (.ok (.ret (match fl with | .ret v => v | _ => .none))) s' := fun fl s' hs => by
    cases fl with
    | ret u =>
      obtain ⟨v, σ', H', J, rv, q⟩ := hs
      exact fin J rv q
    | next =>
      obtain ⟨σ', H', J, q⟩ := hs
      exact fin (v := V.non) (u := Value.none) J rfl q
    | brk =>
      obtain ⟨_, _, _, q⟩ := hs
      exact False.elim q
    | cont =>
      obtain ⟨_, _, _, q⟩ := hs
      exact False.elim q
  have key : _root_.PySem.wpAt (model P w) (A.deeper (envF F f s.heap.objs.size)) (.func F.body (envF F f s.heap.objs.size)) (execs F.body (envF F f s.heap.objs.size))
      (SP (ncx CX0 P w K mg base N F f A outer s H E) [] { nx := fun _ H' => Q .non H', rt := Q }) (ncx CX0 P w K mg base N F f A outer s H E).xe { s with heap := h₁, toks := s.toks + (ps.zip us).length } := by
    rw [show execs F.body (envF F f s.heap.objs.size) = execs (pre ++ .Expr (.Call (.Attribute (.Call (.Name "super" p0) [] [] p1) "__init__" apos) (e :: es) [] pos) pos' :: post) (envF F f s.heap.objs.size) from by rw [← hb]]
    refine at_execs_app (wpAny_mono (h1.run [] _ _ H _ I hq) (fun fl s1 hs => ?_) fun _ _ z => z)
    cases fl with
    | ret u => exact hs
    | brk => exact hs
    | cont => exact hs
    | next =>
      obtain ⟨σ1, H1, J, q⟩ := hs
      refine ks_wpAt_execs_cons (ks_wpAt_mono (at_sup (nx := fun σ H3 => t2 { nx := fun _ H' => Q .non H', rt := Q } σ H3) T hcl rfl lk rfl hpar rfl hN hl0 hs hk S.kind hfile htop hmg F2 ((hr.deeper _).mono hk2) hb2 ha J q (hin _) (hsw _) (he _) (hst _) (hpl _)) (fun fl s2 hs => ?_) fun _ _ z => z)
      obtain ⟨rfl, H2, J2, q2⟩ := hs
      exact wpAt_of_wpAny (h2.run [] s2 σ1 H2 _ J2 q2)
  refine ks_wpAt_mono key (fun fl s' hs => done fl s' hs) fun e s' hs => hs
end
end NzSup
namespace Nz
open PySem L2 PyProof.Rows
def Inn (L : Prog) (i : Nat) : Prop := ∃ d, L.defs.lookup i = some d
theorem exs_app {G : Ctx} {call : Nat → List D → Store → R D} (b : Ss) : ∀ (a : Ss) (ρ : Nz.Env) (st : Store), exs G call (a.app b) ρ st = (exs G call a ρ st).bind fun p s => (match p.1 with
    | .nx => exs G call b p.2 s
    | f => .ok (f, p.2) s)
  | .nil, ρ, st => by
    rw [Ss.app, exs, R.bind_ok]
  | .cons s r, ρ, st => by
    rw [Ss.app, exs, exs, R.bind_assoc]
    congr 1
    funext p s1
    obtain ⟨fl, ρ1⟩ := p
    cases fl with
    | nx => exact exs_app b r ρ1 s1
    | bk => rfl
    | ct => rfl
    | ret d => rfl
/-- super().__init__(e, ..) as a statement -/
abbrev supSt (p0 p1 apos pos pos' : Pos) (e : Expr) (es : List Expr) : Stmt := .Expr (.Call (.Attribute (.Call (.Name "super" p0) [] [] p1) "__init__" apos) (e :: es) [] pos) pos'
/-- a def whose body says super().__init__(e, ..): what the head tells of it -/
def SupD (K : PySem.W.Frag) (F : Nm) (T : Tab) (f : Nat → Addr) (fd : Nat → FuncData) (ps : Nat → List Str) (i c g : Nat) (d : Df) : Prop :=
  ∃ (FN : NdefX.NF) (oc : Value) (od an : Option Addr) (osl : Array (Option Value)) (dV kV doc pm ct : Value) (cc D : Addr) (pre post : List Stmt) (e : Expr) (es : List Expr) (p0 p1 apos pos pos' : Pos) (N : List Str) (m : Nat) (arg : Arg) (B1 B2 : Ss) (Ea : Es),
    F.cls c = some D ∧ NzSup.SupC T.file K D cc FN.c (f g) ∧ FN.cl = [(("__class__" : Str), cc)] ∧ fd i = PySem.W.fnX FN.name FN.qual FN.params FN.body FN.scope FN.cl dV kV doc pm an (.ref FN.c) ct ∧ K.lookup (f i) = some ⟨oc, od, .func (fd i), osl⟩ ∧ PySem.W.codeIn K (.ref FN.c) FN.qual = true ∧
    FN.body = pre ++ supSt p0 p1 apos pos pos' e es :: post ∧ NdefX.NScope N (ps i) ["__class__"] FN.scope ∧ (FN.params.posonlyargs ++ FN.params.args).head? = some arg ∧ (ps i)[0]? = some arg.arg ∧ FN.scope.names.lookup ("super" : Str) = some .globalImplicit ∧
    FN.scope.names.lookup ("__class__" : Str) = some .free ∧ (apos.endLine == pos.line) = true ∧ (e :: es).length < 20 ∧ d.np = (ps i).length ∧ d.ns = N.length ∧ trSs { T with N := N } FN.scope m pre = some B1 ∧ trEs { T with N := N } m FN.scope (e :: es) = some Ea ∧ trSs { T with N := N } FN.scope m post = some B2 ∧
    d.body = B1.app (.cons (.sup c g Ea) B2)
/-- what the head tells of all defs -/
structure World0 (K : PySem.W.Frag) (mg : Str → Option Value) (F : Nm) (T : Tab) (L : Prog) (f : Nat → Addr) (fd : Nat → FuncData) (ps : Nat → List Str) : Prop where
  sup : ∀ i d c g, L.defs.lookup i = some d → T.sps.lookup i = some (c, g) → Inn L g ∧ isKw T g = false ∧ T.stn.contains i = false ∧ ("super" : Str) ∈ T.free ∧ SupD K F T f fd ps i c g d
  defs : ∀ i d, L.defs.lookup i = some d → T.sps.lookup i = none → ∃ (x qual : Str) (params : Arguments) (body : List Stmt) (scope : Scope) (N : List Str) (m : Nat), FunD K x qual params body scope [] [] (f i) (fd i) ∧ FnScope N (ps i) scope ∧
    d.np = (ps i).length ∧ d.ns = N.length ∧ trSs { T with N := N } scope m body = some d.body
  fns : ∀ (x : Str) (i : Nat), T.fns.lookup x = some i → Inn L i ∧ mg x = some (.ref (f i)) ∧ PySem.W.keepIn K (.ref (f i)) = true ∧ isKw T i = false
  cls : ∀ (x : Str) (c : Nat), T.cls.lookup x = some c → ∃ C, F.cls c = some C ∧ mg x = some (.ref C)
  cons : ∀ (x : Str) (d : D), T.cons.lookup x = some d → ∃ (u : Value) (v : V), mg x = some u ∧ RelV v u ∧ ∀ μ H, Rp K μ H d v
  free : ∀ x ∈ T.free, mg x = none
  kit : Kit K F
  fld : F.fld = T.fld
  fnd : T.fld.Nodup
  noat : ∀ (c : Nat) (C : Addr) (x : Str), F.cls c = some C → x ∈ T.fld → NoAttr K C x
  stm : ∀ (m : Nat) (x : Str) (c i : Nat), T.mth[m]? = some x → T.sts.contains x = true → atOf L.G.meth m c = some i → Inn L i ∧ x ∉ T.fld ∧ (∃ C, F.cls c = some C ∧ BMeth K C x (f i)) ∧ T.stn.contains i = true
  stb : ∀ i, Inn L i → T.stn.contains i = true → ∃ p pv, ps i = [p] ++ [pv] ∧ ∀ us rest : List Value, us.length = 1 → bindArgs (fd i) ⟨us ++ rest, []⟩ = (newTuple rest >>= fun t => pure ([p].zip us ++ [(pv, t)]))
  mth : ∀ (m : Nat) (x : Str) (c i : Nat), T.mth[m]? = some x → T.sts.contains x = false → atOf L.G.meth m c = some i → Inn L i ∧ x ∉ T.fld ∧ (∃ C, F.cls c = some C ∧ Meth K C x (f i)) ∧ isKw T i = false
  prp : ∀ (m : Nat) (x : Str) (c i : Nat), T.prp[m]? = some x → atOf L.G.prop m c = some i → Inn L i ∧ (∃ C p, F.cls c = some C ∧ PropOf K C x p (f i)) ∧ isKw T i = false
  mks : ∀ (x : Str) (c i : Nat), T.cls.lookup x = some c → L.G.init[c]? = some (some i) → Inn L i ∧ (∃ C, F.cls c = some C ∧ Mk K C (f i)) ∧ isKw T i = false
  bnd : ∀ i, Inn L i → isKw T i = false → Binds K (fd i) (ps i) []
  kfs : ∀ (x : Str) (i : Nat) (kn : Str) (d : Option D), T.kfs.lookup x = some (i, kn, d) → Inn L i ∧ mg x = some (.ref (f i)) ∧ PySem.W.keepIn K (.ref (f i)) = true ∧ ∃ n, KBn K (fd i) (ps i) n [kn] (fun us ws => us ++ ws) (fun vs zs => vs ++ zs) ∧ (ps i).length = n + 1 ∧
    ∀ d', d = some d' → ∃ (u : Value) (v : V), Binds K (fd i) (ps i) [u] ∧ RelV v u ∧ ∀ μ H, Rp K μ H d' v
section
variable {pr : Program} {w : World} {K : PySem.W.Frag} {mg : Str → Option Value} {base : Heap} {F : Nm} {T : Tab} {L : Prog} {f : Nat → Addr} {fd : Nat → FuncData} {ps : Nat → List Str}
theorem Sim.start {N : List Str} {n : Nat} {μ : Mu} {st : Store} {H : Hp} {ds : List D} {vs : List V} (S : Sto K F μ st H) (r : Rps K μ H ds vs) (hn : n = N.length - vs.length) : Sim K F μ (ds.map some ++ List.replicate n none) st (L2.start N vs) H := by
  refine ⟨by simp [L2.start, r.length, hn], fun i d h => ?_, S⟩
  by_cases hi : i < ds.length
  · rw [List.getElem?_append_left (by simpa using hi), List.getElem?_map] at h
    cases q : ds[i]? with
    | none => rw [q] at h; cases h
    | some e =>
      rw [q] at h
      cases h
      obtain ⟨v, h1, h2⟩ := r.get q
      refine ⟨v, ?_, h2⟩
      unfold L2.start
      rw [List.getElem?_append_left (by rw [List.length_map, ← r.length]; exact hi), List.getElem?_map, h1]
      rfl
  · rw [List.getElem?_append_right (by simpa using hi)] at h
    rw [List.getElem?_replicate] at h
    split at h <;> cases h
theorem fin_ok {μ : Mu} {H : Hp} {Q : VK} {r : R (Fl × Nz.Env)} (w : WP K F μ H (r.bind fin) (VQ K Q)) : WP K F μ H r (FQ K F { nx := fun _ H' => Q .non H', rt := Q }) := by
  refine (WP.bind w).mono fun p s μ1 H1 P1 w1 => ?_
  obtain ⟨fl, ρ⟩ := p
  cases fl with
  | nx => exact fun _ _ => WP.ok (Φ := VQ K Q) P1.sto w1 _ .non
  | ret d => exact WP.ok (Φ := VQ K Q) P1.sto w1
  | bk => exact w1.elim
  | ct => exact w1.elim
theorem World0.ok (W : World0 K mg F T L f fd ps) {k : Nat} (ih : ∀ i, Inn L i → FnOk pr w K mg base CX0 (2 * k) (f i) (fd i) (ps i) (spOf K F (run L k i))) (b : ∀ i, Inn L i → isKw T i = false → Binds K (fd i) (ps i) [])
    (ih2 : ∀ i, Inn L i → T.stn.contains i = true → FnR pr w K mg base CX0 (2 * k) (f i) (spSt K F (run L k i)))
    {X : Cx} (h1 : X.prog = pr) (h2 : X.w = w) (h3 : X.K = K) (h4 : X.mg = mg) (h5 : X.base = base) (hc : X.calm = true) (nd : X.N.Nodup) (hr : Room (2 * k + 1) X.A) : Ok X F { T with N := X.N } L.G (run L k) := by
  subst h1 h2 h3 h4 h5
  have hr0 : Room (2 * k) X.A := hr.mono (Nat.le_succ _)
  refine ⟨hc, nd, rfl, hr.units, fun x i h => ?_, W.cls, W.cons, W.free, W.kit, W.fld, W.fnd, W.noat, fun m x c i e1 e0 e2 => ?_, fun m x c i e1 e0 e2 => ?_, fun m x c i e1 e2 => ?_, fun x c i e1 e2 => ?_, fun x i kn d h => ?_⟩
  · obtain ⟨a1, a2, a3, a4⟩ := W.fns x i h
    exact ⟨f i, fd i, ps i, 2 * k, a2, a3, hr0, ih i a1, b i a1 a4⟩
  · obtain ⟨a1, a2, ⟨C, a3, a4⟩, a5⟩ := W.stm m x c i e1 e0 e2
    exact ⟨a2, C, f i, 2 * k, a3, a4, hr0, ih2 i a1 a5⟩
  · obtain ⟨a1, a2, ⟨C, a3, a4⟩, a5⟩ := W.mth m x c i e1 e0 e2
    exact ⟨a2, C, f i, fd i, ps i, 2 * k, a3, a4, hr0, ih i a1, b i a1 a5⟩
  · obtain ⟨a1, ⟨C, p, a3, a4⟩, a5⟩ := W.prp m x c i e1 e2
    exact ⟨C, p, f i, fd i, ps i, 2 * k, a3, a4, hr, ih i a1, b i a1 a5⟩
  · obtain ⟨a1, ⟨C, a3, a4⟩, a5⟩ := W.mks x c i e1 e2
    exact ⟨C, f i, fd i, ps i, 2 * k, a3, a4, hr, ih i a1, b i a1 a5⟩
  · obtain ⟨a1, a2, a3, n, a4, a5, a6⟩ := W.kfs x i kn d h
    exact ⟨f i, fd i, ps i, 2 * k, n, a2, a3, hr0, ih i a1, a4, a5, a6⟩
theorem PA.nox {X : Cx} {es : List Expr} {t : TA} (h : PA X.nox es t) : PA X es t := ⟨fun pos pins s σ H Q I hw =>
  wpAny_mono (h.run pos pins s σ H Q (I.wish _) hw) (fun _ _ ⟨v, H', I', r, q⟩ => ⟨v, H', I'.unwish, r, q⟩) fun _ _ z => False.elim z⟩
theorem supTree {env : PySem.Env} {o : Expr} {m : Str} {apos pos : Pos} {args : List Expr} (hline : (apos.endLine == pos.line) = true) (hfew : methodCallForm (args.length + 0) (backTo pos (starEach args env)) [] = true) :
  eval (.Call (.Attribute o m apos) args [] pos) env = (do
      let ov ← attributeBase o m env (eval o env)
      standAt apos.atName
      let (ff, first) ← holding [ov] (getMethod ov m (do return (← importBound o env).getD true))
      callWith pos ff first (backTo pos (starEach args env)) []) := by
  conv => lhs; unfold eval
  have e1 : methodCallForm (args.length + ([] : List Keyword).length) (backTo pos (starEach args env)) (backToKw pos (keywordEach [] env)) = true := by
    have : keywordEach [] env = [] := by unfold keywordEach; rfl
    rw [this]; exact hfew
  unfold methodCall
  rw [e1]
  simp only [methodCallPos, hline, calleeOf, Bool.not_true, Bool.false_or, if_true, pure_bind]
  try rfl
/-- a def that says super().__init__(..) -/
theorem sup_fn (W : World0 K mg F T L f fd ps) {k : Nat} (ihA : ∀ i, Inn L i → FnOk pr w K mg base CX0 (2 * k) (f i) (fd i) (ps i) (spOf K F (run L k i))) (ihB : ∀ i, Inn L i → T.stn.contains i = true → FnR pr w K mg base CX0 (2 * k) (f i) (spSt K F (run L k i)))
    (hfile : (pr.main.file == T.file) = true) (htop : (pr.main.scope.names.lookup ("super" : Str)).isSome = false) {i c g : Nat} {d : Df} (hd : L.defs.lookup i = some d) (hsp : T.sps.lookup i = some (c, g)) :
    FnOk pr w K mg base CX0 (2 * (k + 1)) (f i) (fd i) (ps i) (spOf K F (run L (k + 1) i)) := by
  obtain ⟨hg, hgk, _, hfree, FN, oc, od, an, osl, dV, kV, doc, pm, ct, cc, D, pre, post, e, es, p0, p1, apos, pos, pos', N, m, arg, B1, B2, Ea, hc, hT, hcl, efd, lk, hcd, hb, hS, hpar, hp0, hs, hk, hline, hfew, hnp, hns, tr1, tr2, tr3, hbd⟩ := W.sup i d c g hd hsp
  have un : ∀ ds st, run L (k + 1) i ds st = R.grd (ds.length == d.np) (gc st ((exs L.G (run L k) d.body (ds.map some ++ List.replicate (d.ns - d.np) none) st).bind fin)) := fun ds st => by
    rw [run, hd]
  have hlen : ∀ vs H Q (E : XK), spOf K F (run L (k + 1) i) vs H Q E → vs.length = (ps i).length := fun vs H Q E ⟨μ, st, ds, S, r, w⟩ => by
    rw [un] at w
    rw [← r.length, ← hnp]
    exact eq_of_beq w.grd.1
  have loc : ∀ y, L2.Loc FN.scope y → FN.scope.names.lookup y = some .local := fun y hy => by
    rcases hy with hy | hy
    · exact hy
    · exact absurd rfl (hS.nocell _ (PySem.mem_of_lookup hy))
  have okX : ∀ (A : Around) (outer : List PySem.Env) (s : Shared) (H : Hp) (E : XK), Room (2 * k + 1) (A.deeper (NdefX.envF FN (f i) s.heap.objs.size)) → Ok (NdefX.ncx CX0 pr w K mg base N FN (f i) A outer s H E).nox F { T with N := N } L.G (run L k) :=
    fun A outer s H E hr => W.ok ihA W.bnd ihB rfl rfl rfl rfl rfl rfl hS.nd hr
  have args : ∀ (A : Around) (outer : List PySem.Env) (s : Shared) (H : Hp) (E : XK), Room (2 * k + 1) (A.deeper (NdefX.envF FN (f i) s.heap.objs.size)) → PA (NdefX.ncx CX0 pr w K mg base N FN (f i) A outer s H E).nox (e :: es) (tAs K F (evs L.G (run L k) Ea)) ∧ noStar (e :: es) :=
    fun A outer s H E hr => let z := (allE m).es (T := { T with N := N }) (X := (NdefX.ncx CX0 pr w K mg base N FN (f i) A outer s H E).nox) (okX A outer s H E hr) tr2; ⟨z.1, z.2.1⟩
  have ns : noStar (e :: es) := trEs_noStar tr2
  have ns2 : noStar es := fun x hx => ns x (List.mem_cons_of_mem _ hx)
  refine NzSup.fn_sup (pl := fun n => (do return (← importBound (.Call (.Name "super" p0) [] [] p1) (NdefX.envF FN (f i) n)).getD true)) (F := FN) (k := 2 * k + 1) (k2 := 2 * k) (fd2 := fd g) (ps2 := ps g) (sp2 := spOf K F (run L k g)) hS hT hcl efd lk hcd hb hpar hp0 hs hk hfile htop (W.free _ hfree) hlen (ihA g hg) (Nat.le_succ _) (W.bnd g hg hgk)
    (fun n => by
      unfold interactive
      rw [show (NdefX.envF FN (f i) n).scope.kind = .function from hS.kind]
      rfl) (fun n => rfl) (fun n => supTree hline (ns.form hfew)) (fun n => star_cons (ns e List.mem_cons_self)) (fun n => ns2.any) (fun A outer s H vs Q E hr hsp2 => ?_)
  have o := okX A outer s H E hr
  have fl : FnLoc (NdefX.ncx CX0 pr w K mg base N FN (f i) A outer s H E).nox FN.scope := fun y hy => ⟨hy, .inr (loc y hy)⟩
  refine ⟨_, _, _, PSs.nox ((allS m).ss (T := { T with N := N }) o fl PassesOwn.never tr1), PA.nox (args A outer s H E hr).1, PSs.nox ((allS m).ss (T := { T with N := N }) o fl PassesOwn.never tr3), ?_⟩
  have hl := hlen vs H Q E hsp2
  obtain ⟨μ, st, ds, S, r, w⟩ := hsp2
  rw [un] at w
  have w := fin_ok (gc_ok S w.grd.2)
  rw [hbd, exs_app] at w
  have est : NdefX.startF N vs [none] = L2.start N vs := by
    have h1 := congrArg List.length hS.pre
    rw [List.length_take, List.length_append, List.length_singleton] at h1
    have h2 : N.length - vs.length = (N.length - vs.length - 1) + 1 := by omega
    unfold NdefX.startF L2.start
    rw [h2, List.replicate_succ]
    rfl
  refine ⟨μ, _, st, by rw [est]; exact Sim.start S r (by rw [hns, hnp, hl]), (WP.bind w).mono fun p s1 μ1 H1 P1 w1 => ?_⟩
  obtain ⟨fl1, ρ1⟩ := p
  cases fl1 with
  | ret d => exact WP.ok P1.sto w1
  | bk => exact WP.ok (Φ := FQ K F { nx := fun _ H' => Q .non H', rt := Q }) P1.sto w1
  | ct => exact WP.ok (Φ := FQ K F { nx := fun _ H' => Q .non H', rt := Q }) P1.sto w1
  | nx =>
    intro σ1 S1
    simp only [exs, ex, R.bind_assoc] at w1
    cases hx : ρ1[0]? with
    | none => rw [hx] at w1; exact w1.elim
    | some x =>
      cases x with
      | none => rw [hx] at w1; exact w1.elim
      | some x =>
        rw [hx] at w1
        rw [show (some (some x) : Option (Option Nz.D)).join = some x from rfl, show R.ofO (some x) s1 = .ok x s1 from rfl, R.bind_ok] at w1
        cases hcx : clsOf x s1 == some c with
        | false => rw [hcx] at w1; exact w1.elim
        | true =>
          rw [hcx] at w1
          simp only [R.grd_true, R.bind_assoc, R.bind_ok] at w1
          obtain ⟨v, hv, rv⟩ := S1.env 0 x hx
          obtain ⟨l, a, C, dx, fs, fv, rfl, rfl, e1, e2, e3⟩ := cls_ok P1.sto rv (eq_of_beq hcx)
          rw [hc] at e1
          cases e1
          refine ⟨a, dx, fv, hv, e2, μ1, ρ1, s1, S1, w1.bind.mono fun ds s2 μ2 H2 P2 w2 us rs => ?_⟩
          refine ⟨μ2, s2, .ref l :: ds, P2.sto, .cons (rv.post P2) rs, w2.bind.mono fun d3 s3 μ3 H3 P3 w3 v3 _ => ?_⟩
          exact ⟨μ3, ρ1, s3, (S1.post P2).post P3, w3⟩
/-- every def keeps the promise of its run -/
theorem World0.both (W : World0 K mg F T L f fd ps) (hpr : T.sps = [] ∨ ((pr.main.file == T.file) = true ∧ (pr.main.scope.names.lookup ("super" : Str)).isSome = false)) : ∀ (k : Nat), (∀ i, Inn L i → FnOk pr w K mg base CX0 (2 * k) (f i) (fd i) (ps i) (spOf K F (run L k i))) ∧ (∀ i, Inn L i → T.stn.contains i = true → FnR pr w K mg base CX0 (2 * k) (f i) (spSt K F (run L k i)))
  | 0 => ⟨fun i _ => ⟨fun vs H Q E ⟨μ, st, ds, _, _, w⟩ => w.elim, fun A outer s H args us vs Q E _ _ _ _ ⟨μ, st, ds, _, _, w⟩ => w.elim⟩, fun i _ _ A outer s H us vs Q E _ e0 _ ⟨_, _, _, _, _, h⟩ => by
      obtain ⟨μ, st, ds, _, _, w⟩ := h s.heap.objs.size (e0.hok.fresh (Nat.le_refl _))
      exact w.elim⟩
  | k + 1 => by
    obtain ⟨ihA, ihB⟩ := World0.both W hpr k
    have body : ∀ i, Inn L i → T.sps.lookup i = none → ∃ (x qual : Str) (params : Arguments) (body : List Stmt) (scope : Scope) (N : List Str), FunD K x qual params body scope [] [] (f i) (fd i) ∧ FnScope N (ps i) scope ∧
        (∀ vs H Q (E : XK), spOf K F (run L (k + 1) i) vs H Q E → vs.length = (ps i).length) ∧
        ∀ (cdv : Value) (A : Around) (outer : List PySem.Env) (s : Shared) (H : Hp) (vs : List V) (Q : VK) (E : XK), Room (2 * k + 1) (A.deeper (envOfC qual scope s.heap.objs.size (f i) cdv)) → spOf K F (run L (k + 1) i) vs H Q E →
          ∃ t, PSs (cxOf CX0 pr w K mg base N qual scope (f i) cdv A outer s H E) body t ∧ t { nx := fun _ H' => Q .non H', rt := Q } (L2.start N vs) H := by
      intro i hi hno
      obtain ⟨df, hd⟩ := hi
      obtain ⟨x, qual, params, body, scope, N, m, hF, hS, hnp, hns, htr⟩ := W.defs i _ hd hno
      have un : ∀ ds st, run L (k + 1) i ds st = R.grd (ds.length == df.np) (gc st ((exs L.G (run L k) df.body (ds.map some ++ List.replicate (df.ns - df.np) none) st).bind fin)) := fun ds st => by
        rw [run, hd]
      have hlen : ∀ vs H Q (E : XK), spOf K F (run L (k + 1) i) vs H Q E → vs.length = (ps i).length := fun vs H Q E ⟨μ, st, ds, S, r, w⟩ => by
        rw [un] at w
        rw [← r.length, ← hnp]
        exact eq_of_beq w.grd.1
      refine ⟨x, qual, params, body, scope, N, hF, hS, hlen, fun cdv A outer s H vs Q E hr hsp => ?_⟩
      have hl := hlen vs H Q E hsp
      obtain ⟨μ, st, ds, S, r, w⟩ := hsp
      rw [un] at w
      have w := fin_ok (gc_ok S w.grd.2)
      have o : Ok (cxOf CX0 pr _ K mg base N qual scope (f i) cdv A outer s H E).nox F { T with N := N } L.G (run L k) := W.ok ihA W.bnd ihB rfl rfl rfl rfl rfl rfl hS.nd hr
      refine ⟨_, PSs.nox ((allS m).ss (T := { T with N := N }) o (fun y hy => ⟨hy, .inl rfl⟩) PassesOwn.never htr), ?_⟩
      refine ⟨μ, _, st, Sim.start S r ?_, w⟩
      rw [hns, hnp, hl]
    refine ⟨fun i hi => ?_, fun i hi hs => ?_⟩
    · cases hsp : T.sps.lookup i with
      | some cg =>
        obtain ⟨c, g⟩ := cg
        have hne : T.sps ≠ [] := fun z => by rw [z] at hsp; cases hsp
        have hp2 := hpr.resolve_left hne
        obtain ⟨d, hd⟩ := hi
        exact sup_fn W ihA ihB hp2.1 hp2.2 hd hsp
      | none =>
      obtain ⟨x, qual, params, bd, scope, N, hF, hS, hlen, hb⟩ := body i hi hsp
      exact hF.ok (k := 2 * k + 1) hS hlen hb
    · have hno : T.sps.lookup i = none := by
        cases q : T.sps.lookup i with
        | none => rfl
        | some cg =>
          obtain ⟨d, hd⟩ := hi
          have := (W.sup i d cg.1 cg.2 hd q).2.2.1
          rw [hs] at this; cases this
      obtain ⟨x, qual, params, bd, scope, N, hF, hS, hlen, hb⟩ := body i hi hno
      obtain ⟨p, pv, e, hbind⟩ := W.stb i hi hs
      obtain ⟨oc, od, dV, kV, doc, pm, an, cdv, ct, osl, efd, lk, hcd, _, _⟩ := hF.ex
      rw [e] at hS
      rw [efd] at hbind lk
      have := StX.fn_star (P := pr) (w := w) (mg := mg) (base := base) (CX := CX0) (k := 2 * k + 1) (ps := [p]) (pv := pv) (sp := spOf K F (run L (k + 1) i)) lk hcd hS StX.cxUp_none hbind (fun A outer s H vs Q E hr hsp => hb cdv A outer s H vs Q E hr hsp)
      exact this
theorem World0.fnOk (W : World0 K mg F T L f fd ps) (hpr : T.sps = [] ∨ ((pr.main.file == T.file) = true ∧ (pr.main.scope.names.lookup ("super" : Str)).isSome = false)) (k i : Nat) (hi : Inn L i) : FnOk pr w K mg base CX0 (2 * k) (f i) (fd i) (ps i) (spOf K F (run L k i)) := (World0.both W hpr k).1 i hi
end
end Nz
namespace Nz
open PySem L2 PyProof.Rows He
def valOf : Value → V
  | .none => .non
  | .bool b => .bl b
  | .int i _ => .int i
  | .str s _ => .str s
  | .ref a => .ref a
  | .type n => .ty n
  | _ => .non
theorem relD_ok {K : PySem.W.Frag} : ∀ (n : Nat) {d : D} {v : Value}, relD K n d v = true → RelV (valOf v) v ∧ ∀ μ H, Rp K μ H d (valOf v)
  | 0, d, v, h => by simp only [relD, Bool.false_eq_true] at h
  | n + 1, d, v, h => by
    unfold relD at h
    split at h
    · exact ⟨rfl, fun _ _ => .non⟩
    · rw [eq_of_beq h]; exact ⟨rfl, fun _ _ => .bl _⟩
    · rename_i i j t
      rw [of_decide_eq_true h]; exact ⟨⟨t, rfl⟩, fun _ _ => .int _⟩
    · rename_i i j t
      rw [of_decide_eq_true h]; exact ⟨⟨t, rfl⟩, fun _ _ => .str _⟩
    · rename_i ds a
      split at h
      · rename_i c od its m sl hl
        simp only [Bool.and_eq_true, decide_eq_true_eq] at h
        obtain ⟨hc, hz, hlen, hall⟩ := h
        have go : ∀ (ds : List D) (vs : List Value), ds.length = vs.length → ((ds.zip vs).all fun p => relD K n p.1 p.2) = true → Vals (vs.map valOf) vs ∧ ∀ μ H, Rps K μ H ds (vs.map valOf) := by
          intro ds
          induction ds with
          | nil => intro vs hl _; cases vs with
            | nil => exact ⟨.nil, fun _ _ => .nil⟩
            | cons _ _ => cases hl
          | cons d ds ih => intro vs hl ha; cases vs with
            | nil => cases hl
            | cons v vs =>
              simp only [List.zip_cons_cons, List.all_cons, Bool.and_eq_true] at ha
              obtain ⟨r1, r2⟩ := ih vs (by simpa using hl) ha.2
              obtain ⟨q1, q2⟩ := relD_ok n ha.1
              exact ⟨.cons q1 r1, fun μ H => .cons (q2 μ H) (r2 μ H)⟩
        obtain ⟨r1, r2⟩ := go ds its.toList hlen hall
        exact ⟨rfl, fun μ H => .wt (.inr ⟨_, its, m, hl, congrArg Value.type hc, rfl, hz, r1⟩) (r2 μ H)⟩
      · cases h
    · cases h
/-- a def as it stands -/
def FunX (K : PySem.W.Frag) (e : Dd) (a : Addr) (fd : FuncData) : Prop :=
  ∃ (oc : Value) (od : Option Addr) (cl : List (Str × Addr)) (dV kV doc pm : Value) (an : Option Addr) (cdv ct : Value) (osl : Array (Option Value)),
    fd = PySem.W.fnX e.name e.qual e.par e.txt e.sco cl dV kV doc pm an cdv ct ∧ K.lookup a = some ⟨oc, od, .func fd, osl⟩ ∧ PySem.W.codeIn K cdv e.qual = true ∧ DflV K dV [] ∧ PySem.W.keepIn K (.ref a) = true ∧ cl.map (·.1) = e.clo
theorem FunX.funD {K : PySem.W.Frag} {e : Dd} {a : Addr} {fd : FuncData} (h : FunX K e a fd) (z : e.clo = []) : FunD K e.name e.qual e.par e.txt e.sco [] [] a fd := by
  obtain ⟨oc, od, cl, dV, kV, doc, pm, an, cdv, ct, osl, h1, h2, h3, h4, h5, h6⟩ := h
  rw [z] at h6
  have hc : cl = [] := List.map_eq_nil_iff.mp h6
  subst hc
  exact ⟨⟨oc, od, dV, kV, doc, pm, an, cdv, ct, osl, h1, h2, h3, h4, .inl rfl⟩, h5⟩
theorem Dd.fun_ {K : PySem.W.Frag} {e : Dd} (h1 : fnV K (e.loc.ad K) = e.val) (h2 : e.okB K = true) : ∃ fd, FunX K e (e.loc.ad K) fd := by
  unfold Dd.okB at h2
  rw [Bool.and_eq_true] at h2
  obtain ⟨hk, h2⟩ := h2
  unfold fnV at h1
  cases hl : K.lookup (e.loc.ad K) with
  | none => rw [hl] at h2; cases h2
  | some o =>
    rw [hl] at h1 h2
    obtain ⟨oc, od, dt, sl⟩ := o
    cases dt with
    | func g =>
      simp only [Dd.val, Option.some.injEq, Prod.mk.injEq] at h1
      simp only [Bool.and_eq_true] at h2
      obtain ⟨a1, a2, a3, a4, a5, a6, a7, a8⟩ := h1
      cases g
      simp only at a1 a2 a3 a4 a5 a6 a7 a8 h2
      subst a1 a2 a3 a4 a5 a6 a8
      exact ⟨_, oc, od, _, _, _, _, _, _, _, _, sl, rfl, hl, h2.1, dflB_ok h2.2, hk, a7⟩
    | _ => cases h2
theorem kwd_of {K : PySem.W.Frag} {x qual : Str} {params : Arguments} {body : List Stmt} {scope : Scope} {f : Addr} {fd : FuncData} {kn : Str} {d : D} (F : FunD K x qual params body scope [] [] f fd) (h : kwC K f kn (some d) = true) : ∃ v, FunD K x qual params body scope [] [(kn, v)] f fd ∧ ∀ μ H, Rp K μ H d v := by
  obtain ⟨⟨oc, od, dV, kV, doc, pm, an, cdv, ct, osl, rfl, hl, hc, hd, _⟩, kp⟩ := F
  unfold kwC at h
  rw [hl] at h
  simp only at h
  split at h
  · rename_i E hE
    split at h
    · rename_i u hu
      obtain ⟨r1, r2⟩ := relD_ok 20 h
      refine ⟨valOf u, ⟨⟨oc, od, dV, _, doc, pm, an, cdv, ct, osl, rfl, hl, hc, hd, .inr ⟨E, by first | exact hE | rfl, fun q hq => ?_⟩⟩, kp⟩, r2⟩
      cases List.mem_singleton.mp hq
      exact ⟨u, hu, r1⟩
    · cases h
  · cases h
section
variable {c : PySem.W.Frag → Bool} {fn : List Dd} {K : PySem.W.Frag}
theorem SaysC.fst (h : SaysC c fn K) : (c K && fn.all fun d => d.okB K) = true := congrArg (fun z : AlN => z.1) h
theorem SaysC.ck (h : SaysC c fn K) : c K = true := (ba h.fst).1
theorem map_same {α β : Type} {f g : α → β} : ∀ {l : List α}, l.map f = l.map g → ∀ x ∈ l, f x = g x
  | a :: l, h, x, m => by
    simp only [List.map_cons, List.cons.injEq] at h
    rcases List.mem_cons.mp m with e | m
    · rw [e]; exact h.1
    · exact map_same h.2 x m
theorem SaysC.fun_ (h : SaysC c fn K) {d : Dd} (m : d ∈ fn) : ∃ fd, FunX K d (d.loc.ad K) fd :=
  Dd.fun_ (map_same (congrArg (fun z : AlN => z.2) h) d m) (List.all_eq_true.mp (ba h.fst).2 d m)
end
/-- one def's text is as the evaluator has it -/
structure Good (T : Tab) (d : Df) (e : Dd) : Prop where
  sc : FnScope e.N e.ps e.sco
  bind : ∀ (kV doc pm : Value) (an : Option Addr) (cdv ct : Value) (us : List Value), us.length = e.ps.length → bindArgs (PySem.W.fnOf e.name e.qual e.par e.txt e.sco .none kV doc pm an cdv ct) ⟨us, []⟩ = pure (e.ps.zip us)
  np : d.np = e.ps.length
  ns : d.ns = e.N.length
  tr : ∃ m, trSs { T with N := e.N } e.sco m e.txt = some d.body
/-- the same of a def with one keyword-only parameter -/
structure GoodK (T : Tab) (kn : Str) (d : Df) (e : Dd) : Prop where
  pos : 0 < e.ps.length
  sc : FnScope e.N e.ps e.sco
  bk : ∀ (kV doc pm : Value) (an : Option Addr) (cdv ct : Value) (us ws : List Value), us.length + 1 = e.ps.length → ws.length = 1 → bindArgs (PySem.W.fnOf e.name e.qual e.par e.txt e.sco .none kV doc pm an cdv ct) ⟨us, [kn].zip ws⟩ = pure (e.ps.zip (us ++ ws))
  bd : ∀ (E : Addr) (doc pm : Value) (an : Option Addr) (cdv ct : Value) (us ks : List Value), us.length + 1 = e.ps.length → ks.length = 1 → KwChain E ([kn].zip ks) (bindArgs (PySem.W.fnOf e.name e.qual e.par e.txt e.sco .none (.ref E) doc pm an cdv ct) ⟨us, []⟩) (e.ps.zip (us ++ ks))
  np : d.np = e.ps.length
  ns : d.ns = e.N.length
  tr : ∃ m, trSs { T with N := e.N } e.sco m e.txt = some d.body
/-- the same of a method with a star parameter -/
structure GoodS (T : Tab) (d : Df) (e : Dd) : Prop where
  pp : ∃ p pv, e.ps = [p] ++ [pv] ∧ ∀ (kV doc pm : Value) (an : Option Addr) (cdv ct : Value) (us rest : List Value), us.length = 1 → bindArgs (PySem.W.fnOf e.name e.qual e.par e.txt e.sco .none kV doc pm an cdv ct) ⟨us ++ rest, []⟩ = (newTuple rest >>= fun t => pure ([p].zip us ++ [(pv, t)]))
  sc : FnScope e.N e.ps e.sco
  np : d.np = e.ps.length
  ns : d.ns = e.N.length
  tr : ∃ m, trSs { T with N := e.N } e.sco m e.txt = some d.body
theorem kw_st {T : Tab} {i : Nat} (h : T.stn.contains i = true) : isKw T i = true := by unfold isKw; rw [h, Bool.or_true]
/-- the same of a def that says super().__init__(..) -/
structure GoodX (T : Tab) (c g n : Nat) (d : Df) (e : Dd) : Prop where
  clo : e.clo = [("__class__" : Str)]
  sc : NdefX.nscB e.N e.ps [("__class__" : Str)] e.sco = true
  sup : e.sco.names.lookup ("super" : Str) = some .globalImplicit
  cls : e.sco.names.lookup ("__class__" : Str) = some .free
  par : ∃ arg, (e.par.posonlyargs ++ e.par.args).head? = some arg ∧ e.ps[0]? = some arg.arg
  bind : ∀ (cl : List (Str × Addr)) (kV doc pm : Value) (an : Option Addr) (cdv ct : Value) (us : List Value), us.length = e.ps.length → bindArgs (PySem.W.fnX e.name e.qual e.par e.txt e.sco cl .none kV doc pm an cdv ct) ⟨us, []⟩ = pure (e.ps.zip us)
  np : d.np = e.ps.length
  ns : d.ns = e.N.length
  tr : ∃ m, trX { T with N := e.N } e.sco m c g n e.txt = some d.body
inductive GD (T : Tab) (i : Nat) (d : Df) (e : Dd) : Prop
  | p (h : Good T d e) (k : isKw T i = false) (z : e.clo = []) (x : T.sps.lookup i = none)
  | k (kn : Str) (h : GoodK T kn d e) (k : isKw T i = true) (k2 : (T.kfs.all fun p => !(p.2.1 == i) || p.2.2.1 == kn) = true) (k3 : T.stn.contains i = false) (z : e.clo = []) (x : T.sps.lookup i = none)
  | s (h : GoodS T d e) (k : T.stn.contains i = true) (k2 : (T.kfs.any fun p => p.2.1 == i) = false) (z : e.clo = []) (x : T.sps.lookup i = none)
  | x (c g n : Nat) (h : GoodX T c g n d e) (k : isKw T i = false) (x : T.sps.lookup i = some (c, g))
inductive Goods (T : Tab) : List (Nat × Df) → List (Nat × Dd) → Prop
  | nil : Goods T [] []
  | cons {i : Nat} {d : Df} {e : Dd} {ds : List (Nat × Df)} {es : List (Nat × Dd)} (h : Good T d e) (t : Goods T ds es) (k : isKw T i = false := by rfl) (z : e.clo = [] := by rfl) (x : T.sps.lookup i = none := by rfl) : Goods T ((i, d) :: ds) ((i, e) :: es)
  | consK {i : Nat} {d : Df} {e : Dd} {ds : List (Nat × Df)} {es : List (Nat × Dd)} (kn : Str) (h : GoodK T kn d e) (t : Goods T ds es) (k : isKw T i = true := by rfl) (k2 : (T.kfs.all fun p => !(p.2.1 == i) || p.2.2.1 == kn) = true := by rfl) (k3 : T.stn.contains i = false := by rfl) (z : e.clo = [] := by rfl) (x : T.sps.lookup i = none := by rfl) : Goods T ((i, d) :: ds) ((i, e) :: es)
  | consS {i : Nat} {d : Df} {e : Dd} {ds : List (Nat × Df)} {es : List (Nat × Dd)} (h : GoodS T d e) (t : Goods T ds es) (k : T.stn.contains i = true := by rfl) (k2 : (T.kfs.any fun p => p.2.1 == i) = false := by rfl) (z : e.clo = [] := by rfl) (x : T.sps.lookup i = none := by rfl) : Goods T ((i, d) :: ds) ((i, e) :: es)
  | consX {i : Nat} {d : Df} {e : Dd} {ds : List (Nat × Df)} {es : List (Nat × Dd)} (c g n : Nat) (h : GoodX T c g n d e) (t : Goods T ds es) (k : isKw T i = false := by rfl) (x : T.sps.lookup i = some (c, g) := by rfl) : Goods T ((i, d) :: ds) ((i, e) :: es)
theorem Goods.get {T : Tab} {ds : List (Nat × Df)} {es : List (Nat × Dd)} (g : Goods T ds es) {i : Nat} {d : Df} (hi : ds.lookup i = some d) : ∃ e, es.lookup i = some e ∧ GD T i d e := by
  have go : ∀ {j : Nat} {d' : Df} {e' : Dd} {ds : List (Nat × Df)} {es : List (Nat × Dd)}, GD T j d' e' → (ds.lookup i = some d → ∃ e, es.lookup i = some e ∧ GD T i d e) → ((j, d') :: ds).lookup i = some d → ∃ e, ((j, e') :: es).lookup i = some e ∧ GD T i d e := fun {j d' e' ds es} h ih hi => by
    rw [List.lookup_cons] at hi ⊢
    cases q : i == j with
    | true => rw [q] at hi; cases hi; exact ⟨_, rfl, by rw [eq_of_beq q]; exact h⟩
    | false => rw [q] at hi; exact ih hi
  induction g with
  | nil => cases hi
  | cons h t hk hz hx ih => exact go (.p h hk hz hx) ih hi
  | consK kn h t hk hk2 hk3 hz hx ih => exact go (.k kn h hk hk2 hk3 hz hx) ih hi
  | consS h t hk hk2 hz hx ih => exact go (.s h hk hk2 hz hx) ih hi
  | consX c g n h t hk hx ih => exact go (.x c g n h hk hx) ih hi
theorem Goods.inn0 {T : Tab} {ds : List (Nat × Df)} {es : List (Nat × Dd)} (g : Goods T ds es) {i : Nat} (h : isDd es i = true) : ∃ d, ds.lookup i = some d := by
  have go : ∀ {j : Nat} {d' : Df} {e' : Dd} {ds : List (Nat × Df)} {es : List (Nat × Dd)}, (isDd es i = true → ∃ d, ds.lookup i = some d) → isDd ((j, e') :: es) i = true → ∃ d, ((j, d') :: ds).lookup i = some d := fun {j d' e' ds es} ih h => by
    unfold isDd at h ih
    rw [List.lookup_cons] at h ⊢
    cases q : i == j with
    | true => exact ⟨_, rfl⟩
    | false => rw [q] at h; exact ih h
  induction g with
  | nil => cases h
  | cons h' t hk hz hx ih => exact go ih h
  | consK kn h' t hk hk2 hk3 hz hx ih => exact go ih h
  | consS h' t hk hk2 hz hx ih => exact go ih h
  | consX c g n h' t hk hx ih => exact go ih h
theorem Goods.inn {T : Tab} {L : Prog} {es : List (Nat × Dd)} (g : Goods T L.defs es) {i : Nat} (h : isDd es i = true) : Inn L i := g.inn0 h
theorem Goods.inp {T : Tab} {L : Prog} {es : List (Nat × Dd)} (g : Goods T L.defs es) {i : Nat} (h : isDp T es i = true) : Inn L i ∧ isKw T i = false := by
  unfold isDp at h
  rw [Bool.and_eq_true, Bool.not_eq_true'] at h
  exact ⟨g.inn h.1, h.2⟩
def nmOf (K : PySem.W.Frag) (T : Tab) (cn : List (Option Str)) : Nm := ⟨fun c => match cn[c]? with
  | some (some x) => some (ga K x)
  | _ => none, T.fld⟩
theorem lookup_mem {α β : Type} [BEq α] [LawfulBEq α] {x : α} {y : β} : ∀ {l : List (α × β)}, l.lookup x = some y → (x, y) ∈ l
  | (a, b) :: r, h => by
    rw [List.lookup_cons] at h
    split at h
    · rename_i e
      cases h
      rw [eq_of_beq e]
      exact List.mem_cons_self ..
    · exact List.mem_cons_of_mem _ (lookup_mem h)
theorem zip_mem {α β : Type} {as : List α} {bs : List β} {i : Nat} {a : α} {b : β} (h1 : as[i]? = some a) (h2 : bs[i]? = some b) : (a, b) ∈ as.zip bs := by
  refine List.mem_iff_getElem?.mpr ⟨i, ?_⟩
  rw [List.getElem?_zip_eq_some]
  exact ⟨h1, h2⟩
theorem atOf_mem {l : List (List (Nat × Nat))} {names : List Str} {m c i : Nat} {x : Str} (h1 : names[m]? = some x) (h2 : atOf l m c = some i) : ∃ r, (x, r) ∈ names.zip l ∧ (c, i) ∈ r := by
  unfold atOf at h2
  cases e : l[m]? with
  | none => rw [e] at h2; cases h2
  | some r => rw [e] at h2; exact ⟨r, zip_mem h1 e, lookup_mem h2⟩
theorem some_nodup {x : Str} : ∀ {cn : List (Option Str)} {i j : Nat}, (cn.filterMap id).Nodup → cn[i]? = some (some x) → cn[j]? = some (some x) → i = j
  | [], i, j, _, h, _ => by simp at h
  | o :: cn, 0, 0, _, _, _ => rfl
  | o :: cn, 0, j + 1, nd, h1, h2 => by
    simp at h1 h2; subst h1
    simp only [List.filterMap_cons, id] at nd
    exact absurd (List.mem_filterMap (f := id).mpr ⟨some x, List.mem_of_getElem? h2, rfl⟩) (List.nodup_cons.mp nd).1
  | o :: cn, i + 1, 0, nd, h1, h2 => by
    simp at h1 h2; subst h2
    simp only [List.filterMap_cons, id] at nd
    exact absurd (List.mem_filterMap (f := id).mpr ⟨some x, List.mem_of_getElem? h1, rfl⟩) (List.nodup_cons.mp nd).1
  | o :: cn, i + 1, j + 1, nd, h1, h2 => by
    simp at h1 h2
    have nd' : (cn.filterMap id).Nodup := by
      cases o with
      | none => simpa using nd
      | some y => simp only [List.filterMap_cons, id] at nd; exact (List.nodup_cons.mp nd).2
    rw [some_nodup nd' h1 h2]
theorem fnOf_mem {dd : List (Nat × Dd)} {i : Nat} {e : Dd} (h : dd.lookup i = some e) : e ∈ fnOf dd := List.mem_map.mpr ⟨(i, e), lookup_mem h, rfl⟩
theorem sup_ok {K : PySem.W.Frag} {file : Str} {D cc cda f2 : Addr} (h : supB K file D cc cda f2 = true) : NzSup.SupC file K D cc cda f2 := by
  unfold supB at h
  simp only [Bool.and_eq_true, decide_eq_true_eq] at h
  obtain ⟨h1, h2, h3, h4, h5, h6, h7, h8, h9⟩ := h
  refine ⟨?_, Option.isSome_iff_exists.mp h2, h3, eqO_ok h4, eqO_ok h5, h6, h7, ?_, eqO_ok h9⟩
  · split at h1
    · rename_i cl cld D' csl hl
      rw [eq_of_beq h1] at hl
      exact ⟨_, _, _, hl⟩
    · cases h1
  · split at h8
    · rename_i a b vs d hl
      split at h8
      · rename_i fl tk hv
        rw [of_decide_eq_true h8] at hv
        exact ⟨_, _, _, _, _, hl, hv⟩
      · cases h8
    · cases h8
theorem isSup_ok {s : Stmt} {p0 p1 apos pos pos' : Pos} {e : Expr} {es : List Expr} (h : isSup s = some (p0, p1, apos, pos, pos', e, es)) : s = supSt p0 p1 apos pos pos' e es := by
  unfold isSup at h
  split at h
  · split at h
    · rename_i hh
      obtain ⟨rfl, rfl⟩ := hh
      cases h
      rfl
    · cases h
  · cases h
theorem trX_ok {T : Tab} {sc : Scope} {m c g n : Nat} {txt : List Stmt} {B : Ss} (h : trX T sc m c g n txt = some B) :
    ∃ (pre post : List Stmt) (e : Expr) (es : List Expr) (p0 p1 apos pos pos' : Pos) (B1 B2 : Ss) (Ea : Es), txt = pre ++ supSt p0 p1 apos pos pos' e es :: post ∧ (apos.endLine == pos.line) = true ∧ (e :: es).length < 20 ∧ trSs T sc m pre = some B1 ∧ trEs T m sc (e :: es) = some Ea ∧ trSs T sc m post = some B2 ∧ B = B1.app (.cons (.sup c g Ea) B2) := by
  unfold trX at h
  split at h
  · rename_i s post hd
    split at h
    · rename_i p0 p1 apos pos pos' e es hs
      split at h
      · rename_i hc
        rw [Bool.and_eq_true, decide_eq_true_eq] at hc
        split at h
        · rename_i B1 Ea B2 h1 h2 h3
          cases h
          exact ⟨txt.take n, post, e, es, p0, p1, apos, pos, pos', B1, B2, Ea, by rw [← isSup_ok hs, ← hd, List.take_append_drop], hc.1, hc.2, h1, h2, h3, rfl⟩
        · cases h
      · cases h
    · cases h
  · cases h
/-- the head's facts give all that the walk asks -/
theorem world0 {K : PySem.W.Frag} {h : Heap} {mg : Str → Option Value} {T : Tab} {L : Prog} {cn : List (Option Str)} {dd : List (Nat × Dd)} (X : K.In h) (G : h.Ns mainGlobals mg) (c : SaysC (ck T L.G cn dd) (fnOf dd) K) (n : ckN T L.G cn dd = true) (g : Goods T L.defs dd) (h0 : ∃ i, Inn L i) :
    ∃ fd : Nat → FuncData, World0 K mg (nmOf K T cn) T L (adOf K dd) fd (psOf dd) := by
  have ckK := c.ck
  unfold ck at ckK
  rw [Bool.and_eq_true] at ckK
  obtain ⟨kS, ckK⟩ := ckK
  unfold ck0 at ckK
  simp only [Bool.and_eq_true] at ckK
  obtain ⟨k0, k1, k2, k3, k4, k5, k6, k8, k7⟩ := ckK
  unfold ckN at n
  rw [Bool.and_eq_true] at n
  obtain ⟨nS, n⟩ := n
  unfold ckN0 at n
  simp only [Bool.and_eq_true, decide_eq_true_eq] at n
  obtain ⟨n0, n1, n2, n3, n4, n5, n6, n7⟩ := n
  have one : ∀ (i : Nat) (e : Dd), dd.lookup i = some e → ∃ fd : FuncData, FunX K e (adOf K dd i) fd := fun i e he => by
    have ha : adOf K dd i = e.loc.ad K := by unfold adOf; rw [he]
    rw [ha]
    exact c.fun_ (fnOf_mem he)
  have fdE : ∀ i : Nat, ∃ fd : FuncData, ∀ e : Dd, dd.lookup i = some e → FunX K e (adOf K dd i) fd := by
    intro i
    by_cases q : ∃ e, dd.lookup i = some e
    · obtain ⟨e, q⟩ := q
      obtain ⟨fd, hfd⟩ := one i e q
      exact ⟨fd, fun e' h => by rw [q] at h; cases h; exact hfd⟩
    · obtain ⟨j, d, hj⟩ := h0
      obtain ⟨e, he, _⟩ := g.get hj
      obtain ⟨fd, _⟩ := one j e he
      exact ⟨fd, fun e' h => absurd ⟨e', h⟩ q⟩
  obtain ⟨fd, hfd⟩ := Classical.axiomOfChoice fdE
  have clx : ∀ (j : Nat) (C : Addr), (nmOf K T cn).cls j = some C → ∃ x, cn[j]? = some (some x) ∧ ga K x = C := fun j C h => by
    unfold nmOf at h
    simp only at h
    split at h
    · rename_i x hx
      exact ⟨x, hx, Option.some.inj h⟩
    · cases h
  have clv : ∀ (j : Nat) (x : Str), cn[j]? = some (some x) → (nmOf K T cn).cls j = some (ga K x) := fun j x h => by
    unfold nmOf
    simp only [h]
  have k5' := fun x (hx : some x ∈ cn) => by
    have := List.all_eq_true.mp k5 _ hx
    simp only [ckC1, Bool.and_eq_true, decide_eq_true_eq] at this
    exact this
  have ccx : ∀ (j j' : Nat) (C E : Addr), (nmOf K T cn).cls j = some C → (nmOf K T cn).cls j' = some E → j' ≠ 9 → PySem.W.kitOne K (.ref C) (.ref E) = some (j == j') := fun j j' C E hC hE h9 => by
    obtain ⟨x, hx, rfl⟩ := clx j C hC
    obtain ⟨y, hy, rfl⟩ := clx j' E hE
    obtain ⟨_, a1, a2, a3, a4, a5, a6, a7, _⟩ := k5' x (List.mem_of_getElem? hx)
    have this := List.all_eq_true.mp a7 (some y, j') (List.mem_zipIdx_iff_getElem?.mpr hy)
    simp only [Bool.or_eq_true, beq_iff_eq, decide_eq_true_eq] at this
    rw [this.resolve_left h9]
    by_cases e : j = j'
    · subst e
      rw [hx] at hy; cases hy
      simp
    · have hne : x ≠ y := fun q => by
        subst q
        exact e (some_nodup n4 hx hy)
      rw [beq_eq_false_iff_ne.mpr hne, beq_eq_false_iff_ne.mpr e]
  refine ⟨fd, ⟨fun i d cx gx hd hsx => ?_, fun i d hd hsx => ?_, fun x i hx => ?_, fun x j hx => ?_, fun x d hx => ?_, fun x hx => free_ok X G (List.all_eq_true.mp k2 x hx), ⟨fun j C hC => ?_, fun j C hC => ?_, fun j C nm hC hn => ?_, fun j C nm hC hn => ?_, fun j j' C E hC hE hd9 => ?_, fun j j' C hC hE => ?_⟩, rfl, n3, fun j C x hC hx => ?_, fun m x j i e1 e0 e2 => ?_, fun i hi hk => ?_, fun m x j i e1 e0 e2 => ?_, fun m x j i e1 e2 => ?_, fun x j i e1 e2 => ?_, fun i hi hk => ?_, fun x i kn dv hx => ?_⟩⟩
  · obtain ⟨e, he, gd⟩ := g.get hd
    have hFX := hfd i e he
    have hp : psOf dd i = e.ps := by unfold psOf; rw [he]
    cases gd with
    | p _ _ _ hx => rw [hx] at hsx; cases hsx
    | k _ _ _ _ _ _ hx => rw [hx] at hsx; cases hsx
    | s _ _ _ _ hx => rw [hx] at hsx; cases hsx
    | x c' g' n' gd hkw hx =>
      rw [hx] at hsx
      cases hsx
      have hmem := lookup_mem hx
      have nS1 := List.all_eq_true.mp nS _ hmem
      simp only [Bool.and_eq_true, Bool.not_eq_true'] at nS1
      have kS1 := List.all_eq_true.mp kS _ hmem
      have ha : adOf K dd i = e.loc.ad K := by unfold adOf; rw [he]
      obtain ⟨oc, od, cl, dV, kV, doc, pm, an, cdv, ct, osl, f1, f2, f3, f4, f5, f6⟩ := hFX
      simp only [he] at kS1
      split at kS1
      · rename_i e1 x1 q1 q2
        cases q1
        rw [ha] at f2
        rw [f2] at kS1
        simp only [f1] at kS1
        split at kS1
        · rename_i q cda
          rw [gd.clo] at f6
          have hq : q = (("__class__" : Str), q.2) := by
            simp only [List.map_cons, List.map_nil, List.cons.injEq, and_true] at f6
            rw [← f6]
          have hsup : NzSup.SupC T.file K (ga K x1) q.2 cda (adOf K dd gx) := sup_ok kS1
          obtain ⟨m, hm⟩ := gd.tr
          obtain ⟨pre, post, ex, es, p0, p1, apos, pos, pos', B1, B2, Ea, t1, t2, t3, t4, t5, t6, t7⟩ := trX_ok hm
          obtain ⟨arg, g1, g2⟩ := gd.par
          refine ⟨(g.inp nS1.1).1, (g.inp nS1.1).2, nS1.2.1, by simpa using nS1.2.2, ⟨e.name, e.qual, e.par, e.txt, e.sco, [q], cda⟩, oc, od, an, osl, dV, kV, doc, pm, ct, q.2, ga K x1, pre, post, ex, es, p0, p1, apos, pos, pos', e.N, m, arg, B1, B2, Ea, clv _ _ q2, hsup, by rw [← hq], f1, by rw [ha, f2, f1], f3, t1, by rw [hp]; exact NdefX.nscope_by gd.sc, g1, by rw [hp]; exact g2, gd.sup, gd.cls, t2, t3, by rw [hp]; exact gd.np, gd.ns, t4, t5, t6, t7⟩
        · cases kS1
      · cases kS1
  · obtain ⟨e, he, gd⟩ := g.get hd
    have hFX := hfd i e he
    have hp : psOf dd i = e.ps := by unfold psOf; rw [he]
    rcases gd with ⟨gd, _, hz, _⟩ | ⟨kn, gd, _, _, _, hz, _⟩ | ⟨gd, _, _, hz, _⟩ | ⟨_, _, _, _, _, hx⟩
    rotate_left 3
    · rw [hx] at hsx; cases hsx
    all_goals have hF := hFX.funD hz
    · obtain ⟨m, hm⟩ := gd.tr
      exact ⟨e.name, e.qual, e.par, e.txt, e.sco, e.N, m, hF, by rw [hp]; exact gd.sc, by rw [hp]; exact gd.np, gd.ns, hm⟩
    · obtain ⟨m, hm⟩ := gd.tr
      exact ⟨e.name, e.qual, e.par, e.txt, e.sco, e.N, m, hF, by rw [hp]; exact gd.sc, by rw [hp]; exact gd.np, gd.ns, hm⟩
    · obtain ⟨m, hm⟩ := gd.tr
      exact ⟨e.name, e.qual, e.par, e.txt, e.sco, e.N, m, hF, by rw [hp]; exact gd.sc, by rw [hp]; exact gd.np, gd.ns, hm⟩
  · have hm := lookup_mem hx
    have e2 := List.all_eq_true.mp k1 _ hm
    simp only [Bool.and_eq_true, decide_eq_true_eq] at e2
    rw [e2.2.2]
    obtain ⟨i1, i2⟩ := g.inp (List.all_eq_true.mp n1 _ hm)
    exact ⟨i1, glo_ok X G e2.1, e2.2.1, i2⟩
  · have hm := lookup_mem hx
    have e1 := of_decide_eq_true (List.all_eq_true.mp n2 _ hm)
    have e2 := List.all_eq_true.mp k3 _ hm
    exact ⟨ga K x, clv j x e1, glo_ok X G e2⟩
  · have hm := lookup_mem hx
    have e2 := List.all_eq_true.mp k4 _ hm
    split at e2
    · rename_i v hv
      obtain ⟨r1, r2⟩ := relD_ok 20 e2
      exact ⟨v, valOf v, PySem.W.mg_of X G hv, r1, r2⟩
    · cases e2
  · obtain ⟨x, hx, rfl⟩ := clx j C hC
    exact He.cls_ok (k5' x (List.mem_of_getElem? hx)).1
  · obtain ⟨x, hx, rfl⟩ := clx j C hC
    obtain ⟨_, a1, a2, a3, a4, _⟩ := k5' x (List.mem_of_getElem? hx)
    exact ⟨eqO_ok a1, eqO_ok a2, a3, a4⟩
  · obtain ⟨x, hx, rfl⟩ := clx j C hC
    obtain ⟨_, a1, a2, a3, a4, a5, _⟩ := k5' x (List.mem_of_getElem? hx)
    have := List.all_eq_true.mp a5 nm hn
    exact of_decide_eq_true this
  · obtain ⟨x, hx, rfl⟩ := clx j C hC
    obtain ⟨_, a1, a2, a3, a4, a5, a6, _⟩ := k5' x (List.mem_of_getElem? hx)
    have := List.all_eq_true.mp a6 nm (List.mem_cons_of_mem _ hn)
    simp only [Bool.or_eq_true, beq_iff_eq, decide_eq_true_eq] at this
    rcases this with rfl | this
    · simp at hn
    · exact this
  · exact ccx j j' C E hC hE hd9
  · by_cases h9 : j = 9
    · by_cases h9' : j' = 9
      · rw [h9, h9']
      · have e1 := ccx j j' C C hC hE h9'
        have e2 := ccx j' j' C C hE hE h9'
        rw [e2] at e1
        simpa using (Option.some.inj e1).symm
    · have e1 := ccx j' j C C hE hC h9
      have e2 := ccx j j C C hC hC h9
      rw [e2] at e1
      have h9' : j' = j := by simpa using (Option.some.inj e1).symm
      exact h9'.symm
  · obtain ⟨y, hy, rfl⟩ := clx j C hC
    obtain ⟨_, a1, a2, a3, a4, a5, a6, a7, a8⟩ := k5' y (List.mem_of_getElem? hy)
    exact noat_ok (List.all_eq_true.mp a8 x hx)
  · obtain ⟨r, hm, hr⟩ := atOf_mem e1 e2
    have q1 := List.all_eq_true.mp (List.all_eq_true.mp k6 _ hm) _ hr
    have q2 := List.all_eq_true.mp (List.all_eq_true.mp n5 _ hm) _ hr
    simp only [e0, if_true, Bool.and_eq_true, Bool.not_eq_true'] at q2
    simp only at q1
    split at q1
    · rename_i cx hc
      simp only [e0, Bool.not_true, Bool.false_or, Bool.and_eq_true, decide_eq_true_eq, Bool.not_eq_true'] at q1
      obtain ⟨a1, a2, a3, a4, a5, a6⟩ := q1
      have mt := meth_ok a1
      rw [a2] at mt
      exact ⟨g.inn q2.2.1, by simpa using q2.1, ⟨ga K cx, clv j cx hc, ⟨mt, eqO_ok a3, a4, a5, a6⟩⟩, q2.2.2⟩
    · cases q1
  · obtain ⟨d, hd⟩ := hi
    obtain ⟨e, he, gd⟩ := g.get hd
    have hFX := hfd i e he
    have hp : psOf dd i = e.ps := by unfold psOf; rw [he]
    rcases gd with ⟨_, z, _, _⟩ | ⟨_, _, _, _, z, _, _⟩ | ⟨gd, _, _, hz, _⟩ | ⟨_, _, _, _, z, _⟩
    · rw [kw_st hk] at z; cases z
    · rw [hk] at z; cases z
    rotate_left
    · rw [kw_st hk] at z; cases z
    · have hF := hFX.funD hz
      obtain ⟨p, pv, e1, e2⟩ := gd.pp
      refine ⟨p, pv, by rw [hp]; exact e1, fun us rest hl => ?_⟩
      obtain ⟨oc, od, dV, kV, doc, pm, an, cdv, ct, osl, efd, lk, hcd, hD, hK⟩ := hF.ex
      rcases hD with ⟨_, rfl⟩ | ⟨z, _⟩
      · rw [efd]
        exact e2 kV doc pm an cdv ct us rest hl
      · exact absurd rfl z
  · obtain ⟨r, hm, hr⟩ := atOf_mem e1 e2
    have q1 := List.all_eq_true.mp (List.all_eq_true.mp k6 _ hm) _ hr
    have q2 := List.all_eq_true.mp (List.all_eq_true.mp n5 _ hm) _ hr
    simp only [e0, Bool.false_eq_true, if_false, Bool.and_eq_true, Bool.not_eq_true'] at q2
    simp only at q1
    split at q1
    · rename_i cx hc
      simp only [Bool.and_eq_true, decide_eq_true_eq] at q1
      rw [← q1.2.1]
      exact ⟨(g.inp q2.2).1, by simpa using q2.1, ⟨ga K cx, clv j cx hc, meth_ok q1.1⟩, (g.inp q2.2).2⟩
    · cases q1
  · obtain ⟨r, hm, hr⟩ := atOf_mem e1 e2
    have q1 := List.all_eq_true.mp (List.all_eq_true.mp k8 _ hm) _ hr
    have q2 := List.all_eq_true.mp (List.all_eq_true.mp n6 _ hm) _ hr
    simp only at q1 q2
    split at q1
    · rename_i cx hc
      simp only [Bool.and_eq_true, decide_eq_true_eq] at q1
      obtain ⟨b1, b2, b3, b4⟩ := q1
      split at b4
      · rename_i gg rest hrec
        rw [← of_decide_eq_true b4]
        exact ⟨(g.inp q2).1, ⟨ga K cx, prA K cx x, clv j cx hc, ⟨eqO_ok b1, eqO_ok b2, b3, rest, hrec⟩⟩, (g.inp q2).2⟩
      · cases b4
    · cases q1
  · have e0 := of_decide_eq_true (List.all_eq_true.mp n2 _ (lookup_mem e1))
    have hm := zip_mem e0 e2
    have q1 := List.all_eq_true.mp k7 _ hm
    have q2 := List.all_eq_true.mp n7 _ hm
    simp only [Bool.and_eq_true, decide_eq_true_eq] at q1 q2
    rw [← q1.2]
    exact ⟨(g.inp q2).1, ⟨ga K x, clv j x e0, mkr_ok q1.1⟩, (g.inp q2).2⟩
  · obtain ⟨d, hd⟩ := hi
    obtain ⟨e, he, gd⟩ := g.get hd
    have hFX := hfd i e he
    have hp : psOf dd i = e.ps := by unfold psOf; rw [he]
    rcases gd with ⟨gd, _, hz, _⟩ | ⟨_, _, hk', _, _, _, _⟩ | ⟨_, hk', _, _, _⟩ | ⟨_, _, _, gd, _, _⟩
    · refine fun s us _ hl => ?_
      rw [List.append_nil] at hl ⊢
      rw [hp] at hl ⊢
      exact FunD.bindsA (hFX.funD hz) gd.bind s us hl
    · rw [hk] at hk'; cases hk'
    · rw [kw_st hk'] at hk; cases hk
    · refine fun s us _ hl => ?_
      rw [List.append_nil] at hl ⊢
      rw [hp] at hl ⊢
      obtain ⟨oc, od, cl, dV, kV, doc, pm, an, cdv, ct, osl, f1, f2, f3, f4, f5, f6⟩ := hFX
      rcases f4 with ⟨_, rfl⟩ | ⟨z, _⟩
      · rw [f1]
        exact .of_eq (gd.bind cl kV doc pm an cdv ct us hl)
      · exact absurd rfl z
  · have hm := lookup_mem hx
    have e2 := List.all_eq_true.mp k0 _ hm
    have e3 := List.all_eq_true.mp n0 _ hm
    simp only [Bool.and_eq_true, decide_eq_true_eq] at e2
    obtain ⟨e20, e21, e22, e23⟩ := e2
    have hi := g.inn e3
    refine ⟨hi, by rw [e22]; exact glo_ok X G e20, by rw [e22]; exact e21, ?_⟩
    obtain ⟨d, hd⟩ := hi
    obtain ⟨e, he, gd⟩ := g.get hd
    have hFX := hfd i e he
    have hp : psOf dd i = e.ps := by unfold psOf; rw [he]
    have hkw : isKw T i = true := by
      unfold isKw
      rw [List.any_eq_true.mpr ⟨_, hm, by simp⟩]
      rfl
    obtain ⟨kn', gk, hall, hz⟩ : ∃ kn', GoodK T kn' d e ∧ (T.kfs.all fun p => !(p.2.1 == i) || p.2.2.1 == kn') = true ∧ e.clo = [] := by
      rcases gd with ⟨_, hk', _, _⟩ | ⟨kn', gd, _, hall, _, hz, _⟩ | ⟨_, _, hno, _, _⟩ | ⟨_, _, _, _, hk', _⟩
      · rw [hkw] at hk'; cases hk'
      · exact ⟨kn', gd, hall, hz⟩
      · have : (T.kfs.any fun p => p.2.1 == i) = true := List.any_eq_true.mpr ⟨_, hm, by simp⟩
        rw [hno] at this; cases this
      · rw [hkw] at hk'; cases hk'
    have hF := hFX.funD hz
    have hkn : kn = kn' := by
      have := List.all_eq_true.mp hall _ hm
      simpa using this
    subst hkn
    rw [hp]
    have hlen : e.ps.length = (e.ps.length - 1) + 1 := by
      have h1 := gk.pos
      omega
    refine ⟨e.ps.length - 1, ⟨fun s us ws KI l1 l2 => ?_, fun r1 r2 => r1.append r2⟩, hlen, fun d' hd' => ?_⟩
    · obtain ⟨oc, od, dV, kV, doc, pm, an, cdv, ct, osl, efd, lk, hcd, hD, hK⟩ := hF.ex
      rcases hD with ⟨_, rfl⟩ | ⟨z, _⟩
      · rw [efd]
        exact .of_eq (gk.bk kV doc pm an cdv ct us ws (by omega) l2)
      · exact absurd rfl z
    · subst hd'
      rw [← e22] at e23
      obtain ⟨v, hF2, rp⟩ := kwd_of hF e23
      obtain ⟨ds, rv, hb⟩ := FunD.binds0 hF2 (e.ps.length - 1) (by simp) (by simp; omega) (fun E doc pm an cdv ct us ks l1 l2 => gk.bd E doc pm an cdv ct us ks (by omega) l2)
      cases rv with
      | cons r rs => cases rs; exact ⟨_, v, hb, r, rp⟩
/-- a law's promise from its run -/
theorem law_sp {K : PySem.W.Frag} {F : Nm} {g : List D → Store → R D} {n : Nat} (hrun : ∀ ns : List Int, ns.length ≤ n → ∃ s', g [.ref 0] [.frz (ns.map .int)] = .ok (.bl true) s') (H : Hp) (a : Addr) (ns : List Int) (hl : ns.length ≤ n) (hO : Only H) (hS : SqL K H a (ns.map V.int)) (E : XK) :
    spOf K F g [.ref a] H (fun v _ => v = .bl true) E := by
  obtain ⟨s', hs⟩ := hrun ns hl
  have ri : ∀ μ H, ∀ ns : List Int, Rps K μ H (ns.map .int) (ns.map V.int) := fun μ H ns => by
    induction ns with
    | nil => exact .nil
    | cons i ns ih => exact .cons (.int i) ih
  have fin : ∀ μ : Mu, WP K F μ H (g [.ref 0] [.frz (ns.map .int)]) (VQ K fun v _ => v = .bl true) := fun μ => by
    rw [hs]
    intro μ' H' P v rv
    cases rv; rfl
  rcases hS with (h | ⟨o, h⟩) | ⟨o, its, m, q1, q2, q3, q4, q5, q6⟩
  · rcases hO a with e | ⟨o, xs, e⟩ <;> rw [h] at e <;> cases e
  · refine ⟨[(a, false)], [.frz (ns.map .int)], [.ref 0], ⟨rfl, fun l o' a' e1 e2 => ?_, fun l o' a' e1 e2 => ?_, fun l m a' e1 e2 => ?_⟩, .cons (.ref (b := false) rfl) .nil, fin _⟩
    · cases l with
      | zero => simp at e1 e2; subst e1; subst e2; exact ⟨o, _, h, ri _ _ ns⟩
      | succ l => simp at e1
    · cases l with
      | zero => simp at e2
      | succ l => simp at e1
    · cases l with
      | zero => cases m with
        | zero => rfl
        | succ m => simp at e2
      | succ l => simp at e1
  · refine ⟨[(a, true)], [.frz (ns.map .int)], [.ref 0], ⟨rfl, fun l o' a' e1 e2 => ?_, fun l o' a' e1 e2 => ?_, fun l m a' e1 e2 => ?_⟩, .cons (.ref (b := true) rfl) .nil, fin _⟩
    · cases l with
      | zero => simp at e2
      | succ l => simp at e1
    · cases l with
      | zero => simp at e1 e2; subst e1; subst e2; exact ⟨_, o, its, m, q1, q2, q3, q4, q5, q6, ri _ _ ns⟩
      | succ l => simp at e1
    · cases l with
      | zero => simp at e1
      | succ l => simp at e1
/-- all the law's parts, for walk_ofE -/
theorem law_end {pr : Program} {w : World} {mg : Str → Option Value} {fa : Addr} {h : Heap} {T : Tab} {L : Prog} {cn : List (Option Str)} {dd : List (Nat × Dd)} {x : Str} {lw : Str} {il kk n h0 : Nat} (hk : (hookC h0 (ck T L.G cn dd) (fnOf dd)).says w h) (G : h.Ns mainGlobals mg) (nn : ckN T L.G cn dd = true) (g : Goods T L.defs dd) (hmg : mg lw = some (.ref fa))
    (hL : T.fns.lookup lw = some il) (hx : psOf dd il = [x]) (hpr : T.sps = [] ∨ ((pr.main.file == T.file) = true ∧ (pr.main.scope.names.lookup ("super" : Str)).isSome = false)) (hno : T.sps.lookup il = none) (hrun : ∀ ns : List Int, ns.length ≤ n → ∃ s', run L kk il [.ref 0] [.frz (ns.map .int)] = .ok (.bl true) s') :
    ∃ (K : PySem.W.Frag) (fd : FuncData) (sp : Sp), K.In h ∧ (∀ (s : Shared) (u : Value), BindsTo s fd ⟨[u], []⟩ [(x, u)]) ∧
        (∀ (H : Hp) (a : Addr) (ns : List Int), ns.length ≤ n → Only H → SqL K H a (ns.map V.int) → sp [.ref a] H (fun v _ => v = .bl true) fun _ _ _ => False) ∧
        ∀ base : Heap, K.In base → base.Ns mainGlobals mg → FnOk pr w K mg base CX0 (2 * kk) fa fd [x] sp := by
  obtain ⟨K, KX, c⟩ := hk
  have h0 : ∃ i, Inn L i := by
    obtain ⟨s', hs⟩ := hrun [] (Nat.zero_le _)
    cases kk with
    | zero => simp only [run, reduceCtorEq] at hs
    | succ k =>
      simp only [run] at hs
      split at hs
      · exact ⟨_, _, by assumption⟩
      · cases hs
  obtain ⟨fd, W⟩ := world0 KX G c nn g h0
  obtain ⟨hi, e1, _, hkw⟩ := W.fns lw il hL
  rw [hmg] at e1
  cases e1
  obtain ⟨d, hd⟩ := hi
  refine ⟨K, fd il, spOf K (nmOf K T cn) (run L kk il), KX, fun s u => ?_, fun H a ns h1 h2 h3 => law_sp hrun H a ns h1 h2 h3 _, fun base _ _ => ?_⟩
  · obtain ⟨e, he, gd⟩ := g.get hd
    obtain ⟨gd, hz⟩ : Good T d e ∧ e.clo = [] := by
      rcases gd with ⟨gd, _, hz, _⟩ | ⟨_, _, z, _, _, _, _⟩ | ⟨_, z, _, _, _⟩ | ⟨_, _, _, _, _, z⟩
      · exact ⟨gd, hz⟩
      · rw [hkw] at z; cases z
      · rw [kw_st z] at hkw; cases hkw
      · rw [hno] at z; cases z
    obtain ⟨x', qual, params, body, scope, N, m, hF, _⟩ := W.defs il _ hd hno
    have hps : e.ps = [x] := by unfold psOf at hx; rw [he] at hx; exact hx
    have ha : adOf K dd il = e.loc.ad K := by unfold adOf; rw [he]
    obtain ⟨fd2, hF2X⟩ := c.fun_ (fnOf_mem he)
    have hF2 := hF2X.funD hz
    have efd : fd2 = fd il := by
      obtain ⟨oc, od, dV, kV, doc, pm, an, cdv, ct, osl, _, l1, _⟩ := hF2.ex
      obtain ⟨oc', od', dV', kV', doc', pm', an', cdv', ct', osl', _, l2, _⟩ := hF.ex
      rw [ha, l1] at l2
      have := Option.some.inj l2
      injection this with _ _ e3 _
      injection e3
    subst efd
    have := FunD.bindsA hF2 gd.bind s [u] (by rw [hps]; rfl)
    rw [hps] at this
    exact this
  · have := W.fnOk (pr := pr) (w := w) (base := base) hpr kk il ⟨d, hd⟩
    rw [hx] at this
    exact this
end Nz
namespace Nz
@[simp] theorem cl_non (n : Nat) : D.cl n .non = true := by simp only [D.cl]
@[simp] theorem cl_bl (n : Nat) (b : Bool) : D.cl n (.bl b) = true := by simp only [D.cl]
@[simp] theorem cl_int (n : Nat) (b : Int) : D.cl n (.int b) = true := by simp only [D.cl]
@[simp] theorem cl_str (n : Nat) (b : Str) : D.cl n (.str b) = true := by simp only [D.cl]
@[simp] theorem cl_tup (n : Nat) (ds : List D) : D.cl n (.tup ds) = D.cls n ds := by simp only [D.cl]
@[simp] theorem cl_ref (n l : Nat) : D.cl n (.ref l) = decide (l < n) := by simp only [D.cl]
@[simp] theorem cls_nil (n : Nat) : D.cls n [] = true := by simp only [D.cls]
@[simp] theorem cls_cons (n : Nat) (d : D) (ds : List D) : D.cls n (d :: ds) = (D.cl n d && D.cls n ds) := by simp only [D.cls]
theorem pfx_app {n : Nat} : ∀ (st js : Store), pfx n st (st ++ js) = true
  | [], _ => by simp [pfx]
  | o :: os, js => by simp [pfx, O.beq_refl, pfx_app os js]
theorem pfx_self {n : Nat} (st : Store) : pfx n st st = true := by simpa using pfx_app (n := n) st []
theorem cls_int {n : Nat} : ∀ (is : List Int), D.cls n (is.map .int) = true
  | [] => by simp [D.cls]
  | i :: is => by simp [D.cls, D.cl, cls_int is]
/-- the call's end: a value that names no new place -/
theorem gc_ret {st s : Store} {d : D} (h1 : pfx st.length st s = true) (h2 : D.cl st.length d = true) : gc st (.ok d s) = .ok d (s.take st.length) := by
  simp [gc, h1, h2]
theorem gc_same {st : Store} {d : D} (js : Store) (h2 : D.cl st.length d = true) : gc st (.ok d (st ++ js)) = .ok d st := by
  rw [gc_ret (pfx_app _ _) h2]; simp
theorem gc_id {st : Store} {d : D} (h2 : D.cl st.length d = true) : gc st (.ok d st) = .ok d st := by simpa using gc_same (st := st) [] h2
theorem run_eq {P : Prog} {i : Nat} {d : Df} (h : P.defs.lookup i = some d) (k : Nat) (ds : List D) (st : Store) :
    run P (k + 1) i ds st = R.grd (ds.length == d.np) (gc st ((exs P.G (run P k) d.body (ds.map some ++ List.replicate (d.ns - d.np) none) st).bind fin)) := by
  simp only [run, h]
theorem cutT_same (b : Bool) (st : Store) : cutT b st st = st := by
  cases b <;> simp [cutT]
/-- a comprehension whose turns leave the store -/
theorem compLoop_pure {step : D → Store → R (Option D)} {wat : List (Nat × O)} {st : Store} (f : D → Option D) : ∀ (c : Bool) (ds : List D), watOk wat st = true → (∀ d ∈ ds, step d st = .ok (f d) st) → compLoop step wat st c ds st = .ok (ds.filterMap f) st
  | c, [], h, _ => by simp [compLoop, h]
  | c, d :: ds, h, hs => by
    rw [compLoop, h, R.grd_true, hs d (List.mem_cons_self ..), R.bind_ok, cutT_same, compLoop_pure f _ ds h fun e he => hs e (List.mem_cons_of_mem _ he), R.bind_ok]
    cases q : f d <;> simp [q]
theorem rng_ok {i : Int} (h1 : -4611686018427387904 ≤ i) (h2 : i < 4611686018427387904) : rngOk i = true := by
  unfold rngOk
  exact decide_eq_true ⟨h1, h2⟩
theorem rng_0 : rngOk 0 = true := rng_ok (by omega) (by omega)
theorem rangeL_get {lo : Int} {n i : Nat} {d : D} (h : (rangeL lo n)[i]? = some d) : i < n ∧ d = .int (lo + i) := by
  unfold rangeL at h
  rw [List.getElem?_map] at h
  cases q : (List.range n)[i]? with
  | none => rw [q] at h; cases h
  | some j =>
    rw [q] at h
    have hl := (List.getElem?_eq_some_iff.mp q)
    obtain ⟨h1, h2⟩ := hl
    simp at h1 h2
    subst h2
    exact ⟨h1, by simpa using h.symm⟩
theorem rangeL_len (lo : Int) (n : Nat) : (rangeL lo n).length = n := by simp [rangeL]
section
variable {G : Ctx} {call : Nat → List D → Store → R D}
theorem ev_con {d} {ρ : Env} {st : Store} : ev G call (.con d) ρ st = .ok d st := by rw [ev] <;> rfl
theorem ev_var {i} {ρ : Env} {st : Store} : ev G call (.var i) ρ st = R.ofO (ρ[i]?.join) st := by rw [ev] <;> rfl
theorem ev_bin {o} {a} {b} {ρ : Env} {st : Store} : ev G call (.bin o a b) ρ st = (ev G call a ρ st).bind fun x s => (ev G call b ρ s).bind fun y s => binop o x y s := by rw [ev] <;> rfl
theorem ev_neg {a} {ρ : Env} {st : Store} : ev G call (.neg a) ρ st = (ev G call a ρ st).bind fun x s => (match x with
    | .int i => .ok (.int (-i)) s
    | _ => .no) := by rw [ev] <;> rfl
theorem ev_cmp {o} {a} {b} {ρ : Env} {st : Store} : ev G call (.cmp o a b) ρ st = (ev G call a ρ st).bind fun x s => (ev G call b ρ s).bind fun y s => cmpop o x y s := by rw [ev] <;> rfl
theorem ev_chn {o} {p} {a} {b} {c} {ρ : Env} {st : Store} : ev G call (.chn o p a b c) ρ st = (ev G call a ρ st).bind fun x s => (ev G call b ρ s).bind fun y s => (cmpop o x y s).bind fun k s => (match k with
    | .bl true => (ev G call c ρ s).bind fun z s => cmpop p y z s
    | .bl false => .ok (.bl false) s
    | _ => .no) := by rw [ev] <;> rfl
theorem ev_and {a} {b} {ρ : Env} {st : Store} : ev G call (.and a b) ρ st = (ev G call a ρ st).bind fun x s => (match x with
    | .bl true => ev G call b ρ s
    | .bl false => .ok (.bl false) s
    | _ => .no) := by rw [ev] <;> rfl
theorem ev_or {a} {b} {ρ : Env} {st : Store} : ev G call (.or a b) ρ st = (ev G call a ρ st).bind fun x s => (match x with
    | .bl true => .ok (.bl true) s
    | .bl false => ev G call b ρ s
    | _ => .no) := by rw [ev] <;> rfl
theorem ev_not {a} {ρ : Env} {st : Store} : ev G call (.not a) ρ st = (ev G call a ρ st).bind fun x s => (match x with
    | .bl b => .ok (.bl (!b)) s
    | _ => .no) := by rw [ev] <;> rfl
theorem ev_ite {c} {a} {b} {ρ : Env} {st : Store} : ev G call (.ite c a b) ρ st = (evC G call c ρ st).bind fun k s => (match k with
    | true => ev G call a ρ s
    | false => ev G call b ρ s) := by rw [ev] <;> rfl
theorem ev_tup {es} {ρ : Env} {st : Store} : ev G call (.tup es) ρ st = (evs G call es ρ st).bind fun ds s => newT ds s := by rw [ev] <;> rfl
theorem ev_lst {es} {ρ : Env} {st : Store} : ev G call (.lst es) ρ st = (evs G call es ρ st).bind fun ds s => newL ds s := by rw [ev] <;> rfl
theorem ev_idx {a} {i} {ρ : Env} {st : Store} : ev G call (.idx a i) ρ st = (ev G call a ρ st).bind fun x s => (ev G call i ρ s).bind fun y s => index x y s := by rw [ev] <;> rfl
theorem ev_slc {a} {lo} {hi} {ρ : Env} {st : Store} : ev G call (.slc a lo hi) ρ st = (ev G call a ρ st).bind fun x s => (evO G call lo ρ s).bind fun l s => (evO G call hi ρ s).bind fun h s => slice x l h s := by rw [ev] <;> rfl
theorem ev_rev {a} {ρ : Env} {st : Store} : ev G call (.rev a) ρ st = (ev G call a ρ st).bind fun x s => (match x with
    | .tup ds => .ok (.tup ds.reverse) s
    | x => (match lstOf x s with
      | some ds => newL ds.reverse s
      | none => .no)) := by rw [ev] <;> rfl
theorem ev_call {f} {es} {ρ : Env} {st : Store} : ev G call (.call f es) ρ st = (evs G call es ρ st).bind fun ds s => call f ds s := by rw [ev] <;> rfl
theorem ev_bi {b} {es} {ρ : Env} {st : Store} : ev G call (.bi b es) ρ st = (evs G call es ρ st).bind fun ds s => builtin b ds s := by rw [ev] <;> rfl
theorem ev_isi {a} {ks} {ρ : Env} {st : Store} : ev G call (.isi a ks) ρ st = (ev G call a ρ st).bind fun x s => R.ofB (isAny x s ks) s := by rw [ev] <;> rfl
theorem ev_fld {a} {f} {ρ : Env} {st : Store} : ev G call (.fld a f) ρ st = (ev G call a ρ st).bind fun x s => field x f s := by rw [ev] <;> rfl
theorem ev_meth {a} {m} {es} {ρ : Env} {st : Store} : ev G call (.meth a m es) ρ st = (ev G call a ρ st).bind fun x s => (match methF G.meth m x s with
    | some f => (evs G call es ρ s).bind fun ds s => call f (x :: ds) s
    | none => .no) := by rw [ev] <;> rfl
theorem ev_prop {a} {m} {ρ : Env} {st : Store} : ev G call (.prop a m) ρ st = (ev G call a ρ st).bind fun x s => propR G call m x s := by rw [ev] <;> rfl
theorem ev_mk {c} {es} {ρ : Env} {st : Store} : ev G call (.mk c es) ρ st = (evs G call es ρ st).bind fun ds s => mkR G call c ds s := by rw [ev] <;> rfl
theorem ev_app {a} {e} {ρ : Env} {st : Store} : ev G call (.app a e) ρ st = (ev G call a ρ st).bind fun x s => R.grd (lstOf x s).isSome ((ev G call e ρ s).bind fun y s => append x y s) := by rw [ev] <;> rfl
theorem ev_lrng {i} {ρ : Env} {st : Store} : ev G call (.lrng i) ρ st = (evi G call i ρ st).bind fun w s => newL w.its s := by rw [ev] <;> rfl
theorem ev_dnew {t} {ρ : Env} {st : Store} : ev G call (.dnew t) ρ st = .ok (.ref st.length) (st ++ [.dct t []]) := by rw [ev] <;> rfl
theorem ev_dget {a} {k} {d} {ρ : Env} {st : Store} : ev G call (.dget a k d) ρ st = (ev G call a ρ st).bind fun x s => R.grd (dctOf x s).isSome ((ev G call k ρ s).bind fun y s => (ev G call d ρ s).bind fun z s => dGet2 x y z s) := by rw [ev] <;> rfl
theorem evC_val {e} {ρ : Env} {st : Store} : evC G call (.val e) ρ st = (ev G call e ρ st).bind fun d s => R.asB d s := by rw [evC] <;> rfl
theorem evC_not {c} {ρ : Env} {st : Store} : evC G call (.not c) ρ st = (evC G call c ρ st).bind fun b s => .ok (!b) s := by rw [evC] <;> rfl
theorem evC_and {a} {b} {ρ : Env} {st : Store} : evC G call (.and a b) ρ st = (evC G call a ρ st).bind fun k s => (match k with
    | true => evC G call b ρ s
    | false => .ok false s) := by rw [evC] <;> rfl
theorem evC_or {a} {b} {ρ : Env} {st : Store} : evC G call (.or a b) ρ st = (evC G call a ρ st).bind fun k s => (match k with
    | true => .ok true s
    | false => evC G call b ρ s) := by rw [evC] <;> rfl
theorem evOc_none {ρ : Env} {st : Store} : evOc G call (.none) ρ st = .ok true st := by rw [evOc] <;> rfl
theorem evOc_some {c} {ρ : Env} {st : Store} : evOc G call (.some c) ρ st = evC G call c ρ st := by rw [evOc] <;> rfl
theorem evO_none {ρ : Env} {st : Store} : evO G call (.none) ρ st = .ok none st := by rw [evO] <;> rfl
theorem evO_some {e} {ρ : Env} {st : Store} : evO G call (.some e) ρ st = (ev G call e ρ st).bind fun x s => (match x with
    | .int i => .ok (some i) s
    | _ => .no) := by rw [evO] <;> rfl
theorem evs_nil {ρ : Env} {st : Store} : evs G call (.nil) ρ st = .ok [] st := by rw [evs] <;> rfl
theorem evs_cons {e} {es} {ρ : Env} {st : Store} : evs G call (.cons e es) ρ st = (ev G call e ρ st).bind fun x s => (evs G call es ρ s).bind fun xs s => .ok (x :: xs) s := by rw [evs] <;> rfl
theorem evi_seq {e} {ρ : Env} {st : Store} : evi G call (.seq e) ρ st = (ev G call e ρ st).bind fun x s => wkSeq x s := by rw [evi] <;> rfl
theorem evi_rng1 {a} {ρ : Env} {st : Store} : evi G call (.rng1 a) ρ st = (ev G call a ρ st).bind fun x s => wkRng (.int 0) x s := by rw [evi] <;> rfl
theorem evi_rng2 {a} {b} {ρ : Env} {st : Store} : evi G call (.rng2 a b) ρ st = (ev G call a ρ st).bind fun x s => (ev G call b ρ s).bind fun y s => wkRng x y s := by rw [evi] <;> rfl
theorem evi_enum {e} {ρ : Env} {st : Store} : evi G call (.enum e) ρ st = (ev G call e ρ st).bind fun x s => wkEnum x s := by rw [evi] <;> rfl
theorem evi_rng3 {a} {b} {c} {ρ : Env} {st : Store} : evi G call (.rng3 a b c) ρ st = (ev G call a ρ st).bind fun x s => (ev G call b ρ s).bind fun y s => (ev G call c ρ s).bind fun z s => wkRng3 x y z s := by rw [evi] <;> rfl
theorem evi_zip2 {a} {b} {ρ : Env} {st : Store} : evi G call (.zip2 a b) ρ st = (ev G call a ρ st).bind fun x s => (ev G call b ρ s).bind fun y s => wkZip x y s := by rw [evi] <;> rfl
theorem evi_rrng1 {a} {ρ : Env} {st : Store} : evi G call (.rrng1 a) ρ st = (ev G call a ρ st).bind fun x s => (wkRng (.int 0) x s).bind fun w s => .ok ⟨w.its.reverse, []⟩ s := by rw [evi] <;> rfl
theorem evi_rseq {e} {ρ : Env} {st : Store} : evi G call (.rseq e) ρ st = (ev G call e ρ st).bind fun x s => wkRev x s := by rw [evi] <;> rfl
theorem ex_set {t} {e} {ρ : Env} {st : Store} : ex G call (.set t e) ρ st = (ev G call e ρ st).bind fun d s => (match T.asg t d ρ with
    | some ρ' => .ok (.nx, ρ') s
    | none => .no) := by rw [ex] <;> rfl
theorem ex_par {i} {j} {a} {b} {ρ : Env} {st : Store} : ex G call (.par i j a b) ρ st = (ev G call a ρ st).bind fun x s => (ev G call b ρ s).bind fun y s => .ok (.nx, (ρ.set i (some x)).set j (some y)) s := by rw [ex] <;> rfl
theorem ex_aug {i} {o} {e} {ρ : Env} {st : Store} : ex G call (.aug i o e) ρ st = (R.ofO (ρ[i]?.join) st).bind fun x s => (ev G call e ρ s).bind fun y s => (match x, y with
    | .int _, .int _ => (binop o x y s).bind fun d s => .ok (.nx, ρ.set i (some d)) s
    | _, _ => .no) := by rw [ex] <;> rfl
theorem ex_sti {a} {i} {e} {ρ : Env} {st : Store} : ex G call (.sti a i e) ρ st = (ev G call e ρ st).bind fun d s => (ev G call a ρ s).bind fun x s => (ev G call i ρ s).bind fun y s => (setAt x y d s).bind fun _ s => .ok (.nx, ρ) s := by rw [ex] <;> rfl
theorem ex_augi {a} {i} {o} {e} {ρ : Env} {st : Store} : ex G call (.augi a i o e) ρ st = (ev G call a ρ st).bind fun x s => (ev G call i ρ s).bind fun y s => R.grd ((lstOf x s).isSome || (dctOf x s).isSome) ((index x y s).bind fun v s => (ev G call e ρ s).bind fun z s => (match v, z with
    | .int _, .int _ => (binop o v z s).bind fun d s => (setAt x y d s).bind fun _ s => .ok (.nx, ρ) s
    | _, _ => .no)) := by rw [ex] <;> rfl
theorem ex_stf {a} {f} {e} {ρ : Env} {st : Store} : ex G call (.stf a f e) ρ st = (ev G call e ρ st).bind fun d s => (ev G call a ρ s).bind fun x s => (setField x f d s).bind fun _ s => .ok (.nx, ρ) s := by rw [ex] <;> rfl
theorem ex_augf {a} {f} {o} {e} {ρ : Env} {st : Store} : ex G call (.augf a f o e) ρ st = (ev G call a ρ st).bind fun x s0 => (field x f s0).bind fun v s => (ev G call e ρ s).bind fun z s => R.grd (clsOf x s0 == clsOf x s) (match v, z with
    | .int _, .int _ => (binop o v z s).bind fun d s => (setField x f d s).bind fun _ s => .ok (.nx, ρ) s
    | _, _ => .no) := by rw [ex] <;> rfl
theorem ex_ex {e} {ρ : Env} {st : Store} : ex G call (.ex e) ρ st = (ev G call e ρ st).bind fun _ s => .ok (.nx, ρ) s := by rw [ex] <;> rfl
theorem ex_ret {e} {ρ : Env} {st : Store} : ex G call (.ret e) ρ st = (ev G call e ρ st).bind fun d s => .ok (.ret d, ρ) s := by rw [ex] <;> rfl
theorem ex_retn {ρ : Env} {st : Store} : ex G call (.retn) ρ st = .ok (.ret .non, ρ) st := by rw [ex] <;> rfl
theorem ex_ifs {c} {a} {b} {ρ : Env} {st : Store} : ex G call (.ifs c a b) ρ st = (evC G call c ρ st).bind fun k s => (match k with
    | true => exs G call a ρ s
    | false => exs G call b ρ s) := by rw [ex] <;> rfl
theorem ex_brk {ρ : Env} {st : Store} : ex G call (.brk) ρ st = .ok (.bk, ρ) st := by rw [ex] <;> rfl
theorem ex_cont {ρ : Env} {st : Store} : ex G call (.cont) ρ st = .ok (.ct, ρ) st := by rw [ex] <;> rfl
theorem ex_pass {ρ : Env} {st : Store} : ex G call (.pass) ρ st = .ok (.nx, ρ) st := by rw [ex] <;> rfl
theorem ex_raise {ρ : Env} {st : Store} : ex G call (.raise) ρ st = .no := by rw [ex] <;> rfl
theorem exs_nil {ρ : Env} {st : Store} : exs G call .nil ρ st = .ok (.nx, ρ) st := by rw [exs]
theorem exs_nx {s : S} {ss : Ss} {ρ ρ' : Env} {st st' : Store} (h : ex G call s ρ st = .ok (.nx, ρ') st') : exs G call (.cons s ss) ρ st = exs G call ss ρ' st' := by rw [exs, h, R.bind_ok]
theorem exs_ret {s : S} {ss : Ss} {ρ ρ' : Env} {st st' : Store} {d : D} (h : ex G call s ρ st = .ok (.ret d, ρ') st') : exs G call (.cons s ss) ρ st = .ok (.ret d, ρ') st' := by rw [exs, h, R.bind_ok]
/-- behind a statement -/
def nxt (G : Ctx) (call : Nat → List D → Store → R D) (ss : Ss) (p : Fl × Env) (s : Store) : R (Fl × Env) := match p.1 with
  | .nx => exs G call ss p.2 s
  | f => .ok (f, p.2) s
theorem exs_one {s : S} {ss : Ss} {ρ : Env} {st : Store} : exs G call (.cons s ss) ρ st = (ex G call s ρ st).bind (nxt G call ss) := by rw [exs] <;> rfl
theorem nxt_nx {ss : Ss} {ρ : Env} {st : Store} : nxt G call ss (.nx, ρ) st = exs G call ss ρ st := (rfl)
theorem nxt_ret {ss : Ss} {ρ : Env} {st : Store} {d : D} : nxt G call ss (.ret d, ρ) st = .ok (.ret d, ρ) st := (rfl)
theorem nxt_ct {ss : Ss} {ρ : Env} {st : Store} : nxt G call ss (.ct, ρ) st = .ok (.ct, ρ) st := (rfl)
theorem nxt_bk {ss : Ss} {ρ : Env} {st : Store} : nxt G call ss (.bk, ρ) st = .ok (.bk, ρ) st := (rfl)
/-- behind a turn of a loop -/
def fnx (body : Env → Store → R (Fl × Env)) (t : T) (ρ₀ : Env) (st₀ : Store) (wat : List (Nat × O)) (ds : List D) (p : Fl × Env) (s : Store) : R (Fl × Env) := match p.1 with
  | .nx => forLoop body t ρ₀ st₀ wat ds (mask ρ₀ p.2) (cutE st₀ (mask ρ₀ p.2) s)
  | .ct => forLoop body t ρ₀ st₀ wat ds (mask ρ₀ p.2) (cutE st₀ (mask ρ₀ p.2) s)
  | .bk => .ok (.nx, mask ρ₀ p.2) (cutE st₀ (mask ρ₀ p.2) s)
  | .ret v => .ok (.ret v, p.2) s
section
variable {body : Env → Store → R (Fl × Env)} {t : T} {ρ₀ ρ : Env} {st₀ st : Store} {wat : List (Nat × O)} {ds : List D} {d : D}
theorem for_nil : forLoop body t ρ₀ st₀ wat [] ρ st = R.grd (watOk wat st) (.ok (.nx, ρ) st) := by rw [forLoop]
theorem for_cons : forLoop body t ρ₀ st₀ wat (d :: ds) ρ st = R.grd (watOk wat st) (match T.asg t d ρ with
    | none => .no
    | some ρ1 => (body ρ1 st).bind (fnx body t ρ₀ st₀ wat ds)) := by rw [forLoop] <;> rfl
theorem fnx_nx : fnx body t ρ₀ st₀ wat ds (.nx, ρ) st = forLoop body t ρ₀ st₀ wat ds (mask ρ₀ ρ) (cutE st₀ (mask ρ₀ ρ) st) := (rfl)
end
theorem ex_forB {t : T} {i : Iw} {b : Ss} {ρ : Env} {st : Store} : ex G call (.for_ t i b) ρ st = (evi G call i ρ st).bind fun w s => forLoop (exs G call b) t ρ s w.wat w.its ρ s := by
  rw [ex]
section
variable {test : Env → Store → R Bool} {body : Env → Store → R (Fl × Env)} {ρ₀ ρ ρ' : Env} {st₀ st s s' : Store} {n : Nat}
theorem whl_false (h : test ρ st = .ok false s) : whlLoop test body ρ₀ st₀ (n + 1) ρ st = .ok (.nx, ρ) s := by
  show (test ρ st).bind _ = _
  rw [h, R.bind_ok]
theorem whl_true (h : test ρ st = .ok true s) (h2 : body ρ s = .ok (.nx, ρ') s') : whlLoop test body ρ₀ st₀ (n + 1) ρ st = whlLoop test body ρ₀ st₀ n (mask ρ₀ ρ') (cutE st₀ (mask ρ₀ ρ') s') := by
  show (test ρ st).bind _ = _
  rw [h, R.bind_ok]
  simp only [h2, R.bind_ok]
  rfl
end
theorem ex_whlB {c : C} {b : Ss} {ρ : Env} {st : Store} : ex G call (.whl c b) ρ st = whlLoop (evC G call c) (exs G call b) ρ st WF ρ st := by
  rw [ex]
/-- one turn of a comprehension -/
def stp (G : Ctx) (call : Nat → List D → Store → R D) (t : T) (ρ : Env) (c : Oc) (e : E) (d : D) (s : Store) : R (Option D) := match T.asg t d ρ with
  | none => .no
  | some ρ1 => (evOc G call c ρ1 s).bind fun k s => (match k with
    | true => (ev G call e ρ1 s).bind fun x s => .ok (some x) s
    | false => .ok none s)
theorem ev_comp {own : List Nat} {e : E} {t : T} {i : Iw} {c : Oc} {ρ : Env} {st s : Store} {w : Wk} (h : evi G call i ρ st = .ok w s) : ev G call (.comp own e t i c) ρ st = (compLoop (stp G call t (forget ρ own) c e) w.wat s true w.its s).bind fun ds s => newL ds s := by
  rw [ev, h, R.bind_ok]; rfl
/-- a comprehension whose turns leave the store -/
theorem comp_pure {own : List Nat} {e : E} {t : T} {i : Iw} {c : Oc} {ρ : Env} {st s : Store} {w : Wk} (f : D → Option D) (h : evi G call i ρ st = .ok w s) (hw : watOk w.wat s = true) (hs : ∀ d ∈ w.its, stp G call t (forget ρ own) c e d s = .ok (f d) s) :
    ev G call (.comp own e t i c) ρ st = newL (w.its.filterMap f) s := by
  rw [ev_comp h, compLoop_pure f _ _ hw hs, R.bind_ok]
end
section
variable {st : Store}
theorem rB_bl (b : Bool) : R.asB (.bl b) st = .ok b st := (rfl)
theorem rB_int (i : Int) : R.asB (.int i) st = .ok (i != 0) st := (rfl)
theorem rB_non : R.asB .non st = .ok false st := (rfl)
theorem rB_tup (ds : List D) : R.asB (.tup ds) st = .ok (!ds.isEmpty) st := (rfl)
theorem rB_ref {l : Nat} {ds : List D} (h : lstOf (.ref l) st = some ds) : R.asB (.ref l) st = .ok (!ds.isEmpty) st := by
  unfold lstOf at h
  unfold R.asB tru
  simp only at h ⊢
  split at h
  · cases h; rename_i q; simp [q]
  · cases h; rename_i q; simp [q]
  · cases h
theorem ofO_some (d : D) : R.ofO (some d) st = .ok d st := (rfl)
theorem isTy_non (k : Ty) : isTy k .non st = some false := by cases k <;> rfl
theorem isTy_bl (k : Ty) (b : Bool) : isTy k (.bl b) st = some (match k with | .int => true | .bool => true | _ => false) := by cases k <;> rfl
theorem isTy_int (k : Ty) (b : Int) : isTy k (.int b) st = some (match k with | .int => true | _ => false) := by cases k <;> rfl
theorem isTy_str (k : Ty) (b : Str) : isTy k (.str b) st = some (match k with | .str => true | _ => false) := by cases k <;> rfl
theorem isTy_tup (k : Ty) (b : List D) : isTy k (.tup b) st = some (match k with | .tuple => true | _ => false) := by cases k <;> rfl
theorem isTy_lst {k : Ty} {l : Nat} {ds : List D} (h : lstOf (.ref l) st = some ds) : isTy k (.ref l) st = some (match k with | .list => true | _ => false) := by
  unfold lstOf at h
  unfold isTy
  simp only at h ⊢
  split at h
  · rename_i q; simp only [q] <;> (cases k <;> rfl)
  · rename_i q; simp only [q] <;> (cases k <;> rfl)
  · cases h
theorem isTy_ins {k : Ty} {l c : Nat} {fs : List (Nat × D)} (h : st[l]? = some (.ins c fs)) (hb : isBas k = false := by rfl) : isTy k (.ref l) st = some (match k with | .cls d => c == d | _ => false) := by
  unfold isTy
  simp only [h, hb, Bool.false_eq_true, if_false] <;> (cases k <;> rfl)
theorem isAny_nil (x : D) : isAny x st [] = some false := (rfl)
theorem isAny_t {x : D} {k : Ty} {ks : List Ty} (h : isTy k x st = some true) : isAny x st (k :: ks) = some true := by simp only [isAny, h]
theorem isAny_f {x : D} {k : Ty} {ks : List Ty} (h : isTy k x st = some false) : isAny x st (k :: ks) = isAny x st ks := by simp only [isAny, h]
theorem seqW_of {x : D} {ds : List D} (h : seqOf x st = some ds) : seqW x st = some ds := by
  cases x with
  | wt _ => cases h
  | _ => exact h
theorem dctOf_lst {l : Nat} {ds : List D} (h : lstOf (.ref l) st = some ds) : dctOf (.ref l) st = none := by
  unfold lstOf at h
  unfold dctOf
  simp only at h ⊢
  split at h
  · rename_i q; simp only [q]
  · rename_i q; simp only [q]
  · cases h
theorem dctOf_dct {l : Nat} {t : Bool} {kvs : List (D × D)} (h : st[l]? = some (.dct t kvs)) : dctOf (.ref l) st = some (t, kvs) := by simp only [dctOf, h]
theorem dget_dct {l : Nat} {t : Bool} {kvs : List (D × D)} {k d : D} (h : st[l]? = some (.dct t kvs)) (hk : k.keyOk t = true) : dGet2 (.ref l) k d st = .ok ((dGet kvs k).getD d) st := by
  simp only [dGet2, dctOf_dct h, hk, R.grd_true]
theorem setAt_dct {l : Nat} {t : Bool} {kvs : List (D × D)} {k d : D} (h : st[l]? = some (.dct t kvs)) (hk : k.keyOk t = true) (hz : kvs.length < 16777216) : setAt (.ref l) k d st = .ok .non (st.set l (.dct t (dPut kvs k d))) := by
  simp only [setAt, h, hk, Bool.true_and, decide_eq_true (show kvs.length < LINE from hz), R.grd_true]
theorem isIn_dct {l : Nat} {t : Bool} {kvs : List (D × D)} {k : D} (h : st[l]? = some (.dct t kvs)) (hk : k.keyOk t = true) : isIn k (.ref l) st = some (dGet kvs k).isSome := by
  simp only [isIn, dctOf_dct h, hk, if_true]
theorem index_tup {ds : List D} {i : Int} {d : D} (h : getAt ds i = some d) : index (.tup ds) (.int i) st = .ok d st := by simp only [index, dctOf, seqW, seqOf, h]
theorem index_lst {l : Nat} {ds : List D} {i : Int} {d : D} (h1 : lstOf (.ref l) st = some ds) (h : getAt ds i = some d) : index (.ref l) (.int i) st = .ok d st := by
  have : seqOf (.ref l) st = some ds := h1
  simp only [index, dctOf_lst h1, seqW_of this, h]
theorem lstOf_lst {l : Nat} {ds : List D} (h : st[l]? = some (.lst ds)) : lstOf (.ref l) st = some ds := by simp only [lstOf, h]
theorem lstOf_frz {l : Nat} {ds : List D} (h : st[l]? = some (.frz ds)) : lstOf (.ref l) st = some ds := by simp only [lstOf, h]
theorem getAt_nat {ds : List D} {i : Nat} {d : D} (h : ds[i]? = some d) : getAt ds (i : Int) = some d := by
  have hl := (List.getElem?_eq_some_iff.mp h).1
  have : ((i : Int) < (ds.length : Int)) := by omega
  simp [getAt, place, this, h]
theorem getAt_0 {d : D} {ds : List D} : getAt (d :: ds) 0 = some d := getAt_nat (i := 0) rfl
theorem getAt_1 {d e : D} {ds : List D} : getAt (d :: e :: ds) 1 = some e := getAt_nat (i := 1) rfl
theorem getAt_2 {d e f : D} {ds : List D} : getAt (d :: e :: f :: ds) 2 = some f := getAt_nat (i := 2) rfl
theorem getAt_3 {d e f g : D} {ds : List D} : getAt (d :: e :: f :: g :: ds) 3 = some g := getAt_nat (i := 3) rfl
theorem bin_int (o : BinO) (i j : Int) : binop o (.int i) (.int j) st = R.ofI (arith o i j) st := (rfl)
theorem bin_tup (a b : List D) : binop .add (.tup a) (.tup b) st = newT (a ++ b) st := (rfl)
theorem bin_tmul {a : List D} {k : Int} (h1 : -9223372036854775808 ≤ k) (h2 : k < 9223372036854775808) : binop .mul (.tup a) (.int k) st = newT (reps k.toNat a) st := by
  have h : decide (-9223372036854775808 ≤ k ∧ k < 9223372036854775808) = true := decide_eq_true ⟨h1, h2⟩
  show R.grd (decide _) _ = _
  rw [h]; rfl
theorem bin_lst {l m : Nat} {a b : List D} (h1 : st[l]? = some (.lst a)) (h2 : st[m]? = some (.lst b)) : binop .add (.ref l) (.ref m) st = newL (a ++ b) st := by simp only [binop, binR, h1, h2]
theorem cmp_lt (i j : Int) : cmpop .lt (.int i) (.int j) st = .ok (.bl (decide (i < j))) st := (rfl)
theorem cmp_le (i j : Int) : cmpop .le (.int i) (.int j) st = .ok (.bl (decide (i ≤ j))) st := (rfl)
theorem cmp_gt (i j : Int) : cmpop .gt (.int i) (.int j) st = .ok (.bl (decide (j < i))) st := (rfl)
theorem cmp_ge (i j : Int) : cmpop .ge (.int i) (.int j) st = .ok (.bl (decide (j ≤ i))) st := (rfl)
theorem cmp_eq (x y : D) : cmpop .eq x y st = R.ofB (eqD x y st) st := (rfl)
theorem cmp_ne (x y : D) : cmpop .ne x y st = R.ofB ((eqD x y st).map not) st := (rfl)
theorem cmp_is (x : D) : cmpop .is_ x .non st = .ok (.bl (decide (x = .non))) st := (rfl)
theorem cmp_isn (x : D) : cmpop .isn x .non st = .ok (.bl (!decide (x = .non))) st := (rfl)
theorem cmp_isB (a b : Bool) : cmpop .is_ (.bl a) (.bl b) st = .ok (.bl (decide (a = b))) st := (rfl)
theorem cmp_isnB (a b : Bool) : cmpop .isn (.bl a) (.bl b) st = .ok (.bl (!decide (a = b))) st := (rfl)
theorem eqD_int (i j : Int) : eqD (.int i) (.int j) st = some (decide (i = j)) := (rfl)
theorem eqD_bl (i j : Bool) : eqD (.bl i) (.bl j) st = some (decide (i = j)) := (rfl)
theorem eqD_str (i j : Str) : eqD (.str i) (.str j) st = some (decide (i = j)) := (rfl)
theorem eqD_non : eqD .non .non st = some true := (rfl)
theorem eqD_is (i : Int) (s : Str) : eqD (.int i) (.str s) st = some false := (rfl)
theorem eqD_si (i : Int) (s : Str) : eqD (.str s) (.int i) st = some false := (rfl)
theorem eqD_in (i : Int) : eqD (.int i) .non st = some false := (rfl)
theorem eqD_ni (i : Int) : eqD .non (.int i) st = some false := (rfl)
theorem eqD_sn (s : Str) : eqD (.str s) .non st = some false := (rfl)
theorem eqD_ns (s : Str) : eqD .non (.str s) st = some false := (rfl)
theorem eqD_tup (a b : List D) : eqD (.tup a) (.tup b) st = eqP (.tup a) (.tup b) st := (rfl)
theorem eqD_ref (a b : Nat) : eqD (.ref a) (.ref b) st = eqP (.ref a) (.ref b) st := (rfl)
theorem bi_len (x : D) : builtin .len [x] st = biLen x st := (rfl)
theorem bi_abs (x : D) : builtin .abs [x] st = biAbs x st := (rfl)
theorem bi_int (x : D) : builtin .int [x] st = biInt x st := (rfl)
theorem bi_mkl (x : D) : builtin .mkl [x] st = biMkl x st := (rfl)
theorem bi_mkt (x : D) : builtin .mkt [x] st = biMkt x st := (rfl)
theorem bi_sum (x : D) : builtin .sum [x] st = biSum x st := (rfl)
theorem bi_all (x : D) : builtin .all [x] st = biAll x st := (rfl)
theorem bi_any (x : D) : builtin .any [x] st = biAny x st := (rfl)
theorem bi_max (i j : Int) : builtin .max2 [.int i, .int j] st = .ok (.int (if j > i then j else i)) st := (rfl)
theorem bi_min (i j : Int) : builtin .min2 [.int i, .int j] st = .ok (.int (if j < i then j else i)) st := (rfl)
theorem biInt_int (i : Int) : biInt (.int i) st = .ok (.int i) st := (rfl)
theorem biAbs_int (i : Int) : biAbs (.int i) st = .ok (.int i.natAbs) st := by
  unfold biAbs
  simp only
  congr 2
  split <;> omega
theorem biLen_tup (ds : List D) : biLen (.tup ds) st = .ok (.int ds.length) st := (rfl)
theorem biLen_lst {l : Nat} {ds : List D} (h : lstOf (.ref l) st = some ds) : biLen (.ref l) st = .ok (.int ds.length) st := by
  have : seqOf (.ref l) st = some ds := h
  unfold biLen
  simp only [seqW_of this]
theorem asg_nm (i : Nat) (d : D) (ρ : Env) : T.asg (.nm i) d ρ = some (ρ.set i (some d)) := by simp only [T.asg]
theorem asg_tp (ts : List T) (ds : List D) (ρ : Env) : T.asg (.tp ts) (.tup ds) ρ = T.asgs ts ds ρ := by simp only [T.asg]
theorem asgs_nil (ρ : Env) : T.asgs [] [] ρ = some ρ := by simp only [T.asgs]
theorem asgs_cons (t : T) (ts : List T) (d : D) (ds : List D) (ρ : Env) : T.asgs (t :: ts) (d :: ds) ρ = (match T.asg t d ρ with
    | some ρ' => T.asgs ts ds ρ'
    | none => none) := by rw [T.asgs] <;> rfl
theorem setAt_lst {l : Nat} {ds : List D} {i : Int} {d : D} {j : Nat} (h1 : st[l]? = some (.lst ds)) (h2 : place ds.length i = some j) : setAt (.ref l) (.int i) d st = .ok .non (st.set l (.lst (ds.set j d))) := by simp only [setAt, h1, h2]
theorem app_lst {l : Nat} {ds : List D} {d : D} (h1 : st[l]? = some (.lst ds)) (h2 : ds.length < 16777216) : append (.ref l) d st = .ok .non (st.set l (.lst (ds ++ [d]))) := by
  simp only [append, h1]
  rw [decide_eq_true (show ds.length < LINE from h2)]; rfl
theorem newT_ok' {ds : List D} (h : ds.length ≤ 16777216) : newT ds st = .ok (.tup ds) st := by
  unfold newT; rw [decide_eq_true (show ds.length ≤ LINE from h)]; rfl
theorem newL_ok' {ds : List D} (h : ds.length ≤ 16777216) : newL ds st = .ok (.ref st.length) (st ++ [.lst ds]) := by
  unfold newL; rw [decide_eq_true (show ds.length ≤ LINE from h)]; rfl
theorem fin_ret (d : D) (ρ : Env) : fin (.ret d, ρ) st = .ok d st := (rfl)
theorem fin_nx (ρ : Env) : fin (.nx, ρ) st = .ok .non st := (rfl)
theorem wkRng_int {i j : Int} (h1 : rngOk i = true) (h2 : rngOk j = true) : wkRng (.int i) (.int j) st = .ok ⟨rangeL i (j - i).toNat, []⟩ st := by
  unfold wkRng; simp only [h1, h2]; rfl
theorem wkSeq_tup (ds : List D) : wkSeq (.tup ds) st = .ok ⟨ds, []⟩ st := (rfl)
theorem wkSeq_lst {l : Nat} {ds : List D} (h : st[l]? = some (.lst ds)) : wkSeq (.ref l) st = .ok ⟨ds, [(l, .lst ds)]⟩ st := by simp only [wkSeq, h]
theorem field_ins {l c f : Nat} {fs : List (Nat × D)} {d : D} (h : st[l]? = some (.ins c fs)) (h2 : getF f fs = some d) : field (.ref l) f st = .ok d st := by simp only [field, h, h2]
end
theorem ar_add (i j : Int) : arith .add i j = some (i + j) := (rfl)
theorem ar_sub (i j : Int) : arith .sub i j = some (i - j) := (rfl)
theorem ar_mod {i j : Int} (h : 0 < j) : arith .mod i j = some (i % j) := by simp only [arith, h, if_true]
theorem divOk_of {j : Int} (h : 0 < j) (h2 : j < 18446744073709551616) : divOk j = true := by
  unfold divOk
  rw [decide_eq_true h, Bool.true_and, Bool.or_eq_true]
  right
  have hn : j.natAbs < 2 ^ 64 := by omega
  have h0 : j.natAbs ≠ 0 := by omega
  have := (Nat.log2_lt h0).mpr hn
  exact decide_eq_true (by omega)
theorem ar_fdiv {i j : Int} (h : 0 < j) (h2 : j < 18446744073709551616) : arith .fdiv i j = some (i / j) := by simp only [arith, divOk_of h h2, if_true]
theorem ar_mul {i j : Int} (h : mulOk i j = true) : arith .mul i j = some (i * j) := by simp only [arith, h, if_true]
theorem mulOk_l {i j : Int} (h : -18446744073709551616 < i) (h2 : i < 18446744073709551616) : mulOk i j = true := by
  unfold mulOk
  rw [decide_eq_true (Or.inl ⟨h, h2⟩)]; rfl
theorem mulOk_r {i j : Int} (h : -18446744073709551616 < j) (h2 : j < 18446744073709551616) : mulOk i j = true := by
  unfold mulOk
  rw [decide_eq_true (Or.inr ⟨h, h2⟩)]; rfl
theorem ar_pow {i j : Int} (h : 0 ≤ j) (h2 : j ≤ 1000000) (h3 : i.natAbs < 18446744073709551616) : arith .pow i j = some (i ^ j.toNat) := by simp only [arith, h, h2, h3, and_self, if_true]
theorem ar_shr {i j : Int} (h : 0 ≤ j) : arith .shr i j = some (i / 2 ^ j.toNat) := by simp only [arith, h, if_true]
section
variable {G : Ctx} {call : Nat → List D → Store → R D}
theorem ev_lck {a e : E} {ρ : Env} {st : Store} : ev G call (.lck a e) ρ st = lckR (ev G call a ρ st) st fun s => ev G call e ρ s := by rw [ev]
theorem ev_lm {m : Lm} {a : E} {es : Es} {ρ : Env} {st : Store} : ev G call (.lm m a es) ρ st = (ev G call a ρ st).bind fun x s => R.grd (lstOf x s).isSome ((evs G call es ρ s).bind fun ds s => lmR m x ds s) := by rw [ev]
theorem evi_ditm {e : E} {ρ : Env} {st : Store} : evi G call (.ditm e) ρ st = (ev G call e ρ st).bind fun x s => wkItm x s := by rw [evi]
theorem ex_lck {a : E} {b : S} {ρ : Env} {st : Store} : ex G call (.lck a b) ρ st = lckR (ev G call a ρ st) st fun s => ex G call b ρ s := by rw [ex]
/-- the values of a last target with a star -/
def unpR (ts : List T) (r : T) (ρ : Env) (d : D) (s : Store) : R (Fl × Env) := match d with
  | .tup ds => R.grd (decide (ts.length ≤ ds.length) && decide (ds.length ≤ 1000)) (match T.asgs ts (ds.take ts.length) ρ with
    | some ρ1 => (match T.asg r (.ref s.length) ρ1 with
      | some ρ2 => .ok (.nx, ρ2) (s ++ [.lst (ds.drop ts.length)])
      | none => .no)
    | none => .no)
  | _ => .no
theorem ex_unp {ts : List T} {r : T} {e : E} {ρ : Env} {st : Store} : ex G call (.unp ts r e) ρ st = (ev G call e ρ st).bind (unpR ts r ρ) := by rw [ex]; rfl
theorem bi_mkd {x : D} {st : Store} : builtin .mkd [x] st = biMkd x st := (rfl)
theorem evi_dkey {e : E} {ρ : Env} {st : Store} : evi G call (.dkey e) ρ st = (ev G call e ρ st).bind fun x s => wkKey x s := by rw [evi]
theorem ex_sup {c g : Nat} {es : Es} {ρ : Env} {st : Store} : ex G call (.sup c g es) ρ st = (R.ofO (ρ[0]?.join) st).bind fun x s => R.grd (clsOf x s == some c) ((evs G call es ρ s).bind fun ds s => (call g (x :: ds) s).bind fun _ s => .ok (.nx, ρ) s) := by rw [ex]
end
/-- the lemmas of evaluation, in one -/
theorem EVa : type_of% (And.intro @exs_nil (And.intro @nxt_nx (And.intro @nxt_ret (And.intro @nxt_ct (And.intro @nxt_bk (And.intro @ev_con (And.intro @ev_var (And.intro @ev_bin (And.intro @ev_neg (And.intro @ev_cmp (And.intro @ev_chn (And.intro @ev_and (And.intro @ev_or (And.intro @ev_not (And.intro @ev_ite (And.intro @ev_tup (And.intro @ev_lst (And.intro @ev_idx (And.intro @ev_slc (And.intro @ev_rev (And.intro @ev_call (And.intro @ev_bi (And.intro @ev_isi (And.intro @ev_fld (And.intro @ev_meth (And.intro @ev_prop (And.intro @ev_mk (And.intro @ev_app (And.intro @ev_lrng (And.intro @ev_dnew (And.intro @ev_dget (And.intro @evC_val (And.intro @evC_not (And.intro @evC_and (And.intro @evC_or (And.intro @evOc_none (And.intro @evOc_some (And.intro @evO_none (And.intro @evO_some (And.intro @evs_nil (And.intro @evs_cons (And.intro @evi_seq (And.intro @evi_rng1 (And.intro @evi_rng2 (And.intro @evi_enum (And.intro @evi_zip2 (And.intro @evi_rrng1 (And.intro @evi_rseq (And.intro @ex_set (And.intro @ex_par (And.intro @ex_aug (And.intro @ex_sti (And.intro @ex_augi (And.intro @ex_stf (And.intro @ex_augf (And.intro @ex_ex (And.intro @ex_ret (And.intro @ex_retn (And.intro @ex_ifs (And.intro @ex_brk (And.intro @ex_cont (And.intro @ex_pass (And.intro @ex_raise (And.intro @rB_bl (And.intro @rB_int (And.intro @rB_non (And.intro @rB_tup (And.intro @rB_ref (And.intro @ofO_some (And.intro @isTy_non (And.intro @isTy_bl (And.intro @isTy_int (And.intro @isTy_str (And.intro @isTy_tup (And.intro @isAny_nil (And.intro @isAny_t (And.intro @isAny_f (And.intro @index_tup (And.intro @index_lst (And.intro @lstOf_lst (And.intro @lstOf_frz (And.intro @getAt_0 (And.intro @getAt_1 (And.intro @getAt_2 (And.intro @getAt_3 (And.intro @bin_int (And.intro @bin_tup (And.intro @bin_lst (And.intro @cmp_lt (And.intro @cmp_le (And.intro @cmp_gt (And.intro @cmp_ge (And.intro @cmp_eq (And.intro @cmp_ne (And.intro @cmp_is (And.intro @cmp_isn (And.intro @cmp_isB (And.intro @cmp_isnB (And.intro @eqD_int (And.intro @eqD_bl (And.intro @eqD_str (And.intro @eqD_non (And.intro @eqD_is (And.intro @eqD_si (And.intro @eqD_in (And.intro @eqD_ni (And.intro @eqD_sn (And.intro @eqD_ns (And.intro @eqD_tup (And.intro @eqD_ref (And.intro @bi_len (And.intro @bi_abs (And.intro @bi_int (And.intro @bi_mkl (And.intro @bi_mkt (And.intro @bi_sum (And.intro @bi_all (And.intro @bi_any (And.intro @bi_max (And.intro @bi_min (And.intro @biInt_int (And.intro @biAbs_int (And.intro @biLen_tup (And.intro @biLen_lst (And.intro @asg_nm (And.intro @asg_tp (And.intro @asgs_nil (And.intro @asgs_cons (And.intro @setAt_lst (And.intro @app_lst (And.intro @newT_ok' (And.intro @newL_ok' (And.intro @fin_ret (And.intro @fin_nx (And.intro @wkRng_int (And.intro @wkSeq_tup (And.intro @wkSeq_lst (And.intro @field_ins (And.intro @isTy_lst (And.intro @isTy_ins (And.intro @ar_add (And.intro @ar_sub (And.intro @ar_mod (And.intro @ar_fdiv (And.intro @ar_mul (And.intro @mulOk_l (And.intro @mulOk_r (And.intro @ar_pow (And.intro @ar_shr (And.intro @ev_lck (And.intro @ev_lm (And.intro @evi_ditm (And.intro @ex_lck (And.intro @ex_unp (And.intro @bi_mkd (And.intro @evi_dkey @ex_sup)))))))))))))))))))))))))))))))))))))))))))))))))))))))))))))))))))))))))))))))))))))))))))))))))))))))))))))))))))))))))))))))))))))))))))))))))))))))))))) := (And.intro @exs_nil (And.intro @nxt_nx (And.intro @nxt_ret (And.intro @nxt_ct (And.intro @nxt_bk (And.intro @ev_con (And.intro @ev_var (And.intro @ev_bin (And.intro @ev_neg (And.intro @ev_cmp (And.intro @ev_chn (And.intro @ev_and (And.intro @ev_or (And.intro @ev_not (And.intro @ev_ite (And.intro @ev_tup (And.intro @ev_lst (And.intro @ev_idx (And.intro @ev_slc (And.intro @ev_rev (And.intro @ev_call (And.intro @ev_bi (And.intro @ev_isi (And.intro @ev_fld (And.intro @ev_meth (And.intro @ev_prop (And.intro @ev_mk (And.intro @ev_app (And.intro @ev_lrng (And.intro @ev_dnew (And.intro @ev_dget (And.intro @evC_val (And.intro @evC_not (And.intro @evC_and (And.intro @evC_or (And.intro @evOc_none (And.intro @evOc_some (And.intro @evO_none (And.intro @evO_some (And.intro @evs_nil (And.intro @evs_cons (And.intro @evi_seq (And.intro @evi_rng1 (And.intro @evi_rng2 (And.intro @evi_enum (And.intro @evi_zip2 (And.intro @evi_rrng1 (And.intro @evi_rseq (And.intro @ex_set (And.intro @ex_par (And.intro @ex_aug (And.intro @ex_sti (And.intro @ex_augi (And.intro @ex_stf (And.intro @ex_augf (And.intro @ex_ex (And.intro @ex_ret (And.intro @ex_retn (And.intro @ex_ifs (And.intro @ex_brk (And.intro @ex_cont (And.intro @ex_pass (And.intro @ex_raise (And.intro @rB_bl (And.intro @rB_int (And.intro @rB_non (And.intro @rB_tup (And.intro @rB_ref (And.intro @ofO_some (And.intro @isTy_non (And.intro @isTy_bl (And.intro @isTy_int (And.intro @isTy_str (And.intro @isTy_tup (And.intro @isAny_nil (And.intro @isAny_t (And.intro @isAny_f (And.intro @index_tup (And.intro @index_lst (And.intro @lstOf_lst (And.intro @lstOf_frz (And.intro @getAt_0 (And.intro @getAt_1 (And.intro @getAt_2 (And.intro @getAt_3 (And.intro @bin_int (And.intro @bin_tup (And.intro @bin_lst (And.intro @cmp_lt (And.intro @cmp_le (And.intro @cmp_gt (And.intro @cmp_ge (And.intro @cmp_eq (And.intro @cmp_ne (And.intro @cmp_is (And.intro @cmp_isn (And.intro @cmp_isB (And.intro @cmp_isnB (And.intro @eqD_int (And.intro @eqD_bl (And.intro @eqD_str (And.intro @eqD_non (And.intro @eqD_is (And.intro @eqD_si (And.intro @eqD_in (And.intro @eqD_ni (And.intro @eqD_sn (And.intro @eqD_ns (And.intro @eqD_tup (And.intro @eqD_ref (And.intro @bi_len (And.intro @bi_abs (And.intro @bi_int (And.intro @bi_mkl (And.intro @bi_mkt (And.intro @bi_sum (And.intro @bi_all (And.intro @bi_any (And.intro @bi_max (And.intro @bi_min (And.intro @biInt_int (And.intro @biAbs_int (And.intro @biLen_tup (And.intro @biLen_lst (And.intro @asg_nm (And.intro @asg_tp (And.intro @asgs_nil (And.intro @asgs_cons (And.intro @setAt_lst (And.intro @app_lst (And.intro @newT_ok' (And.intro @newL_ok' (And.intro @fin_ret (And.intro @fin_nx (And.intro @wkRng_int (And.intro @wkSeq_tup (And.intro @wkSeq_lst (And.intro @field_ins (And.intro @isTy_lst (And.intro @isTy_ins (And.intro @ar_add (And.intro @ar_sub (And.intro @ar_mod (And.intro @ar_fdiv (And.intro @ar_mul (And.intro @mulOk_l (And.intro @mulOk_r (And.intro @ar_pow (And.intro @ar_shr (And.intro @ev_lck (And.intro @ev_lm (And.intro @evi_ditm (And.intro @ex_lck (And.intro @ex_unp (And.intro @bi_mkd (And.intro @evi_dkey @ex_sup))))))))))))))))))))))))))))))))))))))))))))))))))))))))))))))))))))))))))))))))))))))))))))))))))))))))))))))))))))))))))))))))))))))))))))))))))))))))))))
end Nz
namespace Nz
section
variable {P : Prog}
/-- checks -/
theorem is_integer_int (h0 : P.defs.lookup 0 = some ⟨1, 1, bd0⟩) (k : Nat) (i : Int) (st : Store) : run P (k + 1) 0 [.int i] st = .ok (.bl true) st := by
  rw [run_eq h0]
  simp [exs, bd0, EVa, place, List.map_cons, List.map_nil, List.cons_append, List.nil_append, Nat.reduceSub, List.replicate_succ, List.replicate_zero, List.getElem?_cons_zero, List.getElem?_cons_succ, Option.join_some, gc_id]
theorem is_in_int (h0 : P.defs.lookup 0 = some ⟨1, 1, bd0⟩) (h1 : P.defs.lookup 1 = some ⟨3, 3, bd1⟩) (k : Nat) (v lo hi : Int) (st : Store) : run P (k + 2) 1 [.int v, .int lo, .int hi] st = .ok (.bl (decide (lo ≤ v ∧ v ≤ hi))) st := by
  rw [run_eq h1]
  simp [exs, bd1, EVa, place, List.map_cons, List.map_nil, List.cons_append, List.nil_append, Nat.reduceSub, List.replicate_succ, List.replicate_zero, List.getElem?_cons_zero, List.getElem?_cons_succ, Option.join_some, is_integer_int h0]
  by_cases q : lo ≤ v <;> simp [q, gc_id, EVa, place, List.map_cons, List.map_nil, List.cons_append, List.nil_append, Nat.reduceSub, List.replicate_succ, List.replicate_zero, List.getElem?_cons_zero, List.getElem?_cons_succ, Option.join_some]
theorem is_list_tup (h2 : P.defs.lookup 2 = some ⟨3, 3, bd2⟩) (k : Nat) (ds : List D) (lo hi : Int) (st : Store) : run P (k + 1) 2 [.tup ds, .int lo, .int hi] st = .ok (.bl (decide (lo ≤ ds.length ∧ ds.length ≤ hi))) st := by
  rw [run_eq h2]
  simp [exs, bd2, EVa, place, List.map_cons, List.map_nil, List.cons_append, List.nil_append, Nat.reduceSub, List.replicate_succ, List.replicate_zero, List.getElem?_cons_zero, List.getElem?_cons_succ, Option.join_some]
  by_cases q : lo ≤ ds.length <;> simp [q, gc_id, EVa, place, List.map_cons, List.map_nil, List.cons_append, List.nil_append, Nat.reduceSub, List.replicate_succ, List.replicate_zero, List.getElem?_cons_zero, List.getElem?_cons_succ, Option.join_some]
abbrev S0 (zs : List Int) (a b c : Int) (rest : Store) : Store := .frz (zs.map .int) :: .lst [.ref 0, .int a, .int b, .int c] :: rest
theorem gcS {zs : List Int} {a b c a' b' c' : Int} {rest : Store} {d : D} (js : Store) (h : D.cl (rest.length + 2) d = true) : gc (S0 zs a b c rest) (.ok d (S0 zs a' b' c' (rest ++ js))) = .ok d (S0 zs a' b' c' rest) := by
  rw [gc_ret (by simp [pfx, O.beq_refl, O.cl, D.cls, D.cl, pfx_app]) (by simpa using h)]
  simp
theorem gcS0 {zs : List Int} {a b c a' b' c' : Int} {rest : Store} {d : D} (h : D.cl (rest.length + 2) d = true) : gc (S0 zs a b c rest) (.ok d (S0 zs a' b' c' rest)) = .ok d (S0 zs a' b' c' rest) := by simpa using gcS (zs := zs) (a := a) (b := b) (c := c) (a' := a') (b' := b') (c' := c') [] h
end
end Nz
namespace Nz
def D.it : Nat → D → Bool
  | 0, _ => false
  | n + 1, d => (match d with
    | .int _ => true
    | .tup ds => ds.all (D.it n)
    | _ => false)
def D.cv : Nat → D → PySem.PyData
  | 0, _ => .none
  | n + 1, d => (match d with
    | .int i => .int i
    | .tup ds => .tuple (ds.map (D.cv n))
    | _ => .none)
theorem it_ps {lk : Nat → Option PySem.PyData} {n : Nat} (ih : ∀ d, D.it n d = true → toP lk d = some (D.cv n d)) : ∀ ds : List D, ds.all (D.it n) = true → toPs lk ds = some (ds.map (D.cv n))
  | [], _ => by simp only [toPs, List.map_nil]
  | d :: ds, h => by
    simp only [List.all_cons, Bool.and_eq_true] at h
    simp only [toPs, ih d h.1, it_ps ih ds h.2, List.map_cons]
theorem it_toP {lk : Nat → Option PySem.PyData} : ∀ (n : Nat) (d : D), D.it n d = true → toP lk d = some (D.cv n d)
  | 0, d, h => by simp [D.it] at h
  | n + 1, d, h => by
    cases d with
    | int i => simp only [toP, D.cv]
    | tup ds =>
      simp only [D.it] at h
      simp only [toP, D.cv, it_ps (fun d => it_toP n d) ds h, Option.map_some]
    | _ => simp [D.it] at h
theorem it_lays {n : Nat} (ih : ∀ d, D.it n d = true → PySem.PyData.canLay0 (D.cv n d) = true ∧ PySem.PyData.depth (D.cv n d) ≤ n) : ∀ ds : List D, ds.all (D.it n) = true → PySem.PyData.canLayAll0 (ds.map (D.cv n)) = true ∧ PySem.PyData.depthAll (ds.map (D.cv n)) ≤ n
  | [], _ => by simp [PySem.PyData.canLayAll0, PySem.PyData.depthAll]
  | d :: ds, h => by
    simp only [List.all_cons, Bool.and_eq_true] at h
    obtain ⟨a1, a2⟩ := ih d h.1
    obtain ⟨b1, b2⟩ := it_lays ih ds h.2
    simp only [List.map_cons, PySem.PyData.canLayAll0, PySem.PyData.depthAll, a1, b1, Bool.and_self, true_and]
    omega
theorem it_lay : ∀ (n : Nat) (d : D), D.it n d = true → PySem.PyData.canLay0 (D.cv n d) = true ∧ PySem.PyData.depth (D.cv n d) ≤ n
  | 0, d, h => by simp [D.it] at h
  | n + 1, d, h => by
    cases d with
    | int i => simp [D.cv, PySem.PyData.canLay0, PySem.PyData.depth]
    | tup ds =>
      simp only [D.it] at h
      obtain ⟨a1, a2⟩ := it_lays (fun d => it_lay n d) ds h
      simp only [D.cv, PySem.PyData.canLay0, PySem.PyData.depth, a1, true_and]
      omega
    | _ => simp [D.it] at h
theorem it_eqs {n : Nat} (ih : ∀ d e, D.it n d = true → D.it n e = true → PySem.PyData.eqv (D.cv n d) (D.cv n e) = decide (d = e)) : ∀ ds es : List D, ds.all (D.it n) = true → es.all (D.it n) = true → PySem.PyData.eqvAll (ds.map (D.cv n)) (es.map (D.cv n)) = decide (ds = es)
  | [], [], _, _ => by simp [PySem.PyData.eqvAll]
  | [], e :: es, _, _ => by simp [PySem.PyData.eqvAll]
  | d :: ds, [], _, _ => by simp [PySem.PyData.eqvAll]
  | d :: ds, e :: es, h, h2 => by
    simp only [List.all_cons, Bool.and_eq_true] at h h2
    simp only [List.map_cons, PySem.PyData.eqvAll, ih d e h.1 h2.1, it_eqs ih ds es h.2 h2.2, List.cons.injEq, Bool.decide_and]
theorem it_eqv : ∀ (n : Nat) (d e : D), D.it n d = true → D.it n e = true → PySem.PyData.eqv (D.cv n d) (D.cv n e) = decide (d = e)
  | 0, d, _, h, _ => by simp [D.it] at h
  | n + 1, d, e, h, h2 => by
    cases d with
    | int i =>
      cases e with
      | int j =>
        simp only [D.cv, PySem.PyData.eqv, D.int.injEq]
        by_cases q : i = j <;> simp [q]
      | tup es => simp [D.cv, PySem.PyData.eqv]
      | _ => simp [D.it] at h2
    | tup ds =>
      cases e with
      | int j => simp [D.cv, PySem.PyData.eqv]
      | tup es =>
        simp only [D.it] at h h2
        simp only [D.cv, PySem.PyData.eqv, it_eqs (fun d e => it_eqv n d e) ds es h h2, D.tup.injEq]
      | _ => simp [D.it] at h2
    | _ => simp [D.it] at h
theorem eqP_it {st : Store} {d e : D} (h1 : D.it 30 d = true) (h2 : D.it 30 e = true) : eqP d e st = some (decide (d = e)) := by
  obtain ⟨a1, a2⟩ := it_lay 30 d h1
  obtain ⟨b1, b2⟩ := it_lay 30 e h2
  have s1 : PySem.SeqAt.shaped (D.cv 30 d) = true := by unfold PySem.SeqAt.shaped; rw [a1]; simp; omega
  have s2 : PySem.SeqAt.shaped (D.cv 30 e) = true := by unfold PySem.SeqAt.shaped; rw [b1]; simp; omega
  simp only [eqP, it_toP 30 d h1, it_toP 30 e h2, s1, s2, Bool.and_self, if_true, it_eqv 30 d e h1 h2]
theorem eqP_lst {st : Store} {l m : Nat} {ds es : List D} (g1 : lstOf (.ref l) st = some ds) (g2 : lstOf (.ref m) st = some es) (h1 : ds.all (D.it 30) = true) (h2 : es.all (D.it 30) = true) : eqP (.ref l) (.ref m) st = some (decide (ds = es)) := by
  have look : ∀ {l : Nat} {ds : List D}, lstOf (.ref l) st = some ds → ds.all (D.it 30) = true → toP (lookP st 8) (.ref l) = some (.list (ds.map (D.cv 30))) := by
    intro l ds g h
    unfold lstOf at g
    simp only at g
    simp only [toP]
    unfold lookP
    split at g
    · cases g; rename_i q; simp only [q, it_ps (fun d => it_toP 30 d) ds h, Option.map_some]
    · cases g; rename_i q; simp only [q, it_ps (fun d => it_toP 30 d) ds h, Option.map_some]
    · cases g
  obtain ⟨a1, a2⟩ := it_lays (fun d => it_lay 30 d) ds h1
  obtain ⟨b1, b2⟩ := it_lays (fun d => it_lay 30 d) es h2
  have s1 : PySem.SeqAt.shaped (.list (ds.map (D.cv 30))) = true := by unfold PySem.SeqAt.shaped; simp only [PySem.PyData.canLay0, PySem.PyData.depth, a1]; simp; omega
  have s2 : PySem.SeqAt.shaped (.list (es.map (D.cv 30))) = true := by unfold PySem.SeqAt.shaped; simp only [PySem.PyData.canLay0, PySem.PyData.depth, b1]; simp; omega
  simp only [eqP, look g1 h1, look g2 h2, s1, s2, Bool.and_self, if_true, PySem.PyData.eqv, it_eqs (fun d e => it_eqv 30 d e) ds es h1 h2]
theorem fm_none {α β : Type} (l : List α) : l.filterMap (fun _ => (none : Option β)) = [] := by
  induction l with
  | nil => rfl
  | cons a l ih => simp [ih]
end Nz
namespace Nz
/-- the same data, through lists; within n -/
def Same (st : Store) : Nat → D → D → Prop
  | 0, _, _ => False
  | n + 1, d, e => (match e with
    | .tup es => ∃ ds, d = .tup ds ∧ ds.length = es.length ∧ es.length < 1000000 ∧ ∀ (i : Nat) x y, ds[i]? = some x → es[i]? = some y → Same st n x y
    | .wt _ => False
    | .ref l => ∃ m ds es, d = .ref m ∧ lstOf (.ref m) st = some ds ∧ lstOf (.ref l) st = some es ∧ ds.length = es.length ∧ es.length < 1000000 ∧ ∀ (i : Nat) x y, ds[i]? = some x → es[i]? = some y → Same st n x y
    | e => d = e)
section
variable {P : Prog}
theorem alike_seq (k : Nat) (st : Store) (d e : D) (ds es : List D) (hd : (d = .tup ds ∧ e = .tup es) ∨ ((∃ l, d = .ref l ∧ lstOf (.ref l) st = some ds) ∧ ∃ l, e = .ref l ∧ lstOf (.ref l) st = some es))
    (hl : ds.length = es.length) (hz : es.length < 1000000) (ih : ∀ (i : Nat) x y, ds[i]? = some x → es[i]? = some y → run P k 13 [x, y] st = .ok (.bl true) st) :
    exs P.G (run P k) bd13 [some d, some e, none] st = .ok (.ret (.bl true), [some d, some e, none]) (st ++ [.lst [], .lst []]) := by
  have hz2 : (es.length : Int) < 4611686018427387904 := by omega
  have hlen : biLen e st = .ok (.int es.length) st := by
    rcases hd with ⟨rfl, rfl⟩ | ⟨⟨l, rfl, h1⟩, m, rfl, h2⟩
    · simp [EVa, place, List.map_cons, List.map_nil, List.cons_append, List.nil_append, Nat.reduceSub, List.replicate_succ, List.replicate_zero, List.getElem?_cons_zero, List.getElem?_cons_succ, Option.join_some]
    · simp [EVa, place, List.map_cons, List.map_nil, List.cons_append, List.nil_append, Nat.reduceSub, List.replicate_succ, List.replicate_zero, List.getElem?_cons_zero, List.getElem?_cons_succ, Option.join_some, h2]
  have hlen2 : biLen d st = .ok (.int es.length) st := by
    rcases hd with ⟨rfl, rfl⟩ | ⟨⟨l, rfl, h1⟩, m, rfl, h2⟩
    · simp [EVa, place, List.map_cons, List.map_nil, List.cons_append, List.nil_append, Nat.reduceSub, List.replicate_succ, List.replicate_zero, List.getElem?_cons_zero, List.getElem?_cons_succ, Option.join_some, hl]
    · simp [EVa, place, List.map_cons, List.map_nil, List.cons_append, List.nil_append, Nat.reduceSub, List.replicate_succ, List.replicate_zero, List.getElem?_cons_zero, List.getElem?_cons_succ, Option.join_some, h1, hl]
  have hix : ∀ i : Nat, i < es.length → index d (.int i) st = .ok (ds[i]?.getD .non) st ∧ index e (.int i) st = .ok (es[i]?.getD .non) st := by
    intro i hi
    have e1 : es[i]? = some es[i] := by simp [hi]
    have e2 : ds[i]? = some (ds[i]'(by omega)) := by simp [hl, hi]
    rw [e1, e2]
    rcases hd with ⟨rfl, rfl⟩ | ⟨⟨l, rfl, h1⟩, m, rfl, h2⟩
    · simp [index_tup (getAt_nat e1), index_tup (getAt_nat e2)]
    · simp [index_lst h2 (getAt_nat e1), index_lst h1 (getAt_nat e2)]
  have t1 : isAny e st [.tuple, .list] = some true := by
    rcases hd with ⟨rfl, rfl⟩ | ⟨⟨l, rfl, h1⟩, m, rfl, h2⟩
    · simp [EVa, place, List.map_cons, List.map_nil, List.cons_append, List.nil_append, Nat.reduceSub, List.replicate_succ, List.replicate_zero, List.getElem?_cons_zero, List.getElem?_cons_succ, Option.join_some]
    · simp [isAny, isTy_lst h2]
  have t2 : isAny d st [.tuple, .list] = some true := by
    rcases hd with ⟨rfl, rfl⟩ | ⟨⟨l, rfl, h1⟩, m, rfl, h2⟩
    · simp [EVa, place, List.map_cons, List.map_nil, List.cons_append, List.nil_append, Nat.reduceSub, List.replicate_succ, List.replicate_zero, List.getElem?_cons_zero, List.getElem?_cons_succ, Option.join_some]
    · simp [isAny, isTy_lst h1]
  obtain ⟨bb, t3, t4⟩ : ∃ bb, isAny e st [.list] = some bb ∧ isAny d st [.list] = some bb := by
    rcases hd with ⟨rfl, rfl⟩ | ⟨⟨l, rfl, h1⟩, m, rfl, h2⟩
    · exact ⟨false, by simp [EVa, place, List.map_cons, List.map_nil, List.cons_append, List.nil_append, Nat.reduceSub, List.replicate_succ, List.replicate_zero, List.getElem?_cons_zero, List.getElem?_cons_succ, Option.join_some], by simp [EVa, place, List.map_cons, List.map_nil, List.cons_append, List.nil_append, Nat.reduceSub, List.replicate_succ, List.replicate_zero, List.getElem?_cons_zero, List.getElem?_cons_succ, Option.join_some]⟩
    · exact ⟨true, by simp [isAny, isTy_lst h2], by simp [isAny, isTy_lst h1]⟩
  unfold bd13
  apply exs_ret
  simp only [ex_ifs, evC_val, ev_isi, ev_var, List.getElem?_cons_succ, List.getElem?_cons_zero, Option.join_some, ofO_some, R.bind_ok, t1, R.ofB_some, rB_bl]
  rw [exs_nx (ρ' := [some d, some e, none]) (st' := st) (by simp [EVa, place, List.map_cons, List.map_nil, List.cons_append, List.nil_append, Nat.reduceSub, List.replicate_succ, List.replicate_zero, List.getElem?_cons_zero, List.getElem?_cons_succ, Option.join_some, t2, t3, t4, exs_nil])]
  rw [exs_nx (ρ' := [some d, some e, none]) (st' := st) (by simp [EVa, place, List.map_cons, List.map_nil, List.cons_append, List.nil_append, Nat.reduceSub, List.replicate_succ, List.replicate_zero, List.getElem?_cons_zero, List.getElem?_cons_succ, Option.join_some, hlen, hlen2, exs_nil])]
  apply exs_ret
  have hc : ev P.G (run P k) (.comp [2] (.var 2) (.nm 2) (.rng1 (.bi .len (.cons (.var 1) .nil))) (.some (.not (.val (.call 13 (.cons (.idx (.var 0) (.var 2)) (.cons (.idx (.var 1) (.var 2)) .nil))))))) [some d, some e, none] st = newL [] st := by
    rw [comp_pure (fun _ => none) (w := ⟨rangeL 0 es.length, []⟩) (s := st) _ rfl]
    · rw [fm_none]
    · intro x hx
      obtain ⟨i, hi⟩ := List.mem_iff_getElem?.mp hx
      obtain ⟨h1, rfl⟩ := rangeL_get hi
      have e1 : es[i]? = some es[i] := by simp [h1]
      have e2 : ds[i]? = some (ds[i]'(by omega)) := by simp [hl, h1]
      have q := hix i h1
      rw [e1, e2] at q
      simp only [Option.getD_some] at q
      simp [stp, EVa, place, List.map_cons, List.map_nil, List.cons_append, List.nil_append, Nat.reduceSub, List.replicate_succ, List.replicate_zero, List.getElem?_cons_zero, List.getElem?_cons_succ, Option.join_some, forget, q, ih i _ _ e2 e1]
    · have hr : rngOk (es.length : Int) = true := rng_ok (by omega) hz2
      simp [EVa, place, List.map_cons, List.map_nil, List.cons_append, List.nil_append, Nat.reduceSub, List.replicate_succ, List.replicate_zero, List.getElem?_cons_zero, List.getElem?_cons_succ, Option.join_some, hlen, rng_0, hr]
  have hq : eqP (.ref st.length) (.ref (st.length + 1)) (st ++ [.lst [], .lst []]) = some true := by
    rw [eqP_lst (ds := []) (es := []) (by simp [lstOf]) (by simp [lstOf]) rfl rfl]
    rfl
  rw [newL_ok' (by simp)] at hc
  simp [EVa, place, List.map_cons, List.map_nil, List.cons_append, List.nil_append, Nat.reduceSub, List.replicate_succ, List.replicate_zero, List.getElem?_cons_zero, List.getElem?_cons_succ, Option.join_some, hc, hq]
theorem alike (h13 : P.defs.lookup 13 = some ⟨2, 3, bd13⟩) (n : Nat) : ∀ (st : Store) (d e : D), Same st n d e → ∀ k, run P (k + n) 13 [d, e] st = .ok (.bl true) st := by
  induction n with
  | zero => intro _ _ _ h; exact h.elim
  | succ n ih =>
    intro st d e h k
    rw [show k + (n + 1) = (k + n) + 1 by omega, run_eq h13]
    cases e with
    | non => have h : d = .non := h; subst h; simp [bd13, exs, EVa, place, List.map_cons, List.map_nil, List.cons_append, List.nil_append, Nat.reduceSub, List.replicate_succ, List.replicate_zero, List.getElem?_cons_zero, List.getElem?_cons_succ, Option.join_some, gc_id]
    | bl b => have h : d = .bl b := h; subst h; simp [bd13, exs, EVa, place, List.map_cons, List.map_nil, List.cons_append, List.nil_append, Nat.reduceSub, List.replicate_succ, List.replicate_zero, List.getElem?_cons_zero, List.getElem?_cons_succ, Option.join_some, gc_id]
    | int b => have h : d = .int b := h; subst h; simp [bd13, exs, EVa, place, List.map_cons, List.map_nil, List.cons_append, List.nil_append, Nat.reduceSub, List.replicate_succ, List.replicate_zero, List.getElem?_cons_zero, List.getElem?_cons_succ, Option.join_some, gc_id]
    | str b => have h : d = .str b := h; subst h; simp [bd13, exs, EVa, place, List.map_cons, List.map_nil, List.cons_append, List.nil_append, Nat.reduceSub, List.replicate_succ, List.replicate_zero, List.getElem?_cons_zero, List.getElem?_cons_succ, Option.join_some, gc_id]
    | wt es => exact h.elim
    | tup es =>
      obtain ⟨ds, rfl, hl, hz, hs⟩ := h
      have := alike_seq (P := P) (k + n) st _ _ ds es (.inl ⟨rfl, rfl⟩) hl hz fun i x y h1 h2 => ih st x y (hs i x y h1 h2) k
      simp only [List.length_cons, List.length_nil, List.map_cons, List.map_nil, List.cons_append, List.nil_append, Nat.reduceSub, List.replicate_succ, List.replicate_zero, Nat.reduceAdd, beq_self_eq_true, R.grd_true, this, R.bind_ok, fin_ret]
      exact gc_same _ rfl
    | ref l =>
      obtain ⟨m, ds, es, rfl, g1, g2, hl, hz, hs⟩ := h
      have := alike_seq (P := P) (k + n) st _ _ ds es (.inr ⟨⟨m, rfl, g1⟩, l, rfl, g2⟩) hl hz fun i x y h1 h2 => ih st x y (hs i x y h1 h2) k
      simp only [List.length_cons, List.length_nil, List.map_cons, List.map_nil, List.cons_append, List.nil_append, Nat.reduceSub, List.replicate_succ, List.replicate_zero, Nat.reduceAdd, beq_self_eq_true, R.grd_true, this, R.bind_ok, fin_ret]
      exact gc_same _ rfl
/-- data without places, through at most n tuples -/
def D.pl : Nat → D → Bool
  | 0, _ => false
  | n + 1, d => (match d with
    | .tup ds => decide (ds.length < 1000000) && ds.all (D.pl n)
    | .ref _ => false
    | .wt _ => false
    | _ => true)
theorem same_pl (st : Store) : ∀ (n : Nat) (d : D), D.pl n d = true → Same st n d d
  | 0, d, h => by simp [D.pl] at h
  | n + 1, d, h => by
    cases d with
    | tup ds =>
      simp only [D.pl, Bool.and_eq_true, decide_eq_true_eq] at h
      refine ⟨ds, rfl, rfl, h.1, fun i x y hx hy => ?_⟩
      rw [hx] at hy
      cases hy
      exact same_pl st n x (List.all_eq_true.mp h.2 x (List.mem_of_getElem? hx))
    | ref l => simp [D.pl] at h
    | wt l => simp [D.pl] at h
    | _ => rfl
end
end Nz
namespace Nz
/-- a sample -/
def gi (xs : List Int) (i : Int) : Int := xs.getD i.toNat 0
/-- a sum over the first numbers -/
def ps (g : Nat → Int) : Nat → Int
  | 0 => 0
  | j + 1 => ps g j + g j
/-- samples of which the first j are changed -/
def half (f : Nat → Int) (xs : List Int) (j : Nat) : List Int := (List.range xs.length).map fun p => if p < j then f p else gi xs p
section
variable {st : Store} {x : D} {ds : List D}
theorem mkt_seq (h : seqOf x st = some ds) : biMkt x st = newT ds st := by
  cases x with
  | tup es => cases h; rfl
  | ref l =>
    show (match seqOf (.ref l) st with
    | some ds => newT ds st
    | none => .no) = _
    rw [h]
  | _ => cases h
theorem wkEnum_tup : wkEnum (.tup ds) st = .ok ⟨numbered 0 ds, []⟩ st := (rfl)
theorem get_last {o : O} : (st ++ [o])[st.length]? = some o := by simp
theorem set_last {o p : O} : (st ++ [o]).set st.length p = st ++ [p] := by simp
theorem cutE_same {ρ : Env} : cutE st ρ st = st := by simp [cutE, cutT_same]
end
theorem asg_two (i j : Nat) (a b : D) (ρ : Env) : T.asg (.tp [.nm i, .nm j]) (.tup [a, b]) ρ = some ((ρ.set i (some a)).set j (some b)) := by simp only [asg_tp, asgs_cons, asg_nm, asgs_nil]
theorem rangeL_nat {n i : Nat} {d : D} (h : (rangeL 0 n)[i]? = some d) : i < n ∧ d = .int (i : Int) := by
  obtain ⟨h1, h2⟩ := rangeL_get h
  exact ⟨h1, by rw [h2]; simp⟩
section
variable {P : Prog}
/-- weights and shift of a step -/
structure StOk (s : List Int × Int) : Prop where
  n1 : 1 ≤ s.1.length
  n2 : s.1.length ≤ 2
  w : ∀ w ∈ s.1, -64 ≤ w ∧ w ≤ 64
  s0 : 0 ≤ s.2
  s1 : s.2 ≤ 8
end
end Nz
namespace Nz
structure Row where
  a : Nat
  b : Int
  c : Int
abbrev SR (zs : List Int) (r : Row) (rest : Store) : Store := S0 zs r.a r.b r.c rest
def Row.val (zs : List Int) (r : Row) (m : Int) : Int := if 0 < r.c then r.c % m else if (zs.length : Int) < r.a + 1 then ((r.b * 48271 + 11) % 2147483647) / 7 % m else zs.getD r.a 0 % m
def Row.nx (zs : List Int) (r : Row) (m : Int) : Row := if 0 < r.c then ⟨r.a, r.b, r.c / m⟩ else if (zs.length : Int) < r.a + 1 then ⟨r.a + 1, (r.b * 48271 + 11) % 2147483647, r.c⟩ else
  ⟨r.a + 1, (r.b * 48271 + zs.getD r.a 0 + 11) % 2147483647, if 1000000000000000000 ≤ zs.getD r.a 0 then zs.getD r.a 0 / m else r.c⟩
theorem Row.val_lo {zs : List Int} {r : Row} {m : Int} (h : 0 < m) : 0 ≤ r.val zs m := by
  unfold Row.val; split
  · exact Int.emod_nonneg _ (by omega)
  · split <;> exact Int.emod_nonneg _ (by omega)
theorem Row.val_hi {zs : List Int} {r : Row} {m : Int} (h : 0 < m) : r.val zs m < m := by
  unfold Row.val; split
  · exact Int.emod_lt_of_pos _ h
  · split <;> exact Int.emod_lt_of_pos _ h
section
variable {P : Prog}
theorem gcR {zs : List Int} {r r' : Row} {rest : Store} {d : D} (js : Store) (h : D.cl (rest.length + 2) d = true) : gc (SR zs r rest) (.ok d (SR zs r' (rest ++ js))) = .ok d (SR zs r' rest) := gcS js h
theorem gcR0 {zs : List Int} {r r' : Row} {rest : Store} {d : D} (h : D.cl (rest.length + 2) d = true) : gc (SR zs r rest) (.ok d (SR zs r' rest)) = .ok d (SR zs r' rest) := gcS0 h
theorem tk (h10 : P.defs.lookup 10 = some ⟨2, 4, bd10⟩) (zs : List Int) (r : Row) (rest : Store) (many : Int) (k : Nat) (hm : 0 < many) (hm2 : many < 18446744073709551616) :
    run P (k + 1) 10 [.ref 1, .int many] (SR zs r rest) = .ok (.int (r.val zs many)) (SR zs (r.nx zs many) rest) := by
  rw [run_eq h10]
  obtain ⟨a, b, c⟩ := r
  by_cases hc : 0 < c
  · simp [exs, bd10, EVa, place, List.map_cons, List.map_nil, List.cons_append, List.nil_append, Nat.reduceSub, List.replicate_succ, List.replicate_zero, List.getElem?_cons_zero, List.getElem?_cons_succ, Option.join_some, hc, hm, hm2]
    rw [gcS0 rfl]
    simp [Row.val, Row.nx, hc]
  · by_cases hl : (zs.length : Int) < (a : Int) + 1
    · simp [exs, bd10, EVa, place, List.map_cons, List.map_nil, List.cons_append, List.nil_append, Nat.reduceSub, List.replicate_succ, List.replicate_zero, List.getElem?_cons_zero, List.getElem?_cons_succ, Option.join_some, hc, hm, hm2, hl]
      rw [gcS0 rfl]
      simp [Row.val, Row.nx, hc, hl]
    · have hl2 : a < zs.length := by omega
      have h1 : zs[a]? = some zs[a] := by simp [hl2]
      have h3 : getAt (zs.map .int) (a : Int) = some (.int zs[a]) := getAt_nat (by simp [h1])
      have h4 : zs.getD a 0 = zs[a] := by rw [List.getD_eq_getElem?_getD, h1]; rfl
      by_cases hg : 1000000000000000000 ≤ zs[a]
      · simp [exs, bd10, EVa, place, List.map_cons, List.map_nil, List.cons_append, List.nil_append, Nat.reduceSub, List.replicate_succ, List.replicate_zero, List.getElem?_cons_zero, List.getElem?_cons_succ, Option.join_some, hc, hm, hm2, hl, h3, hg]
        rw [gcS0 rfl]
        simp [Row.val, Row.nx, hc, hl, h4, hg, hl2]
      · simp [exs, bd10, EVa, place, List.map_cons, List.map_nil, List.cons_append, List.nil_append, Nat.reduceSub, List.replicate_succ, List.replicate_zero, List.getElem?_cons_zero, List.getElem?_cons_succ, Option.join_some, hc, hm, hm2, hl, h3, hg]
        rw [gcS0 rfl]
        simp [Row.val, Row.nx, hc, hl, h4, hg, hl2]
/-- one of some things -/
theorem pk (h10 : P.defs.lookup 10 = some ⟨2, 4, bd10⟩) (h11 : P.defs.lookup 11 = some ⟨2, 2, bd11⟩) (zs : List Int) (r : Row) (rest : Store) (j : Nat) (ds : List D) (k : Nat) (hj : rest[j]? = some (.lst ds)) (h0 : 0 < ds.length) (hm2 : ds.length < 1073741824) (hcl : D.cls (rest.length + 2) ds = true) :
    run P (k + 2) 11 [.ref 1, .ref (j + 2)] (SR zs r rest) = .ok (ds.getD (r.val zs ds.length).toNat .non) (SR zs (r.nx zs ds.length) rest) := by
  rw [run_eq h11]
  have e := tk h10 zs r rest ds.length k (by omega) (by omega)
  have h1 := Row.val_lo (zs := zs) (r := r) (m := ds.length) (by omega)
  have h2 := Row.val_hi (zs := zs) (r := r) (m := ds.length) (by omega)
  obtain ⟨n, hn⟩ : ∃ n : Nat, r.val zs ds.length = n := ⟨(r.val zs ds.length).toNat, by omega⟩
  rw [hn] at e h2 ⊢
  have hn2 : n < ds.length := by omega
  have hg : getAt ds (n : Int) = some ds[n] := getAt_nat (by simp [hn2])
  have hd : ds.getD (n : Int).toNat .non = ds[n] := by rw [Int.toNat_natCast, List.getD_eq_getElem?_getD, List.getElem?_eq_getElem hn2]; rfl
  rw [hd]
  simp [exs, bd11, EVa, place, List.map_cons, List.map_nil, List.cons_append, List.nil_append, Nat.reduceSub, List.replicate_succ, List.replicate_zero, List.getElem?_cons_zero, List.getElem?_cons_succ, Option.join_some, hj, e, h1, h2, hg]
  have cl : ∀ (ds : List D) (d : D), D.cls (rest.length + 2) ds = true → d ∈ ds → D.cl (rest.length + 2) d = true := by
    intro ds
    induction ds with
    | nil => intro d _ h; cases h
    | cons x xs ih =>
      intro d h m
      simp only [D.cls, Bool.and_eq_true] at h
      rcases List.mem_cons.mp m with e | m
      · rw [e]; exact h.1
      · exact ih d h.2 m
  exact gcR0 (cl ds _ hcl (List.getElem_mem hn2))
theorem pk_mem {zs : List Int} {r : Row} {ds : List D} (h0 : 0 < ds.length) : ds.getD (r.val zs ds.length).toNat .non ∈ ds := by
  have h1 := Row.val_lo (zs := zs) (r := r) (m := ds.length) (by omega)
  have h2 := Row.val_hi (zs := zs) (r := r) (m := ds.length) (by omega)
  have hn : (r.val zs ds.length).toNat < ds.length := by omega
  rw [List.getD_eq_getElem?_getD, List.getElem?_eq_getElem hn]
  exact List.getElem_mem hn
/-- a comprehension whose turns draw -/
theorem comp_row {G : Ctx} {call : Nat → List D → Store → R D} {own : List Nat} {e : E} {t : T} {i : Iw} {ρ : Env} {st : Store} {zs : List Int} {rest : Store} {r : Row} {w : Wk} (W : Nat → D → Prop) (h : evi G call i ρ st = .ok w (SR zs r rest)) (hw : ∀ r, watOk w.wat (SR zs r rest) = true) (hl : w.its.length ≤ 16777216)
    (hs : ∀ (j : Nat) d, w.its[j]? = some d → ∀ r, ∃ x r' js, W j x ∧ D.cl (rest.length + 2) x = true ∧ stp G call t (forget ρ own) .none e d (SR zs r rest) = .ok (some x) (SR zs r' (rest ++ js))) :
    ∃ xs r', (∀ (j : Nat) x, xs[j]? = some x → W j x) ∧ xs.length = w.its.length ∧ D.cls (rest.length + 2) xs = true ∧ ev G call (.comp own e t i .none) ρ st = .ok (.ref (rest.length + 2)) (SR zs r' (rest ++ [.lst xs])) := by
  rw [ev_comp h]
  obtain ⟨its, wat⟩ := w
  simp only at *
  have key : ∀ (its : List D) (r r0 : Row) (V : Nat → D → Prop), (∀ (j : Nat) d, its[j]? = some d → ∀ r, ∃ x r' js, V j x ∧ D.cl (rest.length + 2) x = true ∧ stp G call t (forget ρ own) .none e d (SR zs r rest) = .ok (some x) (SR zs r' (rest ++ js))) →
      ∃ xs r', (∀ (j : Nat) x, xs[j]? = some x → V j x) ∧ xs.length = its.length ∧ D.cls (rest.length + 2) xs = true ∧ compLoop (stp G call t (forget ρ own) .none e) wat (SR zs r0 rest) true its (SR zs r rest) = .ok xs (SR zs r' rest) := by
    intro its
    induction its with
    | nil => intro r r0 V _; exact ⟨[], r, fun j x h => by simp at h, rfl, rfl, by simp [compLoop, hw r]⟩
    | cons d ds ih =>
      intro r r0 V hv
      obtain ⟨x, r1, js, hx, hc, hs⟩ := hv 0 d rfl r
      obtain ⟨xs, r2, h1, h2, h3, h4⟩ := ih r1 r0 (fun j => V (j + 1)) fun j d hd => hv (j + 1) d (by simpa using hd)
      have hb : cutB true (SR zs r0 rest) (some x) (SR zs r1 (rest ++ js)) = true := by simp [cutB, pfx, O.beq_refl, O.cl, D.cls, D.cl, pfx_app, hc]
      have hct : cutT true (SR zs r0 rest) (SR zs r1 (rest ++ js)) = SR zs r1 rest := by simp [cutT]
      refine ⟨x :: xs, r2, fun j y hy => ?_, by simp [h2], by simp [D.cls, hc, h3], ?_⟩
      · match j, hy with
        | 0, hy => cases hy; exact hx
        | j + 1, hy => exact h1 j y (by simpa using hy)
      · rw [compLoop, hw r, R.grd_true, hs, R.bind_ok, hb, hct, h4, R.bind_ok]
  obtain ⟨xs, r', h1, h2, h3, h4⟩ := key its r r W hs
  refine ⟨xs, r', h1, h2, h3, ?_⟩
  rw [h4, R.bind_ok, newL_ok' (by omega)]
  simp
end
end Nz
namespace Nz
structure Sta where
  s : Int
  u : Int
  r : Int
  f : Int
  deriving Inhabited
def Sta.d (x : Sta) : D := .tup [.int x.s, .int x.u, .int x.r, .int x.f]
abbrev tbD (ss : List Sta) : D := .tup (ss.map Sta.d)
def TbAt (st : Store) (l : Nat) (ss : List Sta) : Prop := st[l]? = some (.ins 1 [(1, tbD ss)])
/-- contexts' places, the interval -/
structure WS where
  kv : List (D × D)
  low : Int
  w : Int
  n : Nat
def plD (p : Int × Int) : D := .tup [.int p.1, .int p.2]
/-- the places have the form of places -/
def KvOk (m : Nat) (kv : List (D × D)) : Prop := ∀ c d, dGet kv (.int c) = some d → ∃ s b, d = plD (s, b) ∧ 0 ≤ s ∧ s < m ∧ (b = 0 ∨ b = 1)
theorem dGet_put {kv : List (D × D)} {k j v : D} : dGet (dPut kv k v) j = if j = k then some v else dGet kv j := by
  unfold dPut
  split
  · rename_i h
    induction kv with
    | nil => simp at h
    | cons p kv ih =>
      obtain ⟨x, y⟩ := p
      by_cases c : x = k
      · subst c
        by_cases d : j = x
        · subst d; simp [dGet]
        · have d' : ¬ x = j := fun e => d e.symm
          rw [if_neg d]
          simp only [List.map_cons, if_true]
          unfold dGet
          rw [List.find?_cons_of_neg (by simp [d']), List.find?_cons_of_neg (by simp [d'])]
          by_cases h2 : (kv.any fun p => decide (p.1 = x)) = true
          · have := ih h2
            rw [if_neg d] at this
            exact this
          · have e : kv.map (fun p => if p.1 = x then (p.1, v) else p) = kv := by
              conv => rhs; rw [← List.map_id kv]
              refine List.map_congr_left fun p hp => ?_
              have : ¬ p.1 = x := fun e => h2 (List.any_eq_true.mpr ⟨p, hp, by simp [e]⟩)
              simp [this]
            rw [e]
      · have h2 : (kv.any fun p => decide (p.1 = k)) = true := by simpa [c] using h
        have := ih h2
        simp only [List.map_cons, if_neg c]
        by_cases d : x = j
        · subst d
          rw [if_neg c]
          simp [dGet]
        · unfold dGet at this ⊢
          rw [List.find?_cons_of_neg (by simp [d]), List.find?_cons_of_neg (by simp [d])]
          exact this
  · rename_i h
    have hn : ∀ p ∈ kv, ¬ p.1 = k := fun p hp e => h (List.any_eq_true.mpr ⟨p, hp, by simp [e]⟩)
    unfold dGet
    rw [List.find?_append]
    by_cases d : j = k
    · subst d
      rw [if_pos rfl, List.find?_eq_none.mpr (by intro p hp; simpa using hn p hp)]
      simp
    · rw [if_neg d]
      have d' : ¬ k = j := fun e => d e.symm
      simp [d']
theorem KvOk.put {m : Nat} {kv : List (D × D)} (h : KvOk m kv) {c s b : Int} (h1 : 0 ≤ s) (h2 : s < m) (h3 : b = 0 ∨ b = 1) : KvOk m (dPut kv (.int c) (plD (s, b))) := by
  intro c' d hd
  rw [dGet_put] at hd
  split at hd
  · cases hd; exact ⟨s, b, rfl, h1, h2, h3⟩
  · exact h c' d hd
/-- how often a width is doubled -/
def gr : Nat → Int → Nat
  | 0, _ => 0
  | f + 1, w => if w < 32768 then gr f (2 * w) + 1 else 0
end Nz
namespace Nz
def wkO (tb pl : Nat) (x : WS) : O := .ins 2 [(3, .ref tb), (4, .ref pl), (5, .int x.low), (6, .int x.w), (7, .int (x.n : Nat))]
structure WkAt (st : Store) (l tb pl : Nat) (ss : List Sta) (x : WS) : Prop where
  w : st[l]? = some (wkO tb pl x)
  p : st[pl]? = some (.dct false x.kv)
  t : TbAt st tb ss
def wset (st : Store) (l tb pl : Nat) (x : WS) : Store := (st.set l (wkO tb pl x)).set pl (.dct false x.kv)
section
variable {st : Store} {l tb pl : Nat} {ss : List Sta} {x y : WS}
theorem WkAt.ne1 (h : WkAt st l tb pl ss x) : l ≠ pl := fun e => by
  have a := h.w; rw [e, h.p] at a; cases a
theorem WkAt.ne2 (h : WkAt st l tb pl ss x) : l ≠ tb := fun e => by
  have a := h.w; rw [e, h.t] at a; simp [wkO] at a
theorem WkAt.ne3 (h : WkAt st l tb pl ss x) : tb ≠ pl := fun e => by
  have a := h.p; rw [← e, h.t] at a; cases a
theorem WkAt.ll (h : WkAt st l tb pl ss x) : l < st.length := (List.getElem?_eq_some_iff.mp h.w).1
theorem WkAt.lp (h : WkAt st l tb pl ss x) : pl < st.length := (List.getElem?_eq_some_iff.mp h.p).1
theorem WkAt.lt (h : WkAt st l tb pl ss x) : tb < st.length := (List.getElem?_eq_some_iff.mp h.t).1
theorem WkAt.wset (h : WkAt st l tb pl ss x) : WkAt (wset st l tb pl y) l tb pl ss y := by
  have n1 := h.ne1
  have n2 := h.ne2
  have n3 := h.ne3
  refine ⟨?_, ?_, ?_⟩
  · unfold Nz.wset
    rw [List.getElem?_set_ne (Ne.symm n1), List.getElem?_set_self h.ll]
  · unfold Nz.wset
    rw [List.getElem?_set_self (by simpa using h.lp)]
  · unfold Nz.wset TbAt
    rw [List.getElem?_set_ne (Ne.symm n3), List.getElem?_set_ne n2]
    exact h.t
theorem WkAt.cls (h : WkAt st l tb pl ss x) : clsOf (.ref l) st = some 2 := by simp [clsOf, h.w, wkO]
end
/-- all pairs have the form of places -/
def KvF (kv : List (D × D)) : Prop := ∀ p ∈ kv, ∃ c s b : Int, p = (.int c, plD (s, b))
theorem KvF.put {kv : List (D × D)} (h : KvF kv) (c s b : Int) : KvF (dPut kv (.int c) (plD (s, b))) := fun p hp => by
  unfold dPut at hp
  split at hp
  · obtain ⟨q, hq, e⟩ := List.mem_map.mp hp
    split at e
    · rename_i hk
      exact ⟨c, s, b, by rw [← e, hk]⟩
    · rw [← e]; exact h q hq
  · rcases List.mem_append.mp hp with hp | hp
    · exact h p hp
    · rw [List.mem_singleton.mp hp]; exact ⟨c, s, b, rfl⟩
end Nz
namespace Nz
end Nz
namespace Nz
end Nz
namespace Nz
abbrev rt (p q : Int) : D := .tup [.int p, .int q]
section
variable {P : Prog}
structure Low (p q : Int) : Prop where
  pos : 0 < q
  cop : Int.gcd p q = 1
theorem Low.uniq {p q a b : Int} (h : Low p q) (h2 : Low a b) (e : p * b = a * q) : p = a ∧ q = b := by
  have d1 : q ∣ b := by
    have hc : Nat.Coprime q.natAbs p.natAbs := by rw [Nat.coprime_comm]; exact h.cop
    have : q.natAbs ∣ p.natAbs * b.natAbs := by rw [← Int.natAbs_mul, e, Int.natAbs_mul]; exact Nat.dvd_mul_left ..
    exact Int.natAbs_dvd_natAbs.mp (hc.dvd_of_dvd_mul_left this)
  have d2 : b ∣ q := by
    have hc : Nat.Coprime b.natAbs a.natAbs := by rw [Nat.coprime_comm]; exact h2.cop
    have : b.natAbs ∣ a.natAbs * q.natAbs := by rw [← Int.natAbs_mul, ← e, Int.natAbs_mul]; exact Nat.dvd_mul_left ..
    exact Int.natAbs_dvd_natAbs.mp (hc.dvd_of_dvd_mul_left this)
  have hq := h.pos
  have hb := h2.pos
  have e2 : q = b := Int.dvd_antisymm (by omega) (by omega) d1 d2
  subst e2
  exact ⟨Int.eq_of_mul_eq_mul_right (by omega) e, rfl⟩
end
end Nz
namespace Nz
end Nz
namespace Nz
theorem pfx_one {n : Nat} {a b : O} {js : Store} : ∀ st : Store, pfx n (st ++ [a]) (st ++ b :: js) = (O.beq a b || O.cl n b)
  | [] => by simp [pfx]
  | o :: st => by simp [pfx, O.beq_refl, pfx_one st]
theorem size_pos (n : Nat) : (0 : Int) < 65536 * 2 ^ n := by
  have : (0 : Int) < 2 ^ n := Int.pow_pos (by decide)
  omega
end Nz
namespace Nz
theorem pfxR {zs : List Int} {r0 r' : Row} {rest rest' js : Store} {n : Nat} (hn : 2 ≤ n) (h : pfx n rest rest' = true) : pfx n (SR zs r0 rest) (SR zs r' (rest' ++ js)) = true := by
  have : pfx n rest (rest' ++ js) = true := by
    clear hn
    induction rest generalizing rest' with
    | nil => simp [pfx]
    | cons o os ih =>
      cases rest' with
      | nil => simp [pfx] at h
      | cons p ps =>
        simp only [pfx, Bool.and_eq_true] at h
        simp only [List.cons_append, pfx, h.1, ih h.2, Bool.and_self]
  have h0 : decide (0 < n) = true := decide_eq_true (by omega)
  simp [pfx, O.beq_refl, O.cl, D.cls, D.cl, this]
  omega
theorem pfx_setc {n : Nat} {a b : O} (h : O.cl n b = true) : ∀ (s : Store) (i : Nat), pfx n (s.set i a) (s.set i b) = true
  | [], _ => by simp [pfx]
  | o :: s, 0 => by simp [pfx, h, pfx_self]
  | o :: s, i + 1 => by simp [pfx, O.beq_refl, pfx_setc h s i]
theorem cutR {zs : List Int} {r0 r' : Row} {rest js : Store} {i : Nat} {a0 a1 : List D} {ρ : Env} (h1 : envCl (rest.length + 2) ρ = true) (h2 : D.cls (rest.length + 2) a1 = true) :
    cutE (SR zs r0 (rest.set i (.lst a0))) ρ (SR zs r' (rest.set i (.lst a1) ++ js)) = SR zs r' (rest.set i (.lst a1)) := by
  unfold cutE
  have e : (SR zs r0 (rest.set i (.lst a0))).length = rest.length + 2 := by simp
  rw [e, pfxR (by omega) (pfx_setc (a := .lst a0) (b := .lst a1) h2 rest i), h1]
  simp [cutT, List.take_append]
theorem forLoop_accR {body : Env → Store → R (Fl × Env)} {t : T} {ρ₀ : Env} {zs : List Int} {rest : Store} {i : Nat} {wat : List (Nat × O)} {r0 : Row} {a0 : List D} (hc : envCl (rest.length + 2) ρ₀ = true) (hw : ∀ r a, watOk wat (SR zs r (rest.set i (.lst a))) = true) :
    ∀ (its : List D) (W : Nat → D → Prop) (r : Row) (acc : List D), D.cls (rest.length + 2) acc = true → acc.length + its.length < 1000000 →
    (∀ (j : Nat) d, its[j]? = some d → ∀ r acc, acc.length < 1000000 → ∃ ρ1 ρ2 y r' js, T.asg t d ρ₀ = some ρ1 ∧ body ρ1 (SR zs r (rest.set i (.lst acc))) = .ok (.nx, ρ2) (SR zs r' (rest.set i (.lst (acc ++ [y])) ++ js)) ∧ mask ρ₀ ρ2 = ρ₀ ∧ D.cl (rest.length + 2) y = true ∧ W j y) →
    ∃ ys r', forLoop body t ρ₀ (SR zs r0 (rest.set i (.lst a0))) wat its ρ₀ (SR zs r (rest.set i (.lst acc))) = .ok (.nx, ρ₀) (SR zs r' (rest.set i (.lst (acc ++ ys)))) ∧ ys.length = its.length ∧ D.cls (rest.length + 2) ys = true ∧ ∀ (j : Nat) y, ys[j]? = some y → W j y := by
  intro its
  induction its with
  | nil => intro W r acc _ _ _; exact ⟨[], r, by rw [for_nil, hw, R.grd_true, List.append_nil], rfl, rfl, fun j y h => by simp at h⟩
  | cons d ds ih =>
    intro W r acc ha hb hs
    obtain ⟨ρ1, ρ2, y, r1, js, e1, e2, e3, e4, e5⟩ := hs 0 d rfl r acc (by omega)
    have ha2 : D.cls (rest.length + 2) (acc ++ [y]) = true := by
      have key : ∀ (l : List D), D.cls (rest.length + 2) l = true → D.cls (rest.length + 2) (l ++ [y]) = true := by
        intro l
        induction l with
        | nil => intro _; simp [e4]
        | cons a l il => intro h; simp only [List.cons_append, cls_cons, Bool.and_eq_true] at h ⊢; exact ⟨h.1, il h.2⟩
      exact key acc ha
    obtain ⟨ys, r2, f1, f2, f3, f4⟩ := ih (fun j => W (j + 1)) r1 (acc ++ [y]) ha2 (by simp at hb ⊢; omega) fun j d hd => hs (j + 1) d (by simpa using hd)
    refine ⟨y :: ys, r2, ?_, by simp [f2], by simp [e4, f3], fun j z hz => ?_⟩
    · rw [for_cons, hw, R.grd_true, e1]
      simp only [e2, R.bind_ok, fnx_nx, e3]
      rw [cutR hc ha2, f1, List.append_assoc]
      rfl
    · match j, hz with
      | 0, hz => cases hz; exact e5
      | j + 1, hz => exact f4 j z (by simpa using hz)
theorem int_list {n : Nat} : ∀ {xs : List D} {W : Nat → D → Prop} {lo hi : Int}, (∀ (j : Nat) x, xs[j]? = some x → ∃ i, x = .int i ∧ lo ≤ i ∧ i ≤ hi) → ∃ is : List Int, xs = is.map .int ∧ ∀ i ∈ is, lo ≤ i ∧ i ≤ hi
  | [], _, _, _, _ => ⟨[], rfl, fun _ h => by simp at h⟩
  | x :: xs, W, lo, hi, h => by
    obtain ⟨is, rfl, h2⟩ := int_list (n := n) (W := W) (xs := xs) fun j x hx => h (j + 1) x (by simpa using hx)
    obtain ⟨i, rfl, h3⟩ := h 0 x rfl
    exact ⟨i :: is, rfl, fun k hk => by rcases List.mem_cons.mp hk with rfl | hk; exact h3; exact h2 k hk⟩
structure DrwP (P : Prog) : Prop where
  h10 : P.defs.lookup 10 = some ⟨2, 4, bd10⟩
  h11 : P.defs.lookup 11 = some ⟨2, 2, bd11⟩
end Nz
namespace Nz
end Nz
namespace Nz
end Nz
namespace Nz
section
variable {P : Prog} (Q : DrwP P) (h251 : P.defs.lookup 251 = some ⟨2, 4, bd251⟩) (h252 : P.defs.lookup 252 = some ⟨2, 5, bd252⟩) (h253 : P.defs.lookup 253 = some ⟨2, 5, bd253⟩)
include Q
theorem pkN (k : Nat) (zs : List Int) (r : Row) (rest : Store) (L : List Nat) (h0 : L ≠ []) (hl : L.length ≤ 100000) : ∃ (n : Nat) (r' : Row), n ∈ L ∧ run P (k + 2) 11 [.ref 1, .ref (rest.length + 2)] (SR zs r (rest ++ [.lst (L.map fun n => .int (n : Nat))])) = .ok (.int (n : Nat)) (SR zs r' (rest ++ [.lst (L.map fun n => .int (n : Nat))])) := by
  have hp : 0 < L.length := List.length_pos_iff.mpr h0
  have cl : ∀ (m : Nat) (L : List Nat), D.cls m (L.map fun n => D.int (n : Nat)) = true := by
    intro m L
    induction L with
    | nil => rfl
    | cons a l ih => simp [ih]
  have e := pk Q.h10 Q.h11 zs r (rest ++ [.lst (L.map fun n => .int (n : Nat))]) rest.length (L.map fun n => .int (n : Nat)) k (by simp) (by simpa using hp) (by simp; omega) (cl _ _)
  have m := pk_mem (zs := zs) (r := r) (ds := L.map fun n => D.int (n : Nat)) (by simpa using hp)
  obtain ⟨n, hn, he⟩ := List.mem_map.mp m
  rw [← he] at e
  exact ⟨n, _, hn, e⟩
include h251 h252 h253
end
/-- data as they are made again by the law -/
theorem pl_bs (n : Nat) (ds : List Int) (h : ds.length < 1000000) : D.pl (n + 2) (.tup (ds.map .int)) = true := by
  simp only [D.pl, Bool.and_eq_true, decide_eq_true_eq, List.length_map]
  refine ⟨h, List.all_eq_true.mpr fun d hd => ?_⟩
  obtain ⟨i, _, rfl⟩ := List.mem_map.mp hd
  rfl
end Nz
namespace Nz
def fnd (p : Nat → Bool) : Nat → Nat → Nat
  | 0, k => k
  | f + 1, k => if p k then k else fnd p f (k + 1)
/-- the bytes of a number, the greatest first -/
def wrt : Nat → Int → List Int
  | 0, _ => []
  | k + 1, n => wrt k (n / 256) ++ [n % 256]
def WS.size (x : WS) : Int := 65536 * 2 ^ x.n
structure WS.In (x : WS) : Prop where
  lo : 0 ≤ x.low
  hi : x.low + x.w ≤ x.size
theorem WS.size_pos (x : WS) : 0 < x.size := Nz.size_pos x.n
/-- a number over a power of 256 lies in the interval -/
def WS.has (x : WS) (num pw : Int) : Prop := x.low * pw ≤ num * x.size ∧ num * x.size < (x.low + x.w) * pw
end Nz
namespace Nz
def WS.ce (x : WS) (k : Nat) : Int := -((-x.low * 256 ^ k) / x.size)
def WS.le (x : WS) (k : Nat) : Int := if k = 0 then 0 else x.ce k
theorem p256 (k : Nat) : (0 : Int) < 256 ^ k := Int.pow_pos (by decide)
end Nz
namespace Nz
end Nz
namespace Nz
end Nz
namespace Nz
def WS.fi (x : WS) (k : Nat) : Int := x.low * 256 ^ k / x.size
def WS.la (x : WS) (k : Nat) : Int := -((-(x.low + x.w) * 256 ^ k) / x.size) - 1
def WS.op (x : WS) (k : Nat) : Bool := decide (x.fi k ≠ x.la k)
def WS.seK (x : WS) : Nat := fnd x.op (x.n + 18) 0
def WS.set (x : WS) : List Int := wrt (x.seK - 1) (if x.seK = 0 then 0 else x.fi (x.seK - 1))
end Nz
namespace Nz
theorem reps_one (n : Nat) (i : Int) : reps n [D.int i] = (List.replicate n i).map .int := by
  unfold reps
  induction n with
  | zero => rfl
  | succ n ih => rw [List.replicate_succ, List.flatten_cons, ih, List.replicate_succ, List.map_cons]; rfl
end Nz
namespace Nz
def Stl (x : WS) (m : Nat) (f : Int) : Prop := f * x.size ≤ x.low * 256 ^ m ∧ (x.low + x.w) * 256 ^ m ≤ (f + 1) * x.size
theorem fdiv_eq {a b f : Int} (hb : 0 < b) (h1 : f * b ≤ a) (h2 : a < (f + 1) * b) : a / b = f := by
  have e1 := Int.ediv_mul_le a (show b ≠ 0 by omega)
  have e2 := Int.lt_ediv_add_one_mul_self a hb
  have h3 : f * b < (a / b + 1) * b := by omega
  have h4 : a / b * b < (f + 1) * b := by omega
  have := Int.lt_of_mul_lt_mul_right h3 (Int.le_of_lt hb)
  have := Int.lt_of_mul_lt_mul_right h4 (Int.le_of_lt hb)
  omega
theorem Stl.fi {x : WS} {m : Nat} {f : Int} (hw : 0 < x.w) (h : Stl x m f) : x.fi m = f := by
  have hs := x.size_pos
  have hww : 0 < x.w * 256 ^ m := Int.mul_pos hw (p256 m)
  obtain ⟨a, b⟩ := h
  rw [Int.add_mul x.low] at b
  exact fdiv_eq hs a (by omega)
/-- an interval within another -/
def Nest (x y : WS) : Prop := x.low * y.size ≤ y.low * x.size ∧ (y.low + y.w) * x.size ≤ (x.low + x.w) * y.size
theorem Nest.refl (x : WS) : Nest x x := ⟨Int.le_refl _, Int.le_refl _⟩
theorem Nest.trans {x y z : WS} (h : Nest x y) (g : Nest y z) : Nest x z := by
  have hy := y.size_pos
  have hx := x.size_pos
  have hz := z.size_pos
  obtain ⟨a, b⟩ := h
  obtain ⟨c, d⟩ := g
  constructor
  · have h1 := Int.mul_le_mul_of_nonneg_right a (Int.le_of_lt hz)
    have h2 := Int.mul_le_mul_of_nonneg_right c (Int.le_of_lt hx)
    have h3 : x.low * z.size * y.size ≤ z.low * x.size * y.size := by
      rw [Int.mul_right_comm x.low, Int.mul_right_comm z.low]
      rw [Int.mul_right_comm y.low] at h2
      rw [Int.mul_right_comm y.low] at h1
      rw [Int.mul_right_comm y.low] at h1
      omega
    exact Int.le_of_mul_le_mul_right h3 hy
  · have h1 := Int.mul_le_mul_of_nonneg_right b (Int.le_of_lt hz)
    have h2 := Int.mul_le_mul_of_nonneg_right d (Int.le_of_lt hx)
    have h3 : (z.low + z.w) * x.size * y.size ≤ (x.low + x.w) * z.size * y.size := by
      rw [Int.mul_right_comm (z.low + z.w), Int.mul_right_comm (x.low + x.w)]
      rw [Int.mul_right_comm (y.low + y.w)] at h1
      omega
    exact Int.le_of_mul_le_mul_right h3 hy
/-- fewer bytes are settled too -/
theorem Stl.pre {x : WS} {m j : Nat} {f : Int} (h : Stl x (m + j) f) : Stl x m (f / 256 ^ j) := by
  have hp := p256 j
  have hs := x.size_pos
  obtain ⟨a, b⟩ := h
  rw [Int.pow_add, ← Int.mul_assoc] at a b
  have e1 := Int.ediv_mul_le f (show (256 : Int) ^ j ≠ 0 by omega)
  have e2 := Int.lt_ediv_add_one_mul_self f hp
  generalize f / 256 ^ j = g at *
  constructor
  · have h1 := Int.mul_le_mul_of_nonneg_right e1 (Int.le_of_lt hs)
    rw [Int.mul_right_comm g] at h1
    exact Int.le_of_mul_le_mul_right (by omega) hp
  · have h1 : (f + 1) * x.size ≤ (g + 1) * 256 ^ j * x.size := Int.mul_le_mul_of_nonneg_right (by omega) (Int.le_of_lt hs)
    rw [Int.mul_right_comm (g + 1)] at h1
    exact Int.le_of_mul_le_mul_right (by omega) hp
end Nz
namespace Nz
end Nz
namespace Nz
theorem slice_tup (ds : List D) (lo hi : Option Int) (st : Store) : slice (.tup ds) lo hi st = .ok (.tup (cut ds lo hi)) st := (rfl)
theorem it_intsT (xs : List Int) : D.it 30 (.tup (xs.map .int)) = true := by
  simp only [D.it]
  refine List.all_eq_true.mpr fun d hd => ?_
  obtain ⟨i, _, rfl⟩ := List.mem_map.mp hd
  rfl
theorem ints_inj {xs ys : List Int} : xs.map D.int = ys.map D.int ↔ xs = ys := by
  constructor
  · intro h
    refine (List.map_inj_right fun a b => ?_).1 h
    intro h; cases h; rfl
  · intro h; rw [h]
theorem eqP_ints (xs ys : List Int) (st : Store) : eqP (.tup (xs.map .int)) (.tup (ys.map .int)) st = some (decide (xs = ys)) := by
  rw [eqP_it (it_intsT _) (it_intsT _)]
  congr 1
  by_cases h : xs = ys
  · rw [h]; simp
  · rw [decide_eq_false h, decide_eq_false]
    intro g; injection g with g; exact h (ints_inj.1 g)
end Nz
namespace Nz
namespace Tl
section
variable {G : Ctx} {call : Nat → List D → Store → R D}
theorem bools_rep : ∀ n : Nat, boolsOf (List.replicate n (.bl true)) = some (List.replicate n true)
  | 0 => rfl
  | n + 1 => by simp only [List.replicate_succ, boolsOf, bools_rep n]
theorem all_comp {own : List Nat} {e : E} {t : T} {i : Iw} {c : Oc} {ρ : Env} {st s : Store} {w : Wk} (h : evi G call i ρ st = .ok w s) (hw : watOk w.wat s = true) (hs : ∀ d ∈ w.its, stp G call t (forget ρ own) c e d s = .ok (some (.bl true)) s) (hl : w.its.length ≤ 16777216) :
    ev G call (.bi .all (.cons (.comp own e t i c) .nil)) ρ st = .ok (.bl true) (s ++ [.lst (List.replicate w.its.length (.bl true))]) := by
  have e1 : w.its.filterMap (fun _ => some (D.bl true)) = List.replicate w.its.length (.bl true) := by
    generalize w.its = l
    induction l with
    | nil => rfl
    | cons a l ih => simp [List.replicate_succ, ih]
  rw [ev_bi, evs_cons, comp_pure (fun _ => some (.bl true)) h hw hs, e1, newL_ok' (by simpa using hl)]
  simp [evs_nil, bi_all, biAll, lstOf, bools_rep]
end
abbrev rowD (r : List Int) : D := .tup (r.map .int)
abbrev rowsD (rs : List (List Int)) : List D := rs.map rowD
theorem cls_rows {n : Nat} : ∀ rs : List (List Int), D.cls n (rowsD rs) = true
  | [] => rfl
  | r :: rs => by simp [cls_int, cls_rows rs]
/-- all rows of one width -/
def Rect (rs : List (List Int)) (w : Nat) : Prop := ∀ r ∈ rs, r.length = w
/-- the width that is seen -/
def wid (rs : List (List Int)) (w : Nat) : Nat := if rs = [] then 0 else w
theorem it_rows : ∀ rs : List (List Int), D.it 30 (.tup (rowsD rs)) = true := fun rs => by
  simp only [D.it, rowsD, List.all_map]
  refine List.all_eq_true.mpr fun r _ => ?_
  simp [D.it]
theorem ne_empty (rs : List (List Int)) (st : Store) : eqP (.tup (rowsD rs)) (.tup []) st = some (decide (rs = [])) := by
  rw [eqP_it (it_rows rs) rfl]
  cases rs <;> simp
section
variable {P : Prog}
theorem fst_row {rs : List (List Int)} {w : Nat} (h : Rect rs w) (hne : rs ≠ []) : ∃ r, getAt (rowsD rs) 0 = some (rowD r) ∧ r.length = w := by
  cases rs with
  | nil => exact absurd rfl hne
  | cons r rs => exact ⟨r, getAt_0, h r (List.mem_cons_self ..)⟩
theorem shape68 (h68 : P.defs.lookup 68 = some ⟨1, 1, bd68⟩) (k : Nat) (rs : List (List Int)) (w : Nat) (st : Store) (h : Rect rs w) : run P (k + 1) 68 [.tup (rowsD rs)] st = .ok (.tup [.int (rs.length : Nat), .int (wid rs w : Nat)]) st := by
  rw [run_eq h68]
  by_cases c : rs = []
  · subst c
    have := ne_empty [] st
    simp only [List.map_nil] at this
    simp [exs, bd68, EVa, place, List.map_cons, List.map_nil, List.cons_append, List.nil_append, Nat.reduceSub, List.replicate_succ, List.replicate_zero, List.getElem?_cons_zero, List.getElem?_cons_succ, Option.join_some, this, wid, gc_id]
  · obtain ⟨r, g, hr⟩ := fst_row h c
    have e := ne_empty rs st
    rw [decide_eq_false c] at e
    obtain ⟨X, hX⟩ : ∃ X : List D, X = rowsD rs := ⟨_, rfl⟩
    have hXl : X.length = rs.length := by rw [hX, List.length_map]
    rw [← hX] at g e ⊢
    simp [exs, bd68, EVa, place, List.map_cons, List.map_nil, List.cons_append, List.nil_append, Nat.reduceSub, List.replicate_succ, List.replicate_zero, List.getElem?_cons_zero, List.getElem?_cons_succ, Option.join_some, e, g, wid, c, hr, hXl, gc_id]
theorem are_rows67 (h2 : P.defs.lookup 2 = some ⟨3, 3, bd2⟩) (h67 : P.defs.lookup 67 = some ⟨2, 3, bd67⟩) (k : Nat) (rs : List (List Int)) (w : Nat) (st : Store) (h : Rect rs w) (hl : rs.length ≤ 8) (hw : w ≤ 8) : run P (k + 2) 67 [.tup (rowsD rs), .int 8] st = .ok (.bl true) st := by
  rw [run_eq h67]
  simp only [List.length_cons, List.length_nil, List.map_cons, List.map_nil, List.cons_append, List.nil_append, Nat.reduceSub, List.replicate_succ, List.replicate_zero, Nat.reduceAdd, beq_self_eq_true, R.grd_true]
  have a1 := is_list_tup h2 k (rowsD rs) 0 8 st
  rw [decide_eq_true (by rw [List.length_map]; omega)] at a1
  obtain ⟨X, hX⟩ : ∃ X : List D, X = rowsD rs := ⟨_, rfl⟩
  have c1 : ∀ (ρ : Env) (st : Store), ρ[0]? = some (some (.tup X)) → ρ[1]? = some (some (.int 8)) → 2 < ρ.length → ev P.G (run P (k + 1)) (.bi .all (.cons (.comp [2] (.call 2 (.cons (.var 2) (.cons (.con (.int (0))) (.cons (.var 1) .nil)))) (.nm 2) (.seq (.var 0)) .none) .nil)) ρ st = .ok (.bl true) (st ++ [.lst (List.replicate X.length (.bl true))]) := by
    intro ρ st r0 r1 r2
    refine all_comp (w := ⟨X, []⟩) (by simp [evi_seq, ev_var, r0, ofO_some, wkSeq_tup]) rfl (fun d hd => ?_) (by rw [hX, List.length_map]; omega)
    rw [hX] at hd
    obtain ⟨r, hr, rfl⟩ := List.mem_map.mp hd
    have a := is_list_tup h2 k (r.map .int) 0 8 st
    rw [decide_eq_true (by rw [List.length_map, h r hr]; omega)] at a
    simp [stp, forget, EVa, place, List.map_cons, List.map_nil, List.cons_append, List.nil_append, Nat.reduceSub, List.replicate_succ, List.replicate_zero, List.getElem?_cons_zero, List.getElem?_cons_succ, Option.join_some, r1, r2, a]
  have c2 : ∀ (ρ : Env) (st : Store), ρ[0]? = some (some (.tup X)) → 2 < ρ.length → ev P.G (run P (k + 1)) (.bi .all (.cons (.comp [2] (.cmp .eq (.bi .len (.cons (.var 2) .nil)) (.bi .len (.cons (.idx (.var 0) (.con (.int (0)))) .nil))) (.nm 2) (.seq (.var 0)) .none) .nil)) ρ st = .ok (.bl true) (st ++ [.lst (List.replicate X.length (.bl true))]) := by
    intro ρ st r0 r2
    refine all_comp (w := ⟨X, []⟩) (by simp [evi_seq, ev_var, r0, ofO_some, wkSeq_tup]) rfl (fun d hd => ?_) (by rw [hX, List.length_map]; omega)
    rw [hX] at hd
    obtain ⟨r, hr, rfl⟩ := List.mem_map.mp hd
    obtain ⟨q, g, hq⟩ := fst_row h (by rintro rfl; cases hr)
    rw [← hX] at g
    simp [stp, forget, EVa, place, List.map_cons, List.map_nil, List.cons_append, List.nil_append, Nat.reduceSub, List.replicate_succ, List.replicate_zero, List.getElem?_cons_zero, List.getElem?_cons_succ, Option.join_some, r0, r2, g, hq, h r hr]
  rw [← hX] at a1 ⊢
  unfold bd67
  rw [exs_one]
  simp only [ex_ifs, evC_or, evC_not, evC_val, ev_call, evs_cons, evs_nil, ev_var, ev_con, ofO_some, R.bind_ok, List.getElem?_cons_zero, List.getElem?_cons_succ, Option.join_some, a1, rB_bl, Bool.not_true, c1 [some (.tup X), some (.int 8), none] st rfl rfl (by simp), exs_nil, nxt_nx]
  rw [exs_one, ex_ret, c2 _ _ rfl (by simp)]
  simp only [R.bind_ok, nxt_ret, fin_ret, List.append_assoc]
  exact gc_same _ rfl
theorem lp_rep {F2 : D → Store → R D} {st : Store} {b : D} : ∀ (ds : List D) (m : Nat), (∀ d ∈ ds, ∀ m, m < 16777216 → F2 d (st ++ [.lst (List.replicate m b)]) = .ok .non (st ++ [.lst (List.replicate (m + 1) b)])) → m + ds.length < 16777216 → lpU F2 [] ds (st ++ [.lst (List.replicate m b)]) = .ok .non (st ++ [.lst (List.replicate (m + ds.length) b)])
  | [], m, _, _ => by simp [lpU, watOk]
  | d :: ds, m, h, hl => by
    simp only [List.length_cons] at hl
    rw [lpU, show watOk [] (st ++ [O.lst (List.replicate m b)]) = true from rfl, R.grd_true, h d (List.mem_cons_self ..) m (by omega), R.bind_ok, lp_rep ds (m + 1) (fun e he => h e (List.mem_cons_of_mem _ he)) (by omega), List.length_cons]
    congr 5
    omega
theorem lp_reps {F1 : D → Store → R D} {st : Store} {b : D} : ∀ (ds : List D) (m : Nat), (∀ d ∈ ds, ∀ m, m + 1000 < 16777216 → ∃ n, n ≤ m + 1000 ∧ F1 d (st ++ [.lst (List.replicate m b)]) = .ok .non (st ++ [.lst (List.replicate n b)])) → m + ds.length * 1000 < 16777216 → ∃ n, lpU F1 [] ds (st ++ [.lst (List.replicate m b)]) = .ok .non (st ++ [.lst (List.replicate n b)])
  | [], m, _, _ => ⟨m, by simp [lpU, watOk]⟩
  | d :: ds, m, h, hl => by
    simp only [List.length_cons] at hl
    obtain ⟨n, h1, h2⟩ := h d (List.mem_cons_self ..) m (by omega)
    obtain ⟨n2, h3⟩ := lp_reps ds n (fun e he => h e (List.mem_cons_of_mem _ he)) (by omega)
    exact ⟨n2, by rw [lpU, show watOk [] (st ++ [O.lst (List.replicate m b)]) = true from rfl, R.grd_true, h2, R.bind_ok, h3]⟩
theorem comp2_all {G : Ctx} {call : Nat → List D → Store → R D} (rs : List (List Int)) (e : E) (i1 : Iw) (ρ : Env) (st : Store) (hi : evi G call i1 ρ st = .ok ⟨rowsD rs, []⟩ st) (hl : 2 < ρ.length) (hr : ∀ r ∈ rs, r.length ≤ 1000) (hn : rs.length ≤ 1000)
    (he : ∀ (ρ : Env) (v : Int) (st : Store), (∃ r ∈ rs, v ∈ r) → ρ[2]? = some (some (.int v)) → ev G call e ρ st = .ok (.bl true) st) :
    ∃ n, ev G call (.comp2 [1, 2] [2] e (.nm 1) i1 (.nm 2) (.seq (.var 1)) .none) ρ st = .ok (.ref st.length) (st ++ [.lst (List.replicate n (.bl true))]) := by
  have key : ∀ F1 : D → Store → R D, (∀ r ∈ rs, ∀ m, m + 1000 < 16777216 → F1 (rowD r) (st ++ [.lst (List.replicate m (.bl true))]) = .ok .non (st ++ [.lst (List.replicate (m + r.length) (.bl true))])) → ∃ n, (lpU F1 [] (rowsD rs) (st ++ [.lst []])).bind (fun _ s' => R.ok (D.ref st.length) s') = R.ok (D.ref st.length) (st ++ [O.lst (List.replicate n (D.bl true))]) := fun F1 h => by
    obtain ⟨n, hn⟩ := lp_reps (F1 := F1) (st := st) (b := .bl true) (rowsD rs) 0 (fun d hd m hm => by
      obtain ⟨r, hr2, rfl⟩ := List.mem_map.mp hd
      exact ⟨m + r.length, by have := hr r hr2; omega, h r hr2 m hm⟩) (by rw [List.length_map]; omega)
    simp only [List.replicate_zero] at hn
    exact ⟨n, by rw [hn, R.bind_ok]⟩
  refine (key (outB (.nm 1) (.nm 2) [2] st.length (evi G call (.seq (.var 1))) (evOc G call .none) (ev G call e) (forget ρ [1, 2])) ?h).imp fun n h => ?g
  case g =>
    rw [ev, hi, R.bind_ok]
    exact h
  case h =>
    intro r hr1 m hm
    have h1 : 1 < ρ.length := by omega
    have hi1 : evi G call (.seq (.var 1)) ((forget ρ [1, 2]).set 1 (some (rowD r))) (st ++ [O.lst (List.replicate m (D.bl true))]) = .ok ⟨r.map .int, []⟩ (st ++ [O.lst (List.replicate m (D.bl true))]) := by
      simp [evi_seq, ev_var, forget, h1, ofO_some, wkSeq_tup]
    have hr2 := hr r hr1
    have lr := fun F2 h => lp_rep (F2 := F2) (st := st) (b := .bl true) (r.map .int) m h (by rw [List.length_map]; omega)
    rw [List.length_map] at lr
    rw [outB]
    simp only [asg_nm]
    rw [hi1, R.bind_ok]
    refine lr _ fun d hd q hq => ?_
    obtain ⟨v, hv9, rfl⟩ := List.mem_map.mp hd
    have h2 : ((forget ((forget ρ [1, 2]).set 1 (some (rowD r))) [2]).set 2 (some (.int v)))[2]? = some (some (.int v)) := by simp [forget, hl]
    have ap : append (.ref st.length) (.bl true) (st ++ [O.lst (List.replicate q (D.bl true))]) = .ok .non (st ++ [O.lst (List.replicate (q + 1) (D.bl true))]) := by
      rw [app_lst get_last (by simp; omega), set_last, List.replicate_succ']
    rw [inB]
    simp only [asg_nm, evOc_none, R.bind_ok, he _ v _ ⟨r, hr1, hv9⟩ h2, ap]
theorem isIn_two {a b : Nat} (ha : 0 < a) (hb : 0 < b) (st : Store) : isIn (.int 0) (.tup [.int (a : Nat), .int (b : Nat)]) st = some false := by
  simp [isIn, dctOf, seqW, seqOf, D.flat, D.eqF, D.beq]
  omega
theorem cmp_in (x y : D) (st : Store) : cmpop .in_ x y st = R.ofB (isIn x y st) st := (rfl)
theorem need_values389 (h0 : P.defs.lookup 0 = some ⟨1, 1, bd0⟩) (h1 : P.defs.lookup 1 = some ⟨3, 3, bd1⟩) (h2 : P.defs.lookup 2 = some ⟨3, 3, bd2⟩) (h67 : P.defs.lookup 67 = some ⟨2, 3, bd67⟩) (h68 : P.defs.lookup 68 = some ⟨1, 1, bd68⟩) (h389 : P.defs.lookup 389 = some ⟨1, 3, bd389⟩) (k : Nat) (rs : List (List Int)) (w : Nat) (st : Store) (h : Rect rs w) (hl : rs.length ≤ 8) (hw : w ≤ 8) (l0 : 0 < rs.length) (w0 : 0 < w) (hv : ∀ r ∈ rs, ∀ v ∈ r, (0 : Int) ≤ v ∧ v ≤ 30) :
    run P (k + 4) 389 [.tup (rowsD rs)] st = .ok .non st := by
  have e1 := are_rows67 h2 h67 (k + 1) rs w st h hl hw
  have e2 := shape68 h68 (k + 2) rs w st h
  have hwid : wid rs w = w := by unfold wid; rw [if_neg (by rintro rfl; simp at l0)]
  rw [hwid] at e2
  have i2 := isIn_two l0 w0 st
  have c1 : ∃ n, ev P.G (run P (k + 3)) (.comp2 [1, 2] [2] (.call 1 (.cons (.var 2) (.cons (.con (.int (0))) (.cons (.con (.int (30))) .nil)))) (.nm 1) (.seq (.var 0)) (.nm 2) (.seq (.var 1)) .none) [some (.tup (rowsD rs)), none, none] st = .ok (.ref st.length) (st ++ [.lst (List.replicate n (.bl true))]) := by
    refine comp2_all rs _ _ _ st (by simp [evi_seq, ev_var, ofO_some, wkSeq_tup]) (by simp) (fun r hr => by rw [h r hr]; omega) (by omega) fun ρ v st hv2 hρ => ?_
    obtain ⟨r, hr, hvr⟩ := hv2
    obtain ⟨a1, a2⟩ := hv r hr v hvr
    simp [EVa, place, List.map_cons, List.map_nil, List.cons_append, List.nil_append, Nat.reduceSub, List.replicate_succ, List.replicate_zero, List.getElem?_cons_zero, List.getElem?_cons_succ, Option.join_some, hρ, is_in_int h0 h1, a1, a2]
  obtain ⟨n, c1⟩ := c1
  obtain ⟨X, hX⟩ : ∃ X : List D, X = rowsD rs := ⟨_, rfl⟩
  rw [← hX] at e1 e2 c1 ⊢
  rw [run_eq h389]
  simp only [List.length_cons, List.length_nil, List.map_cons, List.map_nil, List.cons_append, List.nil_append, Nat.reduceSub, List.replicate_succ, List.replicate_zero, Nat.reduceAdd, beq_self_eq_true, R.grd_true]
  unfold bd389
  rw [exs_one]
  simp [EVa, place, List.map_cons, List.map_nil, List.cons_append, List.nil_append, Nat.reduceSub, List.replicate_succ, List.replicate_zero, List.getElem?_cons_zero, List.getElem?_cons_succ, Option.join_some, e1, e2, cmp_in, i2, exs_nil]
  rw [exs_one]
  have lb : lstOf (.ref st.length) (st ++ [O.lst (List.replicate n (.bl true))]) = some (List.replicate n (.bl true)) := lstOf_lst get_last
  simp [EVa, place, List.map_cons, List.map_nil, List.cons_append, List.nil_append, Nat.reduceSub, List.replicate_succ, List.replicate_zero, List.getElem?_cons_zero, List.getElem?_cons_succ, Option.join_some, c1, biAll, lb, bools_rep, exs_nil]
  exact gc_same _ rfl
def mn (xs : List Int) : Int := xs.min?.getD 0
def sl2 {α : Type} (xs : List α) (i : Nat) : List α := (xs.drop i).take 2
def cell (rs : List (List Int)) (i j : Nat) : Int := mn ((sl2 rs (2 * i)).map fun r => mn (sl2 r (2 * j)))
def lessL (rs : List (List Int)) (w : Nat) : List (List Int) := (List.range ((rs.length + 1) / 2)).map fun i => (List.range ((w + 1) / 2)).map fun j => cell rs i j
theorem mn_some {xs : List Int} (h : xs ≠ []) : xs.min? = some (mn xs) := by
  unfold mn
  cases e : xs.min? with
  | none => exact absurd (List.min?_eq_none_iff.mp e) h
  | some m => rfl
theorem ints_map : ∀ xs : List Int, intsOf (xs.map .int) = some xs
  | [] => rfl
  | x :: xs => by rw [List.map_cons, intsOf, ints_map xs]
theorem min_tup {xs : List Int} (h : xs ≠ []) (st : Store) : biMin1 (.tup (xs.map .int)) st = .ok (.int (mn xs)) st := by
  unfold biMin1 tlOf
  simp only [ints_map, mn_some h]
theorem min_lst {xs : List Int} {l : Nat} {st : Store} (hl : st[l]? = some (.lst (xs.map .int))) (h : xs ≠ []) : biMin1 (.ref l) st = .ok (.int (mn xs)) st := by
  unfold biMin1 tlOf
  simp only [lstOf_lst hl, ints_map, mn_some h]
theorem wk2 (n : Nat) (hn : n ≤ 1000) (st : Store) : wkRng3 (.int 0) (.int (n : Nat)) (.int 2) st = .ok ⟨(List.range ((n + 1) / 2)).map fun i : Nat => .int ((2 * i : Nat) : Int), []⟩ st := by
  have hs : PySem.Builtin.Range.small 0 (n : Nat) 2 = true := by
    unfold PySem.Builtin.Range.small
    simp
    have fl : ∀ i : Int, -1000 ≤ i → i ≤ 100000 → PySem.Builtin.Range.rangeFitsLong i = true := fun i h1 h2 => by
      unfold PySem.Builtin.Range.rangeFitsLong
      simp
      omega
    have hz : 0 ≤ PySem.Builtin.Range.rangeSize 0 (n : Nat) 2 ∧ PySem.Builtin.Range.rangeSize 0 (n : Nat) 2 ≤ 1000 := by
      unfold PySem.Builtin.Range.rangeSize
      simp only [show (2 : Int) > 0 by decide, if_true]
      split <;> omega
    exact ⟨⟨⟨⟨fl _ (by omega) (by omega), fl _ (by omega) (by omega)⟩, fl _ (by omega) (by omega)⟩, fl _ (by omega) (by omega)⟩, .inr (fl _ (by omega) (by omega))⟩
  have hz : (PySem.Builtin.Range.rangeSize 0 (n : Nat) 2).toNat = (n + 1) / 2 := by
    unfold PySem.Builtin.Range.rangeSize
    simp only [show (2 : Int) > 0 by decide, if_true]
    split <;> omega
  unfold wkRng3
  simp only [hs, hz, Bool.and_true]
  rw [show (decide ((2 : Int) ≠ 0) && decide ((2 : Int).natAbs < 1073741824)) = true from rfl, R.grd_true]
  have e : range3L 0 2 ((n + 1) / 2) = (List.range ((n + 1) / 2)).map fun i : Nat => D.int ((2 * i : Nat) : Int) := by
    unfold range3L
    refine List.map_congr_left fun k _ => ?_
    rw [show (0 : Int) + (k : Nat) * 2 = ((2 * k : Nat) : Int) by omega]
  rw [e]
theorem cut2 {α : Type} (f : α → D) (xs : List α) (i : Nat) (hi : i < xs.length) : cut (xs.map f) (some ((i : Nat) : Int)) (some ((i : Int) + 2)) = (sl2 xs i).map f := by
  unfold cut bnd sl2
  simp only [show ¬ ((i : Int) < 0) by omega, show ¬ ((i : Int) + 2 < 0) by omega, if_false, Int.toNat_natCast, List.length_map, show ((i : Int) + 2).toNat = i + 2 by omega]
  rw [Nat.min_eq_left (Nat.le_of_lt hi), List.map_take, List.map_drop]
  rcases Nat.le_total (i + 2) xs.length with q | q
  · rw [Nat.min_eq_left q, show i + 2 - i = 2 by omega]
  · rw [Nat.min_eq_right q, List.take_of_length_le (by simp), List.take_of_length_le (by simp; omega)]
end
section
variable {G : Ctx} {call : Nat → List D → Store → R D}
theorem compLoop_map {α : Type} {step : D → Store → R (Option D)} {wat : List (Nat × O)} {st : Store} (φ ψ : α → D) (hw : watOk wat st = true) : ∀ (rs : List α) (c : Bool), (∀ r ∈ rs, step (φ r) st = .ok (some (ψ r)) st) → compLoop step wat st c (rs.map φ) st = .ok (rs.map ψ) st
  | [], c, _ => by simp [compLoop, hw]
  | r :: rs, c, h => by
    rw [List.map_cons, compLoop, hw, R.grd_true, h r (List.mem_cons_self ..), R.bind_ok, cutT_same, compLoop_map φ ψ hw rs _ (fun q hq => h q (List.mem_cons_of_mem _ hq)), R.bind_ok, List.map_cons]
theorem comp_map {α : Type} (φ ψ : α → D) {rs : List α} {own : List Nat} {e : E} {t : T} {i : Iw} {ρ : Env} {st s : Store} {wat : List (Nat × O)} (h : evi G call i ρ st = .ok ⟨rs.map φ, wat⟩ s) (hw : watOk wat s = true) (hs : ∀ r ∈ rs, stp G call t (forget ρ own) .none e (φ r) s = .ok (some (ψ r)) s) :
    ev G call (.comp own e t i .none) ρ st = newL (rs.map ψ) s := by
  rw [ev_comp h, compLoop_map φ ψ hw rs _ hs, R.bind_ok]
theorem compLoop_cut {α : Type} {step : D → Store → R (Option D)} {wat : List (Nat × O)} {st : Store} (φ ψ : α → D) (hw : watOk wat st = true) : ∀ (rs : List α), (∀ r ∈ rs, D.cl st.length (ψ r) = true ∧ ∃ js, step (φ r) st = .ok (some (ψ r)) (st ++ js)) → compLoop step wat st true (rs.map φ) st = .ok (rs.map ψ) st
  | [], _ => by simp [compLoop, hw]
  | r :: rs, h => by
    obtain ⟨h1, js, h2⟩ := h r (List.mem_cons_self ..)
    have cb : cutB true st (some (ψ r)) (st ++ js) = true := by simp [cutB, pfx_app, h1]
    rw [List.map_cons, compLoop, hw, R.grd_true, h2, R.bind_ok, cb, show cutT true st (st ++ js) = st by simp [cutT], compLoop_cut φ ψ hw rs (fun q hq => h q (List.mem_cons_of_mem _ hq)), R.bind_ok, List.map_cons]
theorem comp_cut {α : Type} (φ ψ : α → D) {rs : List α} {own : List Nat} {e : E} {t : T} {i : Iw} {ρ : Env} {st s : Store} {wat : List (Nat × O)} (h : evi G call i ρ st = .ok ⟨rs.map φ, wat⟩ s) (hw : watOk wat s = true) (hs : ∀ r ∈ rs, D.cl s.length (ψ r) = true ∧ ∃ js, stp G call t (forget ρ own) .none e (φ r) s = .ok (some (ψ r)) (s ++ js)) :
    ev G call (.comp own e t i .none) ρ st = newL (rs.map ψ) s := by
  rw [ev_comp h, compLoop_cut φ ψ hw rs hs, R.bind_ok]
theorem pfx_ext {n : Nat} : ∀ {s t : Store} (js : Store), pfx n s t = true → pfx n s (t ++ js) = true
  | [], _, _, _ => by simp [pfx]
  | _ :: _, [], _, h => by simp [pfx] at h
  | a :: s, b :: t, js, h => by
    simp only [pfx, Bool.and_eq_true] at h
    simp only [List.cons_append, pfx, h.1, pfx_ext js h.2, Bool.and_self]
theorem cut_acc {st js : Store} {a0 a1 : List D} {ρ : Env} (h1 : envCl (st.length + 1) ρ = true) (h2 : D.cls (st.length + 1) a1 = true) : cutE (st ++ [.lst a0]) ρ (st ++ [.lst a1] ++ js) = st ++ [.lst a1] := by
  have p : pfx (st.length + 1) (st ++ [.lst a0]) (st ++ [.lst a1]) = true := by
    have := pfx_setc (n := st.length + 1) (a := .lst a0) (b := .lst a1) h2 (st ++ [.lst a0]) st.length
    simpa using this
  unfold cutE
  have e : (st ++ [O.lst a0]).length = st.length + 1 := by simp
  rw [e, pfx_ext js p, h1]
  simp [cutT, List.take_append]
  exact List.take_of_length_le (by omega)
theorem for_acc {body : Env → Store → R (Fl × Env)} {t : T} {ρ₀ : Env} {st : Store} {a0 : List D} {α : Type} (φ ψ : α → D) (hc : envCl (st.length + 1) ρ₀ = true) : ∀ (xs : List α) (acc : List D), D.cls (st.length + 1) acc = true → acc.length + xs.length < 1000000 →
    (∀ x ∈ xs, ∀ acc, acc.length < 1000000 → ∃ ρ1 ρ2 js, T.asg t (φ x) ρ₀ = some ρ1 ∧ body ρ1 (st ++ [.lst acc]) = .ok (.nx, ρ2) (st ++ [.lst (acc ++ [ψ x])] ++ js) ∧ mask ρ₀ ρ2 = ρ₀ ∧ D.cl (st.length + 1) (ψ x) = true) →
    forLoop body t ρ₀ (st ++ [.lst a0]) [] (xs.map φ) ρ₀ (st ++ [.lst acc]) = .ok (.nx, ρ₀) (st ++ [.lst (acc ++ xs.map ψ)])
  | [], acc, _, _, _ => by simp [for_nil, watOk]
  | x :: xs, acc, h1, h2, h => by
    obtain ⟨ρ1, ρ2, js, g1, g2, g3, g4⟩ := h x (List.mem_cons_self ..) acc (by simp at h2; omega)
    have h3 : D.cls (st.length + 1) (acc ++ [ψ x]) = true := by
      have key : ∀ (l : List D), D.cls (st.length + 1) l = true → D.cls (st.length + 1) (l ++ [ψ x]) = true := by
        intro l
        induction l with
        | nil => intro _; simp [g4]
        | cons a l il => intro h; simp only [List.cons_append, cls_cons, Bool.and_eq_true] at h ⊢; exact ⟨h.1, il h.2⟩
      exact key acc h1
    rw [List.map_cons, for_cons, show watOk [] (st ++ [O.lst acc]) = true from rfl, R.grd_true, g1]
    simp only [g2, R.bind_ok, fnx_nx, g3]
    rw [cut_acc hc h3, for_acc φ ψ hc xs (acc ++ [ψ x]) h3 (by simp at h2 ⊢; omega) fun y hy => h y (List.mem_cons_of_mem _ hy)]
    simp
end
section
variable {P : Prog}
theorem sl2_ne {α : Type} {xs : List α} {i : Nat} (h : i < xs.length) : sl2 xs i ≠ [] := fun e => by
  have := congrArg List.length e
  unfold sl2 at this
  simp at this
  omega
theorem less390 (h68 : P.defs.lookup 68 = some ⟨1, 1, bd68⟩) (h390 : P.defs.lookup 390 = some ⟨1, 8, bd390⟩) (k : Nat) (rs : List (List Int)) (w : Nat) (st : Store) (h : Rect rs w) (hl : rs.length ≤ 8) (hw : w ≤ 8) (l0 : 0 < rs.length) :
    run P (k + 2) 390 [.tup (rowsD rs)] st = .ok (.tup (rowsD (lessL rs w))) st := by
  have e2 := shape68 h68 k rs w st h
  have hwid : wid rs w = w := by unfold wid; rw [if_neg (by rintro rfl; simp at l0)]
  rw [hwid] at e2
  obtain ⟨X, hX⟩ : ∃ X : List D, X = rowsD rs := ⟨_, rfl⟩
  have bodyE : ∀ i, i < (rs.length + 1) / 2 → ∀ acc : List D, acc.length < 1000000 → ∃ js, exs P.G (run P (k + 1)) (.cons (.set (.nm 5) (.slc (.var 0) (.some (.var 4)) (.some (.bin .add (.var 4) (.con (.int (2))))))) 
  (.cons (.ex (.app (.var 3) (.bi .mkt (.cons (.comp [7] (.bi .min1 (.cons (.comp [6] (.bi .min1 (.cons (.slc (.var 6) (.some (.var 7)) (.some (.bin .add (.var 7) (.con (.int (2)))))) .nil)) (.nm 6) (.seq (.var 5)) .none) .nil)) (.nm 7) (.rng3 (.con (.int (0))) (.var 2) (.con (.int (2)))) .none) .nil)))) .nil)) [some (.tup X), some (.int (rs.length : Nat)), some (.int (w : Nat)), some (.ref st.length), some (.int ((2 * i : Nat) : Int)), none, none, none] (st ++ [.lst acc]) =
      .ok (.nx, [some (.tup X), some (.int (rs.length : Nat)), some (.int (w : Nat)), some (.ref st.length), some (.int ((2 * i : Nat) : Int)), some (.tup ((sl2 rs (2 * i)).map rowD)), none, none]) (st ++ [.lst (acc ++ [rowD ((List.range ((w + 1) / 2)).map fun j => cell rs i j)])] ++ js) := fun i hi acc ha => by
    have s1 := cut2 rowD rs (2 * i) (by omega)
    obtain ⟨Y, hY⟩ : ∃ Y, Y = (sl2 rs (2 * i)).map rowD := ⟨_, rfl⟩
    rw [show rs.map rowD = X from hX.symm, ← hY] at s1
    have inner : ∀ (σ : Store) (j : Nat), j < (w + 1) / 2 → ev P.G (run P (k + 1)) (.comp [6] (.bi .min1 (.cons (.slc (.var 6) (.some (.var 7)) (.some (.bin .add (.var 7) (.con (.int (2)))))) .nil)) (.nm 6) (.seq (.var 5)) .none) [some (.tup X), some (.int (rs.length : Nat)), some (.int (w : Nat)), some (.ref st.length), some (.int ((2 * i : Nat) : Int)), some (.tup Y), none, some (.int ((2 * j : Nat) : Int))] σ = .ok (.ref σ.length) (σ ++ [.lst (((sl2 rs (2 * i)).map fun r => mn (sl2 r (2 * j))).map .int)]) := fun σ j hj => by
      rw [comp_map (rs := sl2 rs (2 * i)) (wat := []) (s := σ) rowD (fun r => .int (mn (sl2 r (2 * j)))) (by simp [evi_seq, ev_var, ofO_some, wkSeq_tup, hY]) rfl (fun r hr => by
        have hrw : r.length = w := h r (List.mem_of_mem_drop (List.mem_of_mem_take hr))
        have c := cut2 D.int r (2 * j) (by omega)
        have m := fun st => min_tup (sl2_ne (xs := r) (i := 2 * j) (by omega)) st
        push_cast at c
        have bm : ∀ x st, builtin .min1 [x] st = biMin1 x st := fun _ _ => rfl
        simp [stp, forget, EVa, place, List.map_cons, List.map_nil, List.cons_append, List.nil_append, Nat.reduceSub, List.replicate_succ, List.replicate_zero, List.getElem?_cons_zero, List.getElem?_cons_succ, Option.join_some, slice_tup, c, bm, m])]
      rw [List.map_map, newL_ok' (by
        rw [List.length_map]; unfold sl2; rw [List.length_take]; omega)]
      rfl
    have bm : ∀ x st, builtin .min1 [x] st = biMin1 x st := fun _ _ => rfl
    have outer : ∀ σ : Store, ev P.G (run P (k + 1)) (.comp [7] (.bi .min1 (.cons (.comp [6] (.bi .min1 (.cons (.slc (.var 6) (.some (.var 7)) (.some (.bin .add (.var 7) (.con (.int (2)))))) .nil)) (.nm 6) (.seq (.var 5)) .none) .nil)) (.nm 7) (.rng3 (.con (.int (0))) (.var 2) (.con (.int (2)))) .none) [some (.tup X), some (.int (rs.length : Nat)), some (.int (w : Nat)), some (.ref st.length), some (.int ((2 * i : Nat) : Int)), some (.tup Y), none, none] σ = .ok (.ref σ.length) (σ ++ [.lst (((List.range ((w + 1) / 2)).map fun j => cell rs i j).map .int)]) := fun σ => by
      rw [comp_cut (rs := List.range ((w + 1) / 2)) (wat := []) (s := σ) (fun j : Nat => .int ((2 * j : Nat) : Int)) (fun j => .int (cell rs i j)) (by
        rw [evi_rng3]
        simp only [ev_con, ev_var, List.getElem?_cons_succ, List.getElem?_cons_zero, Option.join_some, ofO_some, R.bind_ok]
        exact wk2 w (by omega) σ) rfl (fun j hj => by
        have hj := List.mem_range.mp hj
        refine ⟨rfl, [.lst (((sl2 rs (2 * i)).map fun r => mn (sl2 r (2 * j))).map .int)], ?_⟩
        have ne : (sl2 rs (2 * i)).map (fun r => mn (sl2 r (2 * j))) ≠ [] := fun e => sl2_ne (xs := rs) (i := 2 * i) (by omega) (List.map_eq_nil_iff.mp e)
        have ml := min_lst (st := σ ++ [.lst (((sl2 rs (2 * i)).map fun r => mn (sl2 r (2 * j))).map .int)]) (l := σ.length) get_last ne
        have inn := inner σ j hj
        simp only [stp, forget, asg_nm, evOc_none, R.bind_ok, List.set_cons_succ, List.set_cons_zero]
        rw [ev_bi, evs_cons, inn, R.bind_ok, evs_nil, R.bind_ok, R.bind_ok, bm, ml]
        rfl)]
      rw [List.map_map, newL_ok' (by simp; omega)]
      rfl
    obtain ⟨R1, hR1⟩ : ∃ R1, R1 = ((List.range ((w + 1) / 2)).map fun j => cell rs i j).map D.int := ⟨_, rfl⟩
    have lR1 : R1.length ≤ 100 := by rw [hR1]; simp; omega
    rw [← hR1] at outer
    refine ⟨[.lst R1], ?_⟩
    rw [show rowD ((List.range ((w + 1) / 2)).map fun j => cell rs i j) = .tup R1 by rw [hR1]]
    rw [← hY]
    have s1 : ∀ σ, slice (.tup X) (some ((2 * i : Nat) : Int)) (some (((2 * i : Nat) : Int) + 2)) σ = .ok (.tup Y) σ := fun σ => by rw [slice_tup, s1]
    have lf : lstOf (.ref st.length) (st ++ [.lst acc]) = some acc := lstOf_lst get_last
    have mk : biMkt (.ref (st.length + 1)) (st ++ [.lst acc, .lst R1]) = .ok (.tup R1) (st ++ [.lst acc, .lst R1]) := by
      rw [mkt_seq (ds := R1) (by simp [seqOf]), newT_ok' (by omega)]
    have ap : append (.ref st.length) (.tup R1) (st ++ [.lst acc, .lst R1]) = .ok .non (st ++ [.lst (acc ++ [.tup R1]), .lst R1]) := by
      rw [app_lst (l := st.length) (ds := acc) (by simp) (by omega)]
      simp
    have ot := outer (st ++ [.lst acc])
    simp at ot
    push_cast at s1
    rw [exs_one]
    simp [EVa, place, List.map_cons, List.map_nil, List.cons_append, List.nil_append, Nat.reduceSub, List.replicate_succ, List.replicate_zero, List.getElem?_cons_zero, List.getElem?_cons_succ, Option.join_some, s1]
    rw [exs_one]
    simp [EVa, place, List.map_cons, List.map_nil, List.cons_append, List.nil_append, Nat.reduceSub, List.replicate_succ, List.replicate_zero, List.getElem?_cons_zero, List.getElem?_cons_succ, Option.join_some, lf, ot, mk, ap, exs_nil]
  have lp := for_acc (body := exs P.G (run P (k + 1)) (.cons (.set (.nm 5) (.slc (.var 0) (.some (.var 4)) (.some (.bin .add (.var 4) (.con (.int (2))))))) 
  (.cons (.ex (.app (.var 3) (.bi .mkt (.cons (.comp [7] (.bi .min1 (.cons (.comp [6] (.bi .min1 (.cons (.slc (.var 6) (.some (.var 7)) (.some (.bin .add (.var 7) (.con (.int (2)))))) .nil)) (.nm 6) (.seq (.var 5)) .none) .nil)) (.nm 7) (.rng3 (.con (.int (0))) (.var 2) (.con (.int (2)))) .none) .nil)))) .nil))) (t := .nm 4) (ρ₀ := [some (.tup X), some (.int (rs.length : Nat)), some (.int (w : Nat)), some (.ref st.length), none, none, none, none]) (st := st) (a0 := []) (fun i : Nat => .int ((2 * i : Nat) : Int)) (fun i => rowD ((List.range ((w + 1) / 2)).map fun j => cell rs i j)) (by
      have := cls_rows (n := st.length + 1) rs
      rw [← hX] at this
      simp [envCl, this]) (List.range ((rs.length + 1) / 2)) [] rfl (by simp; omega) (fun i hi acc ha => by
      obtain ⟨js, e⟩ := bodyE i (List.mem_range.mp hi) acc ha
      exact ⟨_, _, js, asg_nm _ _ _, e, rfl, by rw [cl_tup]; exact cls_int _⟩)
  rw [List.nil_append] at lp
  have eR : (List.range ((rs.length + 1) / 2)).map (fun i => rowD ((List.range ((w + 1) / 2)).map fun j => cell rs i j)) = rowsD (lessL rs w) := by
    unfold lessL rowsD; rw [List.map_map]; rfl
  rw [eR] at lp
  obtain ⟨R1, hR1⟩ : ∃ R1, R1 = rowsD (lessL rs w) := ⟨_, rfl⟩
  have lR1 : R1.length ≤ 100 := by rw [hR1]; unfold lessL rowsD; simp; omega
  have cR1 : ∀ n, D.cls n R1 = true := fun n => by rw [hR1]; exact cls_rows _
  have mk : biMkt (.ref st.length) (st ++ [.lst R1]) = .ok (.tup R1) (st ++ [.lst R1]) := by
    rw [mkt_seq (ds := R1) (by simp [seqOf]), newT_ok' (by omega)]
  rw [← hR1] at lp ⊢
  rw [← hX] at e2 ⊢
  rw [run_eq h390]
  simp only [List.length_cons, List.length_nil, List.map_cons, List.map_nil, List.cons_append, List.nil_append, Nat.reduceSub, List.replicate_succ, List.replicate_zero, Nat.reduceAdd, beq_self_eq_true, R.grd_true]
  unfold bd390
  rw [exs_one, ex_set]
  simp [EVa, place, List.map_cons, List.map_nil, List.cons_append, List.nil_append, Nat.reduceSub, List.replicate_succ, List.replicate_zero, List.getElem?_cons_zero, List.getElem?_cons_succ, Option.join_some, e2, asg_two]
  rw [exs_one]
  simp [EVa, place, List.map_cons, List.map_nil, List.cons_append, List.nil_append, Nat.reduceSub, List.replicate_succ, List.replicate_zero, List.getElem?_cons_zero, List.getElem?_cons_succ, Option.join_some]
  rw [exs_one, ex_forB, evi_rng3]
  have nl : newL [] st = .ok (.ref st.length) (st ++ [.lst []]) := newL_ok' (by simp)
  simp only [ev_con, ev_var, List.getElem?_cons_succ, List.getElem?_cons_zero, Option.join_some, ofO_some, R.bind_ok, wk2 rs.length (by omega)]
  rw [lp, R.bind_ok, nxt_nx, exs_one]
  simp [EVa, place, List.map_cons, List.map_nil, List.cons_append, List.nil_append, Nat.reduceSub, List.replicate_succ, List.replicate_zero, List.getElem?_cons_zero, List.getElem?_cons_succ, Option.join_some, mk]
  exact gc_same _ (by rw [cl_tup]; exact cR1 _)
end
end Tl
end Nz
namespace Nz
namespace Tl
def hN (h : Nat) : Nat → Nat
  | 0 => h
  | k + 1 => (hN h k + 1) / 2
def Lv (rs : List (List Int)) (w : Nat) : Nat → List (List Int)
  | 0 => rs
  | k + 1 => lessL (Lv rs w k) (hN w k)
theorem Lv_len (rs : List (List Int)) (w : Nat) : ∀ k, (Lv rs w k).length = hN rs.length k
  | 0 => rfl
  | k + 1 => by
    show (lessL _ _).length = _
    unfold lessL
    rw [List.length_map, List.length_range, Lv_len rs w k]; rfl
theorem Lv_rect {rs : List (List Int)} {w : Nat} (h : Rect rs w) : ∀ k, Rect (Lv rs w k) (hN w k)
  | 0 => h
  | k + 1 => fun r hr => by
    obtain ⟨i, _, rfl⟩ := List.mem_map.mp hr
    rw [List.length_map, List.length_range]; rfl
theorem hN_rng {h : Nat} (h1 : 1 ≤ h) (h8 : h ≤ 8) : ∀ k, 1 ≤ hN h k ∧ hN h k ≤ 8
  | 0 => ⟨h1, h8⟩
  | k + 1 => by
    have := hN_rng h1 h8 k
    show 1 ≤ (hN h k + 1) / 2 ∧ (hN h k + 1) / 2 ≤ 8
    omega
def dep (h w : Nat) : Nat := if h ≤ 1 ∧ w ≤ 1 then 0 else if h ≤ 2 ∧ w ≤ 2 then 1 else if h ≤ 4 ∧ w ≤ 4 then 2 else 3
theorem dep_spec {h w : Nat} (h1 : 1 ≤ h) (h8 : h ≤ 8) (w1 : 1 ≤ w) (w8 : w ≤ 8) : dep h w ≤ 3 ∧ hN h (dep h w) = 1 ∧ hN w (dep h w) = 1 ∧ ∀ j < dep h w, ¬ (hN h j = 1 ∧ hN w j = 1) := by
  unfold dep
  split
  · refine ⟨by omega, by simp only [hN]; omega, by simp only [hN]; omega, fun j hj => by omega⟩
  · split
    · refine ⟨by omega, by simp only [hN]; omega, by simp only [hN]; omega, fun j hj => ?_⟩
      have : j = 0 := by omega
      subst this; simp only [hN]; omega
    · split
      · refine ⟨by omega, by simp only [hN]; omega, by simp only [hN]; omega, fun j hj => ?_⟩
        have : j = 0 ∨ j = 1 := by omega
        rcases this with rfl | rfl <;> simp only [hN] <;> omega
      · refine ⟨by omega, by simp only [hN]; omega, by simp only [hN]; omega, fun j hj => ?_⟩
        have : j = 0 ∨ j = 1 ∨ j = 2 := by omega
        rcases this with rfl | rfl | rfl <;> simp only [hN] <;> omega
def lvs (rs : List (List Int)) (w n : Nat) : List D := (List.range n).map fun i => .tup (rowsD (Lv rs w i))
theorem lvs_succ (rs : List (List Int)) (w n : Nat) : lvs rs w (n + 1) = lvs rs w n ++ [.tup (rowsD (Lv rs w n))] := by
  unfold lvs; rw [List.range_succ, List.map_append]; rfl
theorem lvs_len (rs : List (List Int)) (w n : Nat) : (lvs rs w n).length = n := by unfold lvs; simp
theorem lvs_cls {m : Nat} (rs : List (List Int)) (w n : Nat) : D.cls m (lvs rs w n) = true := by
  unfold lvs
  generalize List.range n = l
  induction l with
  | nil => rfl
  | cons a l ih => rw [List.map_cons, cls_cons, ih, Bool.and_true, cl_tup]; exact cls_rows _
theorem get_neg1 (ds : List D) (d : D) : getAt (ds ++ [d]) (-1) = some d := by
  unfold getAt place
  simp
  rw [if_pos (by omega), show (-1 + ((ds.length : Int) + 1)).toNat = ds.length by omega]
  simp
section
variable {P : Prog}
theorem levels391 (h68 : P.defs.lookup 68 = some ⟨1, 1, bd68⟩) (h390 : P.defs.lookup 390 = some ⟨1, 8, bd390⟩) (h391 : P.defs.lookup 391 = some ⟨1, 2, bd391⟩) (k : Nat) (rs : List (List Int)) (w : Nat) (st : Store) (h : Rect rs w) (hl : rs.length ≤ 8) (hw : w ≤ 8) (l0 : 0 < rs.length) (w0 : 0 < w) :
    run P (k + 3) 391 [.tup (rowsD rs)] st = .ok (.tup (lvs rs w (dep rs.length w + 1))) st := by
  obtain ⟨d3, d1, d2, dn⟩ := dep_spec l0 hl w0 hw
  obtain ⟨X, hX⟩ : ∃ X : List D, X = rowsD rs := ⟨_, rfl⟩
  have cX : ∀ n, D.cls n X = true := fun n => by rw [hX]; exact cls_rows _
  have one : ∀ (j : Nat), j ≤ 3 → ∀ σ, run P (k + 2) 68 [.tup (rowsD (Lv rs w j))] σ = .ok (.tup ([((hN rs.length j : Nat) : Int), ((hN w j : Nat) : Int)].map .int)) σ := fun j hj σ => by
    have e := shape68 h68 (k + 1) (Lv rs w j) (hN w j) σ (Lv_rect h j)
    have hne : Lv rs w j ≠ [] := fun e => by
      have := Lv_len rs w j
      rw [e] at this
      have := (hN_rng l0 hl j).1
      simp at *
      omega
    rw [e, Lv_len]
    unfold wid
    rw [if_neg hne]; rfl
  have nxt_ : ∀ (j : Nat), j ≤ 3 → ∀ σ, run P (k + 2) 390 [.tup (rowsD (Lv rs w j))] σ = .ok (.tup (rowsD (Lv rs w (j + 1)))) σ := fun j hj σ =>
    less390 h68 h390 k (Lv rs w j) (hN w j) σ (Lv_rect h j) (by rw [Lv_len]; exact (hN_rng l0 hl j).2) (hN_rng w0 hw j).2 (by rw [Lv_len]; exact (hN_rng l0 hl j).1)
  have loop : ∀ (f j n : Nat), j + f = dep rs.length w → f ≤ n → whlLoop (evC P.G (run P (k + 2)) (.val (.cmp .ne (.call 68 (.cons (.idx (.var 1) (.neg (.con (.int (1))))) .nil)) (.tup (.cons (.con (.int (1))) (.cons (.con (.int (1))) .nil))))))
      (exs P.G (run P (k + 2)) (.cons (.ex (.app (.var 1) (.call 390 (.cons (.idx (.var 1) (.neg (.con (.int (1))))) .nil)))) .nil)) [some (.tup X), some (.ref st.length)] (st ++ [.lst [.tup X]]) (n + 1) [some (.tup X), some (.ref st.length)] (st ++ [.lst (lvs rs w (j + 1))]) =
      .ok (.nx, [some (.tup X), some (.ref st.length)]) (st ++ [.lst (lvs rs w (dep rs.length w + 1))]) := by
    intro f
    induction f with
    | zero =>
      intro j n hj hn
      have hj : j = dep rs.length w := by omega
      have lf : lstOf (.ref st.length) (st ++ [.lst (lvs rs w (j + 1))]) = some (lvs rs w (j + 1)) := lstOf_lst get_last
      have ix := index_lst (i := -1) lf (by rw [lvs_succ]; exact get_neg1 _ _)
      have o := one j (by omega) (st ++ [.lst (lvs rs w (j + 1))])
      have q := eqP_ints [((hN rs.length j : Nat) : Int), ((hN w j : Nat) : Int)] [1, 1] (st ++ [.lst (lvs rs w (j + 1))])
      rw [decide_eq_true (by rw [hj, d1, d2]; rfl)] at q
      simp only [List.map_cons, List.map_nil] at o q
      rw [whl_false (s := st ++ [.lst (lvs rs w (j + 1))]) (by simp [EVa, place, List.map_cons, List.map_nil, List.cons_append, List.nil_append, Nat.reduceSub, List.replicate_succ, List.replicate_zero, List.getElem?_cons_zero, List.getElem?_cons_succ, Option.join_some, ix, o, q]), hj]
    | succ f ih =>
      intro j n hj hn
      have lf : lstOf (.ref st.length) (st ++ [.lst (lvs rs w (j + 1))]) = some (lvs rs w (j + 1)) := lstOf_lst get_last
      have ix := index_lst (i := -1) lf (by rw [lvs_succ]; exact get_neg1 _ _)
      have o := one j (by omega) (st ++ [.lst (lvs rs w (j + 1))])
      have o2 := nxt_ j (by omega) (st ++ [.lst (lvs rs w (j + 1))])
      have q := eqP_ints [((hN rs.length j : Nat) : Int), ((hN w j : Nat) : Int)] [1, 1] (st ++ [.lst (lvs rs w (j + 1))])
      rw [decide_eq_false (by
        intro e
        have e1 : ((hN rs.length j : Nat) : Int) = 1 := by injection e
        have e2 : ((hN w j : Nat) : Int) = 1 := by injection e with _ e; injection e
        exact dn j (by omega) ⟨by omega, by omega⟩)] at q
      simp only [List.map_cons, List.map_nil] at o q
      have ap : append (.ref st.length) (.tup (rowsD (Lv rs w (j + 1)))) (st ++ [.lst (lvs rs w (j + 1))]) = .ok .non (st ++ [.lst (lvs rs w (j + 2))]) := by
        rw [app_lst get_last (by rw [lvs_len]; omega), set_last, ← lvs_succ]
      obtain ⟨m, rfl⟩ : ∃ m, n = m + 1 := ⟨n - 1, by omega⟩
      rw [whl_true (s := st ++ [.lst (lvs rs w (j + 1))]) (ρ' := [some (.tup X), some (.ref st.length)]) (s' := st ++ [.lst (lvs rs w (j + 2))]) (by simp [EVa, place, List.map_cons, List.map_nil, List.cons_append, List.nil_append, Nat.reduceSub, List.replicate_succ, List.replicate_zero, List.getElem?_cons_zero, List.getElem?_cons_succ, Option.join_some, ix, o, q]) (by
        rw [exs_one]
        simp [EVa, place, List.map_cons, List.map_nil, List.cons_append, List.nil_append, Nat.reduceSub, List.replicate_succ, List.replicate_zero, List.getElem?_cons_zero, List.getElem?_cons_succ, Option.join_some, lf, ix, o2, ap, exs_nil])]
      have cc := cut_acc (st := st) (js := []) (a0 := [.tup X]) (a1 := lvs rs w (j + 2)) (ρ := [some (.tup X), some (.ref st.length)]) (by simp [envCl, cX]) (lvs_cls _ _ _)
      rw [List.append_nil] at cc
      rw [show mask [some (.tup X), some (.ref st.length)] [some (.tup X), some (.ref st.length)] = [some (.tup X), some (.ref st.length)] from rfl, cc]
      exact ih (j + 1) m (by omega) (by omega)
  have lp := loop (dep rs.length w) 0 (WF - 1) (by omega) (by unfold WF; omega)
  rw [show WF - 1 + 1 = WF from rfl, show lvs rs w (0 + 1) = [.tup X] by rw [hX]; rfl] at lp
  have ll := lvs_len rs w (dep rs.length w + 1)
  have lc : ∀ m, D.cls m (lvs rs w (dep rs.length w + 1)) = true := fun m => lvs_cls _ _ _
  rw [← hX]
  obtain ⟨Z, hZ⟩ : ∃ Z, Z = lvs rs w (dep rs.length w + 1) := ⟨_, rfl⟩
  rw [← hZ] at lp ll lc ⊢
  have mk : biMkt (.ref st.length) (st ++ [.lst Z]) = .ok (.tup Z) (st ++ [.lst Z]) := by
    rw [mkt_seq (ds := Z) (by simp [seqOf]), newT_ok' (by omega)]
  rw [run_eq h391]
  simp only [List.length_cons, List.length_nil, List.map_cons, List.map_nil, List.cons_append, List.nil_append, Nat.reduceSub, List.replicate_succ, List.replicate_zero, Nat.reduceAdd, beq_self_eq_true, R.grd_true]
  unfold bd391
  rw [exs_one]
  simp [EVa, place, List.map_cons, List.map_nil, List.cons_append, List.nil_append, Nat.reduceSub, List.replicate_succ, List.replicate_zero, List.getElem?_cons_zero, List.getElem?_cons_succ, Option.join_some]
  rw [exs_one, ex_whlB, lp]
  simp only [R.bind_ok, nxt_nx]
  rw [exs_one]
  simp [EVa, place, List.map_cons, List.map_nil, List.cons_append, List.nil_append, Nat.reduceSub, List.replicate_succ, List.replicate_zero, List.getElem?_cons_zero, List.getElem?_cons_succ, Option.join_some, mk]
  exact gc_same _ (by rw [cl_tup]; exact lc _)
theorem gc_lst {st js : Store} {u : Nat} {ds : List D} (h : js[u]? = some (.lst ds)) (hc : D.cls st.length ds = true) : gc st (.ok (.ref (st.length + u)) (st ++ js)) = .ok (.ref st.length) (st ++ [.lst ds]) := by
  have g : (st ++ js)[st.length + u]? = some (.lst ds) := by
    rw [List.getElem?_append_right (by omega)]; simpa using h
  unfold gc
  simp [pfx_app, g, O.cl, hc, D.cl]
/-- a block's values, row by row -/
def blk (rs : List (List Int)) (l i j : Nat) : List Int := ((rs.drop (i * 2 ^ l)).take (2 ^ l)).flatMap fun r => (r.drop (j * 2 ^ l)).take (2 ^ l)
end
end Tl
end Nz
namespace Nz
namespace Tl
section
variable {P : Prog}
theorem tkM (h10 : P.defs.lookup 10 = some ⟨2, 4, bd10⟩) (k : Nat) (zs : List Int) (r : Row) (rest : Store) (many : Int) (hm : 0 < many) (hm2 : many < 18446744073709551616) : ∃ (n : Nat) (r' : Row), (n : Int) < many ∧ run P (k + 1) 10 [.ref 1, .int many] (SR zs r rest) = .ok (.int (n : Nat)) (SR zs r' rest) := by
  have e := tk h10 zs r rest many k hm hm2
  have a := Row.val_lo (zs := zs) (r := r) hm
  have b := Row.val_hi (zs := zs) (r := r) hm
  exact ⟨(r.val zs many).toNat, r.nx zs many, by omega, by rw [Int.toNat_of_nonneg a]; exact e⟩
end
end Tl
end Nz
namespace Nz
namespace Tl
def val (rs : List (List Int)) (a b : Nat) : Option Int := (rs[a]?).bind (·[b]?)
structure Mi (rs : List (List Int)) (l i j : Nat) (v : Int) : Prop where
  ex : ∃ a b, val rs a b = some v ∧ a / 2 ^ l = i ∧ b / 2 ^ l = j
  lo : ∀ a b u, val rs a b = some u → a / 2 ^ l = i → b / 2 ^ l = j → v ≤ u
theorem Mi.uniq {rs : List (List Int)} {l i j : Nat} {v v' : Int} (h : Mi rs l i j v) (g : Mi rs l i j v') : v = v' := by
  obtain ⟨a, b, e1, e2, e3⟩ := h.ex
  obtain ⟨a', b', f1, f2, f3⟩ := g.ex
  have := h.lo _ _ _ f1 f2 f3
  have := g.lo _ _ _ e1 e2 e3
  omega
theorem mem_sl {α : Type} {xs : List α} {n m : Nat} {x : α} : x ∈ (xs.drop n).take m ↔ ∃ a, n ≤ a ∧ a < n + m ∧ xs[a]? = some x := by
  rw [List.mem_iff_getElem?]
  constructor
  · rintro ⟨i, hi⟩
    rw [List.getElem?_take] at hi
    split at hi
    · rw [List.getElem?_drop] at hi
      exact ⟨n + i, by omega, by omega, hi⟩
    · cases hi
  · rintro ⟨a, h1, h2, h3⟩
    refine ⟨a - n, ?_⟩
    rw [List.getElem?_take, if_pos (by omega), List.getElem?_drop, show n + (a - n) = a by omega, h3]
theorem div_iff {a z i : Nat} (hz : 0 < z) : a / z = i ↔ i * z ≤ a ∧ a < i * z + z := by
  constructor
  · rintro rfl
    have h1 := Nat.div_mul_le_self a z
    have h2 := Nat.lt_div_mul_add hz (a := a)
    omega
  · rintro ⟨h1, h2⟩
    have a1 : i ≤ a / z := (Nat.le_div_iff_mul_le hz).mpr h1
    have a2 : a / z < i + 1 := (Nat.div_lt_iff_lt_mul hz).mpr (by rw [Nat.add_mul]; omega)
    omega
theorem mem_blk {rs : List (List Int)} {l i j : Nat} {u : Int} : u ∈ blk rs l i j ↔ ∃ a b, val rs a b = some u ∧ a / 2 ^ l = i ∧ b / 2 ^ l = j := by
  have hz : 0 < 2 ^ l := Nat.pow_pos (by decide)
  unfold blk
  rw [List.mem_flatMap]
  constructor
  · rintro ⟨r, hr, hu⟩
    obtain ⟨a, a1, a2, a3⟩ := mem_sl.mp hr
    obtain ⟨b, b1, b2, b3⟩ := mem_sl.mp hu
    exact ⟨a, b, by unfold val; rw [a3]; exact b3, (div_iff hz).mpr ⟨a1, a2⟩, (div_iff hz).mpr ⟨b1, b2⟩⟩
  · rintro ⟨a, b, h, h1, h2⟩
    unfold val at h
    obtain ⟨r, hr, hb⟩ := Option.bind_eq_some_iff.mp h
    have a1 := (div_iff hz).mp h1
    have b1 := (div_iff hz).mp h2
    exact ⟨r, mem_sl.mpr ⟨a, a1.1, a1.2, hr⟩, mem_sl.mpr ⟨b, b1.1, b1.2, hb⟩⟩
theorem mn_spec {xs : List Int} (h : xs ≠ []) : mn xs ∈ xs ∧ ∀ u ∈ xs, mn xs ≤ u := List.min?_eq_some_iff.mp (mn_some h)
theorem blk_mi {rs : List (List Int)} {l i j : Nat} (h : blk rs l i j ≠ []) : Mi rs l i j (mn (blk rs l i j)) := by
  obtain ⟨h1, h2⟩ := mn_spec h
  exact ⟨mem_blk.mp h1, fun a b u e1 e2 e3 => h2 u (mem_blk.mpr ⟨a, b, e1, e2, e3⟩)⟩
theorem hN_div {h a : Nat} (ha : a < h) : ∀ k, a / 2 ^ k < hN h k
  | 0 => by simpa [hN] using ha
  | k + 1 => by
    have := hN_div ha k
    show _ < (hN h k + 1) / 2
    rw [Nat.pow_succ, ← Nat.div_div_eq_div_mul]
    omega
theorem val_lt {rs : List (List Int)} {w : Nat} (h : Rect rs w) {a b : Nat} {u : Int} (e : val rs a b = some u) : a < rs.length ∧ b < w := by
  unfold val at e
  obtain ⟨r, hr, hb⟩ := Option.bind_eq_some_iff.mp e
  have h1 := (List.getElem?_eq_some_iff.mp hr).1
  have h2 := (List.getElem?_eq_some_iff.mp hb).1
  rw [h r (List.mem_of_getElem? hr)] at h2
  exact ⟨h1, h2⟩
theorem less_val {rs : List (List Int)} {w i j : Nat} {v : Int} (e : val (lessL rs w) i j = some v) : i < (rs.length + 1) / 2 ∧ j < (w + 1) / 2 ∧ v = cell rs i j := by
  unfold val lessL at e
  obtain ⟨r, hr, hb⟩ := Option.bind_eq_some_iff.mp e
  rw [List.getElem?_map] at hr
  obtain ⟨i', hi, rfl⟩ := Option.map_eq_some_iff.mp hr
  rw [List.getElem?_map] at hb
  obtain ⟨j', hj, rfl⟩ := Option.map_eq_some_iff.mp hb
  obtain ⟨p1, p2⟩ := List.getElem?_eq_some_iff.mp hi
  obtain ⟨q1, q2⟩ := List.getElem?_eq_some_iff.mp hj
  simp at p1 p2 q1 q2
  subst p2 q2
  exact ⟨p1, q1, rfl⟩
/-- each value of a level is the least of its block -/
theorem Lv_mi {rs : List (List Int)} {w : Nat} (h : Rect rs w) : ∀ (k i j : Nat) (v : Int), val (Lv rs w k) i j = some v → Mi rs k i j v
  | 0, i, j, v, e => ⟨⟨i, j, e, by simp, by simp⟩, fun a b u e1 e2 e3 => by
      simp at e2 e3
      subst e2 e3
      have e : val rs a b = some v := e
      rw [e] at e1; cases e1; exact Int.le_refl _⟩
  | k + 1, i, j, v, e => by
    have ih := Lv_mi h k
    have rk := Lv_rect h k
    have lk := Lv_len rs w k
    obtain ⟨hi, hj, rfl⟩ := less_val (rs := Lv rs w k) (w := hN w k) e
    have tot : ∀ a' b', a' < (Lv rs w k).length → b' < hN w k → ∃ u, val (Lv rs w k) a' b' = some u := fun a' b' ha hb => by
      unfold val
      rw [List.getElem?_eq_getElem ha]
      have : b' < (Lv rs w k)[a'].length := by rw [rk _ (List.getElem_mem ha)]; exact hb
      exact ⟨_, by rw [Option.bind_some, List.getElem?_eq_getElem this]⟩
    have half : ∀ a i : Nat, a / 2 ^ (k + 1) = i ↔ (a / 2 ^ k) / 2 = i := fun a i => by rw [Nat.pow_succ, Nat.div_div_eq_div_mul]
    have ne1 : (sl2 (Lv rs w k) (2 * i)).map (fun r => mn (sl2 r (2 * j))) ≠ [] := fun e => sl2_ne (xs := Lv rs w k) (i := 2 * i) (by omega) (List.map_eq_nil_iff.mp e)
    obtain ⟨c1, c2⟩ := mn_spec ne1
    refine ⟨?_, fun a b u e1 e2 e3 => ?_⟩
    · obtain ⟨r, hr, hm⟩ := List.mem_map.mp c1
      obtain ⟨a', a1, a2, a3⟩ := mem_sl.mp hr
      have rl : r.length = hN w k := rk r (List.mem_of_getElem? a3)
      obtain ⟨d1, d2⟩ := mn_spec (sl2_ne (xs := r) (i := 2 * j) (by omega))
      obtain ⟨b', b1, b2, b3⟩ := mem_sl.mp d1
      have vv : val (Lv rs w k) a' b' = some (mn (sl2 r (2 * j))) := by unfold val; rw [a3]; exact b3
      obtain ⟨a, b, f1, f2, f3⟩ := (ih a' b' _ vv).ex
      refine ⟨a, b, ?_, (half a i).mpr (by omega), (half b j).mpr (by omega)⟩
      rw [f1, hm]; rfl
    · have e2 := (half a i).mp e2
      have e3 := (half b j).mp e3
      obtain ⟨la, lb⟩ := val_lt h e1
      have ha := hN_div la k
      have hb := hN_div lb k
      obtain ⟨t, ht⟩ := tot (a / 2 ^ k) (b / 2 ^ k) (by rw [lk]; exact ha) hb
      have t1 := (ih _ _ _ ht).lo a b u e1 rfl rfl
      unfold val at ht
      obtain ⟨r, hr, hb2⟩ := Option.bind_eq_some_iff.mp ht
      have rl : r.length = hN w k := rk r (List.mem_of_getElem? hr)
      have m1 : r ∈ sl2 (Lv rs w k) (2 * i) := mem_sl.mpr ⟨a / 2 ^ k, by omega, by omega, hr⟩
      have m2 : t ∈ sl2 r (2 * j) := mem_sl.mpr ⟨b / 2 ^ k, by omega, by omega, hb2⟩
      have g1 := c2 _ (List.mem_map.mpr ⟨r, m1, rfl⟩)
      obtain ⟨_, d2⟩ := mn_spec (sl2_ne (xs := r) (i := 2 * j) (by omega))
      have g2 := d2 t m2
      have : cell (Lv rs w k) i j ≤ mn (sl2 r (2 * j)) := g1
      omega
theorem blk_ne {rs : List (List Int)} {w : Nat} (h : Rect rs w) {l i j : Nat} (hi : i < hN rs.length l) (hj : j < hN w l) : blk rs l i j ≠ [] ∧ val (Lv rs w l) i j = some (mn (blk rs l i j)) := by
  have lk := Lv_len rs w l
  have rk := Lv_rect h l
  have ha : i < (Lv rs w l).length := by rw [lk]; exact hi
  have hb : j < (Lv rs w l)[i].length := by rw [rk _ (List.getElem_mem ha)]; exact hj
  have e : val (Lv rs w l) i j = some (Lv rs w l)[i][j] := by
    unfold val
    rw [List.getElem?_eq_getElem ha, Option.bind_some, List.getElem?_eq_getElem hb]
  have m := Lv_mi h l i j _ e
  have ne : blk rs l i j ≠ [] := fun q => by
    have := mem_blk.mpr m.ex
    rw [q] at this; cases this
  exact ⟨ne, by rw [e, m.uniq (blk_mi ne)]⟩
end Tl
end Nz
namespace Nz
def ePut (es : List T3) (c : Int) (v : Int × Int) : List T3 := if es.any (fun e => decide (e.1 = c)) then es.map (fun e => if e.1 = c then (e.1, v) else e) else es ++ [(c, v)]
structure EsOk (es : List T3) : Prop where
  nd : (es.map (·.1)).Nodup
  lo : ∀ e ∈ es, 0 ≤ e.1 ∧ e.1 ≤ 31
  b2 : ∀ e ∈ es, 0 ≤ e.2.1 ∧ e.2.1 < 32
  b3 : ∀ e ∈ es, 0 ≤ e.2.2 ∧ e.2.2 ≤ 1
theorem nodup_len : ∀ (n : Nat) (l : List Int), l.Nodup → (∀ x ∈ l, 0 ≤ x ∧ x < n) → l.length ≤ n
  | 0, l, _, h => by
    cases l with
    | nil => simp
    | cons a l => have := h a (List.mem_cons_self ..); omega
  | n + 1, l, nd, h => by
    have ih := nodup_len n (l.filter fun x => !decide (x = (n : Int))) (nd.filter _) fun x hx => by
      obtain ⟨a, b⟩ := List.mem_filter.mp hx
      have := h x a
      simp at b
      omega
    have c1 : l.countP (fun x => decide (x = (n : Int))) ≤ 1 := by
      have := List.nodup_iff_count.mp nd (n : Int)
      refine Nat.le_trans (Nat.le_of_eq ?_) this
      unfold List.count
      congr 1
    have c2 := List.length_eq_countP_add_countP (fun x => decide (x = (n : Int))) (l := l)
    rw [← List.countP_eq_length_filter] at ih
    have c3 : List.countP (fun a => decide ¬decide (a = (n : Int)) = true) l = List.countP (fun x => !decide (x = (n : Int))) l := by
      congr 1
      funext x
      simp
    omega
theorem EsOk.len {es : List T3} (h : EsOk es) : es.length ≤ 32 := by
  have := nodup_len 32 (es.map (·.1)) h.nd fun x hx => by
    obtain ⟨e, he, rfl⟩ := List.mem_map.mp hx
    have := h.lo e he
    omega
  simpa using this
theorem ePut_keys (es : List T3) (c : Int) (v : Int × Int) : (ePut es c v).map (·.1) = if es.any (fun e => decide (e.1 = c)) then es.map (·.1) else es.map (·.1) ++ [c] := by
  unfold ePut
  split
  · rw [List.map_map]
    refine List.map_congr_left fun e _ => ?_
    by_cases h : e.1 = c <;> simp [h]
  · simp
theorem EsOk.put {es : List T3} (h : EsOk es) {c : Int} {v : Int × Int} (c0 : 0 ≤ c) (c1 : c ≤ 31) (v0 : 0 ≤ v.1) (v1 : v.1 < 32) (w0 : 0 ≤ v.2) (w1 : v.2 ≤ 1) : EsOk (ePut es c v) := by
  have mem : ∀ e ∈ ePut es c v, e ∈ es ∨ (e.1 = c ∧ e.2 = v) := by
    intro e he
    unfold ePut at he
    split at he
    · obtain ⟨q, hq, rfl⟩ := List.mem_map.mp he
      by_cases k : q.1 = c
      · rw [if_pos k]; exact .inr ⟨k, rfl⟩
      · rw [if_neg k]; exact .inl hq
    · rcases List.mem_append.mp he with k | k
      · exact .inl k
      · rw [List.mem_singleton.mp k]; exact .inr ⟨rfl, rfl⟩
  refine ⟨?_, fun e he => ?_, fun e he => ?_, fun e he => ?_⟩
  · rw [ePut_keys]
    split
    · exact h.nd
    · rename_i k
      refine List.nodup_append.mpr ⟨h.nd, by simp, fun a ha b hb => ?_⟩
      rw [List.mem_singleton.mp hb]
      rintro rfl
      obtain ⟨e, he, q⟩ := List.mem_map.mp ha
      exact k (List.any_eq_true.mpr ⟨e, he, by simpa using q⟩)
  · rcases mem e he with k | ⟨k, _⟩
    · exact h.lo e k
    · omega
  · rcases mem e he with k | ⟨_, k⟩
    · exact h.b2 e k
    · rw [k]; exact ⟨v0, v1⟩
  · rcases mem e he with k | ⟨_, k⟩
    · exact h.b3 e k
    · rw [k]; exact ⟨w0, w1⟩
end Nz
namespace Nz
def encO (l : Nat) (n : Nat) : O := .ins 3 [(8, .ref l), (9, .int (n : Nat))]
structure EncAt (st : Store) (e l tb pl : Nat) (ss : List Sta) (x : WS) (n : Nat) : Prop where
  e : st[e]? = some (encO l n)
  w : WkAt st l tb pl ss x
def eset (st : Store) (e l tb pl : Nat) (x : WS) (n : Nat) : Store := wset (st.set e (encO l n)) l tb pl x
section
variable {st : Store} {e l tb pl n m : Nat} {ss : List Sta} {x y : WS}
theorem EncAt.n1 (h : EncAt st e l tb pl ss x n) : e ≠ l := fun q => by
  have a := h.e; rw [q, h.w.w] at a; simp [wkO, encO] at a
theorem EncAt.n2 (h : EncAt st e l tb pl ss x n) : e ≠ pl := fun q => by
  have a := h.e; rw [q, h.w.p] at a; cases a
theorem EncAt.n3 (h : EncAt st e l tb pl ss x n) : e ≠ tb := fun q => by
  have a := h.e; rw [q, h.w.t] at a; simp [encO] at a
theorem EncAt.lt (h : EncAt st e l tb pl ss x n) : e < st.length := (List.getElem?_eq_some_iff.mp h.e).1
theorem EncAt.we (h : EncAt st e l tb pl ss x n) : WkAt (st.set e (encO l m)) l tb pl ss x := ⟨by rw [List.getElem?_set_ne h.n1]; exact h.w.w, by rw [List.getElem?_set_ne h.n2]; exact h.w.p, by unfold TbAt; rw [List.getElem?_set_ne h.n3]; exact h.w.t⟩
theorem EncAt.set (h : EncAt st e l tb pl ss x n) : EncAt (eset st e l tb pl y m) e l tb pl ss y m := by
  refine ⟨?_, (h.we).wset⟩
  unfold eset wset
  rw [List.getElem?_set_ne (Ne.symm h.n2), List.getElem?_set_ne (Ne.symm h.n1), List.getElem?_set_self h.lt]
end
end Nz
namespace Nz
namespace Tw
open Tl
abbrev Nd := Nat × Nat × Nat
def ndD (n : Nd) : D := .tup [.int (n.1 : Nat), .int (n.2.1 : Nat), .int (n.2.2 : Nat)]
theorem ndD_inj {a b : Nd} (h : ndD a = ndD b) : a = b := by
  unfold ndD at h
  simp only [D.tup.injEq, List.cons.injEq, D.int.injEq, and_true] at h
  obtain ⟨h1, h2, h3⟩ := h
  exact Prod.ext (by omega) (Prod.ext (by omega) (by omega))
theorem ndD_key (n : Nd) : D.keyOk true (ndD n) = true := rfl
/-- the bounds of nodes; the nodes that are closed -/
abbrev Bs := List (Nd × Int)
structure St where
  B : Bs
  C : List Nd
def bPut (es : Bs) (n : Nd) (v : Int) : Bs := if es.any (fun e => decide (e.1 = n)) then es.map (fun e => if e.1 = n then (e.1, v) else e) else es ++ [(n, v)]
def bGet (es : Bs) (n : Nd) : Option Int := (es.find? fun e => decide (e.1 = n)).map (·.2)
def cPut (ns : List Nd) (n : Nd) : List Nd := if n ∈ ns then ns else ns ++ [n]
def kvB (es : Bs) : List (D × D) := es.map fun e => (ndD e.1, .int e.2)
def kvC (ns : List Nd) : List (D × D) := ns.map fun n => (ndD n, .bl true)
theorem any_nd (es : List Nd) (n : Nd) : (es.any fun e => decide (ndD e = ndD n)) = es.any fun e => decide (e = n) := by
  congr 1
  funext e
  by_cases h : e = n
  · simp [h]
  · have : ¬ ndD e = ndD n := fun q => h (ndD_inj q)
    simp [h, this]
theorem kvB_put (es : Bs) (n : Nd) (v : Int) : dPut (kvB es) (ndD n) (.int v) = kvB (bPut es n v) := by
  unfold dPut bPut kvB
  have h1 : (es.map fun e : Nd × Int => ((ndD e.1, .int e.2) : D × D)).any (fun p => decide (p.1 = ndD n)) = es.any (fun e => decide (e.1 = n)) := by
    rw [List.any_map]
    have := any_nd (es.map (·.1)) n
    rw [List.any_map, List.any_map] at this
    exact this
  rw [h1]
  split
  · rw [List.map_map, List.map_map]
    refine List.map_congr_left fun e _ => ?_
    by_cases h : e.1 = n
    · simp [h]
    · have : ¬ ndD e.1 = ndD n := fun q => h (ndD_inj q)
      simp [h, this]
  · simp
theorem kvB_get (es : Bs) (n : Nd) : dGet (kvB es) (ndD n) = (bGet es n).map .int := by
  unfold dGet bGet kvB
  induction es with
  | nil => rfl
  | cons e es ih =>
    by_cases h : e.1 = n
    · simp [h]
    · have h2 : ¬ ndD e.1 = ndD n := fun q => h (ndD_inj q)
      rw [List.map_cons, List.find?_cons_of_neg (by simpa using h2), List.find?_cons_of_neg (by simpa using h)]
      exact ih
theorem kvC_get (ns : List Nd) (n : Nd) : dGet (kvC ns) (ndD n) = if n ∈ ns then some (.bl true) else none := by
  unfold dGet kvC
  induction ns with
  | nil => rfl
  | cons e es ih =>
    by_cases h : e = n
    · simp [h]
    · have h2 : ¬ ndD e = ndD n := fun q => h (ndD_inj q)
      rw [List.map_cons, List.find?_cons_of_neg (by simpa using h2), ih]
      have h3 : ¬ n = e := fun q => h q.symm
      simp [h3]
theorem kvC_put (ns : List Nd) (n : Nd) : dPut (kvC ns) (ndD n) (.bl true) = kvC (cPut ns n) := by
  unfold dPut cPut kvC
  have h1 : (ns.map fun e : Nd => ((ndD e, .bl true) : D × D)).any (fun p => decide (p.1 = ndD n)) = decide (n ∈ ns) := by
    rw [List.any_map]
    have := any_nd ns n
    show (ns.any fun e => decide (ndD e = ndD n)) = _
    rw [this]
    by_cases h : n ∈ ns
    · rw [decide_eq_true h]
      exact List.any_eq_true.mpr ⟨n, h, by simp⟩
    · rw [decide_eq_false h]
      refine List.any_eq_false.mpr fun e he => ?_
      have : ¬ e = n := fun q => h (q ▸ he)
      simp [this]
  rw [h1]
  by_cases h : n ∈ ns
  · rw [decide_eq_true h, if_pos rfl, if_pos h, List.map_map]
    refine List.map_congr_left fun e _ => ?_
    by_cases q : ndD e = ndD n <;> simp [q]
  · rw [decide_eq_false h, if_neg Bool.false_ne_true, if_neg h]
    simp
theorem bGet_put {es : Bs} {n n' : Nd} {v : Int} : bGet (bPut es n v) n' = if n' = n then some v else bGet es n' := by
  have h := dGet_put (kv := kvB es) (k := ndD n) (j := ndD n') (v := .int v)
  rw [kvB_put, kvB_get, kvB_get] at h
  have inj : ∀ (a b : Option Int), a.map D.int = b.map D.int → a = b := by
    intro a b h
    cases a <;> cases b <;> simp at h ⊢
    exact h
  refine inj _ _ ?_
  rw [h]
  by_cases e : n' = n
  · simp [e]
  · have : ¬ ndD n' = ndD n := fun q => e (ndD_inj q)
    simp [e, this]
theorem mem_cPut {ns : List Nd} {n m : Nd} : m ∈ cPut ns n ↔ m ∈ ns ∨ m = n := by
  unfold cPut
  split
  · rename_i h
    constructor
    · exact .inl
    · rintro (h1 | rfl)
      · exact h1
      · exact h
  · simp
theorem bPut_len (es : Bs) (n : Nd) (v : Int) : (bPut es n v).length ≤ es.length + 1 := by
  unfold bPut
  split <;> simp
theorem cPut_len (ns : List Nd) (n : Nd) : (cPut ns n).length ≤ ns.length + 1 := by
  unfold cPut
  split <;> simp
/-- at one node: V tells the bit -/
def wl (V : List Int → Int → Int) (thr : Int) : Nat → List Int → Int → List Int × Int × Bool
  | 0, bits, b => (bits, b, false)
  | n + 1, bits, b => if b < thr then (if V bits b = 1 then (bits ++ [V bits b], b, true) else wl V thr n (bits ++ [V bits b]) (b + 1)) else (bits, b, false)
structure Ws where
  bits : List Int
  S : St
  b : Int
def nds (V : Nd → List Int → Int → Int) (thr : Int) (x : Ws) (n : Nd) : Ws :=
  if n ∈ x.S.C then ⟨x.bits, ⟨bPut x.S.B n (max x.b ((bGet x.S.B n).getD 0)), x.S.C⟩, max x.b ((bGet x.S.B n).getD 0)⟩
  else
    ⟨(wl (V n) thr 40 x.bits (max x.b ((bGet x.S.B n).getD 0))).1,
      ⟨bPut x.S.B n (wl (V n) thr 40 x.bits (max x.b ((bGet x.S.B n).getD 0))).2.1, if (wl (V n) thr 40 x.bits (max x.b ((bGet x.S.B n).getD 0))).2.2 then cPut x.S.C n else x.S.C⟩,
      (wl (V n) thr 40 x.bits (max x.b ((bGet x.S.B n).getD 0))).2.1⟩
def pth (m r c : Nat) : List Nd := (List.range (m + 1)).reverse.map fun l => (l, r / 2 ^ l, c / 2 ^ l)
def qry (V : Nd → List Int → Int → Int) (thr : Int) (m r c : Nat) (bits : List Int) (S : St) : Ws := (pth m r c).foldl (nds V thr) ⟨bits, S, 0⟩
/-- all bounds lie between 0 and 30, and few nodes are held -/
structure StOk (n : Nat) (S : St) : Prop where
  b : ∀ e ∈ S.B, 0 ≤ e.2 ∧ e.2 ≤ 30
  lb : S.B.length ≤ n
  lc : S.C.length ≤ n
theorem bGet_rng {es : Bs} (h : ∀ e ∈ es, (0 : Int) ≤ e.2 ∧ e.2 ≤ 30) (n : Nd) : 0 ≤ (bGet es n).getD 0 ∧ (bGet es n).getD 0 ≤ 30 := by
  unfold bGet
  cases e : es.find? fun e => decide (e.1 = n) with
  | none => simp
  | some p => simpa using h p (List.mem_of_find?_eq_some e)
theorem bPut_mem {es : Bs} {n : Nd} {v : Int} {e : Nd × Int} (h : e ∈ bPut es n v) : e ∈ es ∨ e = (n, v) := by
  unfold bPut at h
  split at h
  · obtain ⟨q, hq, rfl⟩ := List.mem_map.mp h
    by_cases k : q.1 = n
    · rw [if_pos k, k]; exact .inr rfl
    · rw [if_neg k]; exact .inl hq
  · rcases List.mem_append.mp h with k | k
    · exact .inl k
    · exact .inr (List.mem_singleton.mp k)
theorem wl_rng {V : List Int → Int → Int} {thr : Int} (ht : thr ≤ 30) : ∀ (f : Nat) (bits : List Int) (b : Int), 0 ≤ b → b ≤ 30 → 0 ≤ (wl V thr f bits b).2.1 ∧ (wl V thr f bits b).2.1 ≤ 30
  | 0, bits, b, h0, h1 => ⟨h0, h1⟩
  | f + 1, bits, b, h0, h1 => by
    unfold wl
    split
    · split
      · exact ⟨h0, h1⟩
      · exact wl_rng ht f _ _ (by omega) (by omega)
    · exact ⟨h0, h1⟩
theorem StOk.nds {V : Nd → List Int → Int → Int} {thr : Int} (ht : thr ≤ 30) {k : Nat} {x : Ws} (h : StOk k x.S) (hb : 0 ≤ x.b ∧ x.b ≤ 30) (n : Nd) : StOk (k + 1) (Tw.nds V thr x n).S ∧ 0 ≤ (Tw.nds V thr x n).b ∧ (Tw.nds V thr x n).b ≤ 30 := by
  have g := bGet_rng h.b n
  have m : 0 ≤ max x.b ((bGet x.S.B n).getD 0) ∧ max x.b ((bGet x.S.B n).getD 0) ≤ 30 := by omega
  unfold Tw.nds
  split
  · refine ⟨⟨fun e he => ?_, ?_, ?_⟩, m⟩
    · rcases bPut_mem he with z | rfl
      · exact h.b e z
      · exact m
    · exact Nat.le_trans (bPut_len _ _ _) (Nat.succ_le_succ h.lb)
    · have := h.lc; show x.S.C.length ≤ k + 1; omega
  · have w := wl_rng (V := V n) ht 40 x.bits _ m.1 m.2
    refine ⟨⟨fun e he => ?_, ?_, ?_⟩, w⟩
    · rcases bPut_mem he with z | rfl
      · exact h.b e z
      · exact w
    · exact Nat.le_trans (bPut_len _ _ _) (Nat.succ_le_succ h.lb)
    · show (if _ then cPut x.S.C n else x.S.C).length ≤ k + 1
      split
      · exact Nat.le_trans (cPut_len _ _) (Nat.succ_le_succ h.lc)
      · have := h.lc; omega
theorem StOk.fold {V : Nd → List Int → Int → Int} {thr : Int} (ht : thr ≤ 30) : ∀ (ns : List Nd) {k : Nat} {x : Ws}, StOk k x.S → 0 ≤ x.b ∧ x.b ≤ 30 → StOk (k + ns.length) (ns.foldl (Tw.nds V thr) x).S
  | [], k, x, h, _ => h
  | n :: ns, k, x, h, hb => by
    have h1 := h.nds (V := V) ht hb n
    have := StOk.fold (V := V) ht ns h1.1 h1.2
    rw [List.length_cons, show k + (ns.length + 1) = k + 1 + ns.length by omega]
    exact this
theorem pth_len (m r c : Nat) : (pth m r c).length = m + 1 := by unfold pth; simp
theorem StOk.qry {V : Nd → List Int → Int → Int} {thr : Int} (ht : thr ≤ 30) {k m : Nat} {S : St} {bits : List Int} (h : StOk k S) (r c : Nat) : StOk (k + (m + 1)) (Tw.qry V thr m r c bits S).S := by
  have := StOk.fold (V := V) ht (pth m r c) (x := ⟨bits, S, 0⟩) h ⟨by show (0 : Int) ≤ 0; omega, by show (0 : Int) ≤ 30; omega⟩
  rw [pth_len] at this
  exact this
/-- only owned places have changed, none is new -/
structure Kp (own : List Nat) (s t : Store) : Prop where
  len : t.length = s.length
  out : ∀ i, i ∉ own → t[i]? = s[i]?
/-- .. perhaps some are new -/
structure Kw (own : List Nat) (s t : Store) : Prop where
  len : s.length ≤ t.length
  out : ∀ i, i < s.length → i ∉ own → t[i]? = s[i]?
theorem Kp.refl (own : List Nat) (s : Store) : Kp own s s := ⟨rfl, fun _ _ => rfl⟩
theorem Kp.trans {own : List Nat} {a b c : Store} (h : Kp own a b) (g : Kp own b c) : Kp own a c := ⟨g.len.trans h.len, fun i hi => (g.out i hi).trans (h.out i hi)⟩
theorem Kw.refl (own : List Nat) (s : Store) : Kw own s s := ⟨Nat.le_refl _, fun _ _ _ => rfl⟩
theorem Kw.trans {own : List Nat} {a b c : Store} (h : Kw own a b) (g : Kw own b c) : Kw own a c := ⟨Nat.le_trans h.len g.len, fun i h1 hi => (g.out i (Nat.lt_of_lt_of_le h1 h.len) hi).trans (h.out i h1 hi)⟩
theorem Kp.w {own : List Nat} {a b : Store} (h : Kp own a b) : Kw own a b := ⟨Nat.le_of_eq h.len.symm, fun i _ hi => h.out i hi⟩
theorem Kp.set {own : List Nat} {s : Store} {i : Nat} {o : O} (h : i ∈ own) : Kp own s (s.set i o) := ⟨List.length_set .., fun j hj => by rw [List.getElem?_set_ne (fun e => hj (by rw [← e]; exact h))]⟩
theorem Kw.app (own : List Nat) (s js : Store) : Kw own s (s ++ js) := ⟨by simp, fun i h _ => List.getElem?_append_left h⟩
theorem Kw.sub {o1 o2 : List Nat} {a b : Store} (h : Kw o1 a b) (k : ∀ i ∈ o1, i ∈ o2) : Kw o2 a b := ⟨h.len, fun i h1 hi => h.out i h1 fun z => hi (k i z)⟩
theorem gc_rel {st s : Store} {d : D} (hd : ∀ l, d ≠ .ref l) : gc st (.ok d s) = .ok d s ∨ gc st (.ok d s) = .ok d (s.take st.length) := by
  unfold gc
  split
  · rename_i h; cases h
  · rename_i d' s' h
    cases h
    split
    · split
      · exact .inr rfl
      · split
        · exact absurd rfl (hd _)
        · exact .inl rfl
    · exact .inl rfl
theorem Kw.gc {own : List Nat} {st s : Store} {d : D} (h : Kw own st s) (hd : ∀ l, d ≠ .ref l) : ∃ s', gc st (.ok d s) = .ok d s' ∧ Kw own st s' ∧ ∀ i, i < st.length → s'[i]? = s[i]? := by
  rcases gc_rel (st := st) (s := s) hd with e | e
  · exact ⟨s, e, h, fun _ _ => rfl⟩
  · exact ⟨s.take st.length, e, ⟨by rw [List.length_take]; have := h.len; omega, fun i hi ho => by rw [List.getElem?_take_of_lt hi]; exact h.out i hi ho⟩, fun i hi => List.getElem?_take_of_lt hi⟩
theorem cutE_eq {st s : Store} {ρ : Env} (h : s.length = st.length) : cutE st ρ s = s := by
  unfold cutE
  cases pfx st.length st s && envCl st.length ρ with
  | false => rfl
  | true => show s.take st.length = s; rw [← h, List.take_length]
end Tw
end Nz
namespace Nz
namespace Tw
open Tl
theorem wl_len {V : List Int → Int → Int} {thr : Int} : ∀ (f : Nat) (bits : List Int) (b : Int), (wl V thr f bits b).1.length ≤ bits.length + f
  | 0, bits, b => Nat.le_refl _
  | f + 1, bits, b => by
    unfold wl
    split
    · split
      · simp
      · have := wl_len (V := V) (thr := thr) f (bits ++ [V bits b]) (b + 1)
        simp at this ⊢
        omega
    · simp
theorem nds_len {V : Nd → List Int → Int → Int} {thr : Int} (x : Ws) (n : Nd) : (nds V thr x n).bits.length ≤ x.bits.length + 40 := by
  unfold nds
  split
  · simp
  · exact wl_len 40 _ _
theorem fold_len {V : Nd → List Int → Int → Int} {thr : Int} : ∀ (ns : List Nd) (x : Ws), (ns.foldl (nds V thr) x).bits.length ≤ x.bits.length + 40 * ns.length
  | [], x => by simp
  | n :: ns, x => by
    have h1 := nds_len (V := V) (thr := thr) x n
    have := fold_len (V := V) (thr := thr) ns (nds V thr x n)
    rw [List.length_cons]
    have e : (List.foldl (nds V thr) x (n :: ns)) = List.foldl (nds V thr) (nds V thr x n) ns := rfl
    rw [e]
    omega
/-- a source of bits at s, a tree at t -/
structure Src (P : Prog) (k t s m r c : Nat) (V : Nd → List Int → Int → Int) (own : List Nat) (I : List Int → St → Store → Prop) : Prop where
  fb : ∀ {bits S st}, I bits S st → ∃ b, b ∈ own ∧ field (.ref t) 24 st = .ok (.ref b) st ∧ st[b]? = some (.dct true (kvB S.B)) ∧ ∀ n v, I bits ⟨bPut S.B n v, S.C⟩ (st.set b (.dct true (kvB (bPut S.B n v))))
  fc : ∀ {bits S st}, I bits S st → ∃ b, b ∈ own ∧ field (.ref t) 25 st = .ok (.ref b) st ∧ st[b]? = some (.dct true (kvC S.C)) ∧ ∀ n, I bits ⟨S.B, cPut S.C n⟩ (st.set b (.dct true (kvC (cPut S.C n))))
  bit : ∀ {bits S st} (n : Nd) (b : Int), I bits S st → bits.length < 1000000 → n ∈ pth m r c → 0 ≤ b → b ≤ 30 → ∃ f st', methF P.G.meth 31 (.ref s) st = some f ∧ run P k f [.ref s, ndD n, .int b] st = .ok (.int (V n bits b)) st' ∧ I (bits ++ [V n bits b]) S st' ∧ Kp own st st'
  path : ∀ {bits S st}, I bits S st → ∃ f, methF P.G.meth 25 (.ref t) st = some f ∧ run P k f [.ref t, .int (r : Nat), .int (c : Nat)] st = .ok (.ref st.length) (st ++ [.lst ((pth m r c).map ndD)])
  loc : ∀ {bits S st st'}, I bits S st → (∀ i ∈ own, st'[i]? = st[i]?) → I bits S st'
  lt : ∀ {bits S st}, I bits S st → ∀ i ∈ own, i < st.length
def whTest : C := .and (.val (.cmp .nin (.var 6) (.fld (.var 0) 25))) (.val (.cmp .lt (.var 5) (.var 3)))
def whBody : Ss := .cons (.ifs (.val (.cmp .eq (.meth (.var 4) 31 (.cons (.var 6) (.cons (.var 5) .nil))) (.con (.int (1)))))
  (.cons (.sti (.fld (.var 0) 25) (.var 6) (.con (.bl true))) .nil)
  (.cons (.aug 5 .add (.con (.int (1)))) .nil)) .nil
section
variable {P : Prog} {k t s m r c : Nat} {V : Nd → List Int → Int → Int} {own : List Nat} {I : List Int → St → Store → Prop} {thr : Int}
abbrev EnvR (t s r c : Nat) (thr b : Int) (n : Nd) : Env := [some (.ref t), some (.int (r : Nat)), some (.int (c : Nat)), some (.int thr), some (.ref s), some (.int b), some (ndD n)]
theorem wh_test (Z : Src P k t s m r c V own I) {bits : List Int} {S : St} {st : Store} (h : I bits S st) (n : Nd) (b : Int) :
    evC P.G (run P k) whTest (EnvR t s r c thr b n) st = .ok (!decide (n ∈ S.C) && decide (b < thr)) st := by
  obtain ⟨p, _, e1, e2, _⟩ := Z.fc h
  have q : isIn (ndD n) (.ref p) st = some (decide (n ∈ S.C)) := by
    rw [isIn_dct e2 (ndD_key n), kvC_get]
    by_cases hn : n ∈ S.C <;> simp [hn]
  unfold whTest
  by_cases hn : n ∈ S.C
  · simp [EVa, place, List.map_cons, List.map_nil, List.cons_append, List.nil_append, Nat.reduceSub, List.replicate_succ, List.replicate_zero, List.getElem?_cons_zero, List.getElem?_cons_succ, Option.join_some, e1, cmpop, q, hn, R.asB, tru]
  · by_cases hb : b < thr <;> simp [EVa, place, List.map_cons, List.map_nil, List.cons_append, List.nil_append, Nat.reduceSub, List.replicate_succ, List.replicate_zero, List.getElem?_cons_zero, List.getElem?_cons_succ, Option.join_some, e1, cmpop, q, hn, R.asB, tru, hb, ordI]
theorem wh_run (Z : Src P k t s m r c V own I) {S : St} {n : Nd} (hn : n ∈ pth m r c) (hC : n ∉ S.C) (hlC : S.C.length < 1000000) (h30 : thr ≤ 30) {st₀ : Store} : ∀ (f N : Nat) (bits : List Int) (b : Int) (st : Store), I bits S st → bits.length + f < 1000000 → 0 ≤ b → b ≤ 30 → thr - b < f → f + 2 ≤ N → st.length = st₀.length →
    ∃ st', whlLoop (evC P.G (run P k) whTest) (exs P.G (run P k) whBody) (EnvR t s r c thr b n) st₀ N (EnvR t s r c thr b n) st = .ok (.nx, EnvR t s r c thr (wl (V n) thr f bits b).2.1 n) st' ∧
      I (wl (V n) thr f bits b).1 ⟨S.B, if (wl (V n) thr f bits b).2.2 then cPut S.C n else S.C⟩ st' ∧ Kp own st st' := by
  -- the mask is made by names alone
  have gen : ∀ (b0 : Int) (f N : Nat) (bits : List Int) (b : Int) (st : Store), I bits S st → bits.length + f < 1000000 → 0 ≤ b → b ≤ 30 → thr - b < f → f + 2 ≤ N → st.length = st₀.length →
    ∃ st', whlLoop (evC P.G (run P k) whTest) (exs P.G (run P k) whBody) (EnvR t s r c thr b0 n) st₀ N (EnvR t s r c thr b n) st = .ok (.nx, EnvR t s r c thr (wl (V n) thr f bits b).2.1 n) st' ∧
      I (wl (V n) thr f bits b).1 ⟨S.B, if (wl (V n) thr f bits b).2.2 then cPut S.C n else S.C⟩ st' ∧ Kp own st st' := by
    intro b0 f
    induction f with
    | zero =>
      intro N bits b st h _ h0 h1 hf hN hl
      obtain ⟨N, rfl⟩ : ∃ M, N = M + 1 := ⟨N - 1, by omega⟩
      refine ⟨st, ?_, h, .refl _ _⟩
      exact whl_false (by rw [wh_test Z h]; simp; omega)
    | succ f ih =>
      intro N bits b st h hL h0 h1 hf hN hl
      obtain ⟨N, rfl⟩ : ∃ M, N = M + 1 := ⟨N - 1, by omega⟩
      by_cases hb : b < thr
      · have ht : evC P.G (run P k) whTest (EnvR t s r c thr b n) st = .ok true st := by rw [wh_test Z h]; simp [hC, hb]
        obtain ⟨g, s1, e1, e2, e3, e4⟩ := Z.bit n b h (by omega) hn h0 h1
        by_cases hv : V n bits b = 1
        · obtain ⟨p, p0, p1, p2, p3⟩ := Z.fc e3
          have bd : exs P.G (run P k) whBody (EnvR t s r c thr b n) st = .ok (.nx, EnvR t s r c thr b n) (s1.set p (.dct true (kvC (cPut S.C n)))) := by
            unfold whBody
            rw [exs_one]
            have hz : (kvC S.C).length < 16777216 := by unfold kvC; rw [List.length_map]; omega
            simp [EVa, place, List.map_cons, List.map_nil, List.cons_append, List.nil_append, Nat.reduceSub, List.replicate_succ, List.replicate_zero, List.getElem?_cons_zero, List.getElem?_cons_succ, Option.join_some, e1, e2, hv, R.asB, tru, cmp_eq, eqD]
            rw [exs_one]
            simp [EVa, place, List.map_cons, List.map_nil, List.cons_append, List.nil_append, Nat.reduceSub, List.replicate_succ, List.replicate_zero, List.getElem?_cons_zero, List.getElem?_cons_succ, Option.join_some, p1, setAt_dct p2 (ndD_key n) hz, kvC_put, exs_nil]
          obtain ⟨N, rfl⟩ : ∃ M, N = M + 1 := ⟨N - 1, by omega⟩
          have I2 := p3 n
          have K2 : Kp own st (s1.set p (.dct true (kvC (cPut S.C n)))) := e4.trans (.set p0)
          have w : wl (V n) thr (f + 1) bits b = (bits ++ [V n bits b], b, true) := by
            rw [wl, if_pos hb, if_pos hv]
          refine ⟨_, ?_, ?_, K2⟩
          · rw [whl_true ht bd, cutE_eq (K2.len.trans hl), show mask (EnvR t s r c thr b0 n) (EnvR t s r c thr b n) = EnvR t s r c thr b n from rfl, w]
            exact whl_false (by rw [wh_test Z I2]; simp [mem_cPut])
          · rw [w]
            exact I2
        · have bd : exs P.G (run P k) whBody (EnvR t s r c thr b n) st = .ok (.nx, EnvR t s r c thr (b + 1) n) s1 := by
            unfold whBody
            rw [exs_one]
            simp [EVa, place, List.map_cons, List.map_nil, List.cons_append, List.nil_append, Nat.reduceSub, List.replicate_succ, List.replicate_zero, List.getElem?_cons_zero, List.getElem?_cons_succ, Option.join_some, e1, e2, hv, R.asB, tru, cmp_eq, eqD]
            rw [exs_one]
            simp [EVa, place, List.map_cons, List.map_nil, List.cons_append, List.nil_append, Nat.reduceSub, List.replicate_succ, List.replicate_zero, List.getElem?_cons_zero, List.getElem?_cons_succ, Option.join_some, ar_add, exs_nil]
          have w : wl (V n) thr (f + 1) bits b = wl (V n) thr f (bits ++ [V n bits b]) (b + 1) := by
            conv => lhs; unfold wl
            rw [if_pos hb, if_neg hv]
          obtain ⟨s2, q1, q2, q3⟩ := ih N (bits ++ [V n bits b]) (b + 1) s1 e3 (by simp; omega) (by omega) (by omega) (by omega) (by omega) (e4.len.trans hl)
          refine ⟨s2, ?_, by rw [w]; exact q2, e4.trans q3⟩
          rw [whl_true ht bd, cutE_eq (e4.len.trans hl), show mask (EnvR t s r c thr b0 n) (EnvR t s r c thr (b + 1) n) = EnvR t s r c thr (b + 1) n from rfl, w]
          exact q1
      · have w : wl (V n) thr (f + 1) bits b = (bits, b, false) := by rw [wl, if_neg hb]
        refine ⟨st, ?_, by rw [w]; exact h, .refl _ _⟩
        rw [w]
        exact whl_false (by rw [wh_test Z h]; simp; omega)
  exact fun f N bits b st => gen b f N bits b st
def body404 : Ss := match bd404 with
  | .cons _ (.cons (.for_ _ _ b) _) => b
  | _ => .nil
theorem bi_max2 (i j : Int) (st : Store) : builtin .max2 [.int i, .int j] st = .ok (.int (max i j)) st := by
  show R.ok (D.int (if j > i then j else i)) st = _
  congr 2
  omega
theorem getD_int (o : Option Int) : (o.map D.int).getD (.int 0) = .int (o.getD 0) := by cases o <;> rfl
theorem node404 (Z : Src P k t s m r c V own I) (h30 : thr ≤ 30) {x : Ws} {n : Nd} {st : Store} (h : I x.bits x.S st) (hn : n ∈ pth m r c) {q : Nat} (hS : StOk q x.S) (hq : q < 100000) (hb : 0 ≤ x.b ∧ x.b ≤ 30) (hl : x.bits.length < 900000) :
    ∃ st', exs P.G (run P k) body404 (EnvR t s r c thr x.b n) st = .ok (.nx, EnvR t s r c thr (nds V thr x n).b n) st' ∧ I (nds V thr x n).bits (nds V thr x n).S st' ∧ Kp own st st' := by
  obtain ⟨p, p0, p1, p2, _⟩ := Z.fb h
  obtain ⟨g, hg⟩ : ∃ g, g = (bGet x.S.B n).getD 0 := ⟨_, rfl⟩
  have gr := bGet_rng hS.b n
  rw [← hg] at gr
  have dg : dGet2 (.ref p) (ndD n) (.int 0) st = .ok (.int g) st := by
    rw [dget_dct p2 (ndD_key n), kvB_get, getD_int, hg]
  have fin : ∀ (B : Bs) (C : List Nd) (bits : List Int) (b : Int) (s1 : Store), B = x.S.B → I bits ⟨B, C⟩ s1 → ∃ s2, ex P.G (run P k) (.sti (.fld (.var 0) 24) (.var 6) (.var 5)) (EnvR t s r c thr b n) s1 = .ok (.nx, EnvR t s r c thr b n) s2 ∧ I bits ⟨bPut x.S.B n b, C⟩ s2 ∧ Kp own s1 s2 := by
    rintro B C bits b s1 rfl h1
    obtain ⟨p', q0, q1, q2, q3⟩ := Z.fb h1
    have hz : (kvB x.S.B).length < 16777216 := by unfold kvB; rw [List.length_map]; have := hS.lb; omega
    refine ⟨_, ?_, q3 n b, .set q0⟩
    simp [EVa, place, List.map_cons, List.map_nil, List.cons_append, List.nil_append, Nat.reduceSub, List.replicate_succ, List.replicate_zero, List.getElem?_cons_zero, List.getElem?_cons_succ, Option.join_some, q1, setAt_dct q2 (ndD_key n) hz, kvB_put]
  have hC : x.S.C.length < 1000000 := by have := hS.lc; omega
  have key : exs P.G (run P k) body404 (EnvR t s r c thr x.b n) st = (whlLoop (evC P.G (run P k) whTest) (exs P.G (run P k) whBody) (EnvR t s r c thr (max x.b g) n) st WF (EnvR t s r c thr (max x.b g) n) st).bind (nxt P.G (run P k) (.cons (.sti (.fld (.var 0) 24) (.var 6) (.var 5)) .nil)) := by
    unfold body404 bd404
    rw [exs_one]
    simp only [EVa, place, List.map_cons, List.map_nil, List.cons_append, List.nil_append, Nat.reduceSub, List.replicate_succ, List.replicate_zero, List.getElem?_cons_zero, List.getElem?_cons_succ, Option.join_some, p1, dctOf_dct p2, Option.isSome_some, R.grd_true, dg, R.bind_ok, bi_max2, List.set_cons_succ, List.set_cons_zero]
    rw [exs_one, ex_whlB, show (if g > x.b then g else x.b) = max x.b g by split <;> omega]
    rfl
  rw [key]
  by_cases hc : n ∈ x.S.C
  · have e : nds V thr x n = ⟨x.bits, ⟨bPut x.S.B n (max x.b g), x.S.C⟩, max x.b g⟩ := by
      unfold nds
      rw [if_pos hc, hg]
    obtain ⟨s2, a1, a2, a3⟩ := fin x.S.B x.S.C x.bits (max x.b g) st rfl h
    refine ⟨s2, ?_, by rw [e]; exact a2, a3⟩
    rw [show WF = (WF - 1) + 1 from rfl, whl_false (s := st) (by rw [wh_test Z h]; simp [hc]), R.bind_ok, nxt_nx, exs_one, a1, R.bind_ok, nxt_nx, e]
    simp [exs_nil]
  · obtain ⟨s1, a1, a2, a3⟩ := wh_run Z (S := x.S) hn hc hC h30 (st₀ := st) 40 WF x.bits (max x.b g) st h (by omega) (by omega) (by omega) (by omega) (by decide) rfl
    obtain ⟨s2, b1, b2, b3⟩ := fin x.S.B _ _ _ s1 rfl a2
    have e : nds V thr x n = ⟨(wl (V n) thr 40 x.bits (max x.b g)).1, ⟨bPut x.S.B n (wl (V n) thr 40 x.bits (max x.b g)).2.1, if (wl (V n) thr 40 x.bits (max x.b g)).2.2 then cPut x.S.C n else x.S.C⟩, (wl (V n) thr 40 x.bits (max x.b g)).2.1⟩ := by
      unfold nds
      rw [if_neg hc, hg]
    refine ⟨s2, ?_, by rw [e]; exact b2, a3.trans b3⟩
    rw [a1, R.bind_ok, nxt_nx, exs_one, b1, R.bind_ok, nxt_nx, e]
    simp [exs_nil]
theorem nodes404 (Z : Src P k t s m r c V own I) (h30 : thr ≤ 30) {L : List D} {p0 : Nat} (hp : p0 ∉ own) {st₀ : Store} : ∀ (ns : List Nd) (x : Ws) (q : Nat) (st : Store), (∀ n ∈ ns, n ∈ pth m r c) → I x.bits x.S st → st[p0]? = some (.lst L) → st.length = st₀.length → StOk q x.S → q + ns.length < 100000 → 0 ≤ x.b ∧ x.b ≤ 30 → x.bits.length + 40 * ns.length < 900000 →
    ∃ st', forLoop (exs P.G (run P k) body404) (.nm 6) [some (.ref t), some (.int (r : Nat)), some (.int (c : Nat)), some (.int thr), some (.ref s), some (.int 0), none] st₀ [(p0, .lst L)] (ns.map ndD) [some (.ref t), some (.int (r : Nat)), some (.int (c : Nat)), some (.int thr), some (.ref s), some (.int x.b), none] st =
      .ok (.nx, [some (.ref t), some (.int (r : Nat)), some (.int (c : Nat)), some (.int thr), some (.ref s), some (.int (ns.foldl (nds V thr) x).b), none]) st' ∧ I (ns.foldl (nds V thr) x).bits (ns.foldl (nds V thr) x).S st' ∧ Kp own st st'
  | [], x, q, st, _, h, hw, _, _, _, _, _ => ⟨st, by rw [List.map_nil, for_nil]; simp [watOk, hw, O.beq_refl], h, .refl _ _⟩
  | n :: ns, x, q, st, hns, h, hw, hl, hS, hq, hb, hL => by
    simp only [List.length_cons] at hq hL
    obtain ⟨s1, a1, a2, a3⟩ := node404 Z h30 h (hns n List.mem_cons_self) hS (by omega) hb (by omega)
    have S1 := hS.nds (V := V) h30 hb n
    have hw1 : s1[p0]? = some (.lst L) := (a3.out p0 hp).trans hw
    obtain ⟨s2, b1, b2, b3⟩ := nodes404 Z h30 hp ns (nds V thr x n) (q + 1) s1 (fun n' hn' => hns n' (List.mem_cons_of_mem _ hn')) a2 hw1 (a3.len.trans hl) S1.1 (by omega) S1.2 (by have := nds_len (V := V) (thr := thr) x n; omega)
    refine ⟨s2, ?_, b2, a3.trans b3⟩
    rw [List.map_cons, for_cons, show watOk [(p0, O.lst L)] st = true by simp [watOk, hw, O.beq_refl], R.grd_true, asg_nm]
    show R.bind (exs P.G (run P k) body404 (EnvR t s r c thr x.b n) st) _ = _
    rw [a1, R.bind_ok, fnx_nx, cutE_eq (a3.len.trans hl)]
    exact b1
theorem run404 (h404 : P.defs.lookup 404 = some ⟨5, 7, bd404⟩) (Z : Src P k t s m r c V own I) (h0 : 0 ≤ thr) (h30 : thr ≤ 30) {bits : List Int} {S : St} {st : Store} (h : I bits S st) {q : Nat} (hS : StOk q S) (hq : q + (m + 1) < 100000) (hl : bits.length + 40 * (m + 1) < 900000) (ho : ∀ i ∈ own, i < st.length) :
    ∃ st', run P (k + 1) 404 [.ref t, .int (r : Nat), .int (c : Nat), .int thr, .ref s] st = .ok .non st' ∧ I (qry V thr m r c bits S).bits (qry V thr m r c bits S).S st' ∧ Kw own st st' := by
  obtain ⟨f, e1, e2⟩ := Z.path h
  have hL : I bits S (st ++ [.lst ((pth m r c).map ndD)]) := Z.loc h fun i hi => List.getElem?_append_left (ho i hi)
  obtain ⟨s1, a1, a2, a3⟩ := nodes404 Z h30 (L := (pth m r c).map ndD) (p0 := st.length) (fun z => Nat.lt_irrefl _ (ho _ z)) (st₀ := st ++ [.lst ((pth m r c).map ndD)]) (pth m r c) ⟨bits, S, 0⟩ q _ (fun _ hn => hn) hL (by simp) rfl hS (by rw [pth_len]; exact hq) ⟨by show (0 : Int) ≤ 0; omega, by show (0 : Int) ≤ 30; omega⟩ (by rw [pth_len]; exact hl)
  have K1 : Kw own st s1 := (Kw.app own st _).trans a3.w
  obtain ⟨s2, g1, g2, g3⟩ := K1.gc (d := .non) (fun _ z => D.noConfusion z)
  refine ⟨s2, ?_, Z.loc a2 fun i hi => g3 i (ho i hi), g2⟩
  rw [run_eq h404]
  simp only [List.length_cons, List.length_nil, List.map_cons, List.map_nil, List.cons_append, List.nil_append, Nat.reduceSub, List.replicate_succ, List.replicate_zero, Nat.reduceAdd, beq_self_eq_true, R.grd_true]
  unfold bd404
  rw [exs_one]
  simp [EVa, place, List.map_cons, List.map_nil, List.cons_append, List.nil_append, Nat.reduceSub, List.replicate_succ, List.replicate_zero, List.getElem?_cons_zero, List.getElem?_cons_succ, Option.join_some]
  rw [exs_one, ex_forB]
  unfold body404 bd404 at a1
  simp only [EVa, place, List.map_cons, List.map_nil, List.cons_append, List.nil_append, Nat.reduceSub, List.replicate_succ, List.replicate_zero, List.getElem?_cons_zero, List.getElem?_cons_succ, Option.join_some, e1, e2, R.bind_ok, wkSeq_lst (show (st ++ [O.lst ((pth m r c).map ndD)])[st.length]? = some (.lst ((pth m r c).map ndD)) by simp), a1, nxt_nx, exs_nil, fin_nx]
  exact g1
end
end Tw
end Nz
namespace Nz
namespace Tw
open Tl
/-- the defs and tables of tag trees -/
structure TtP (P : Prog) : Prop where
  h0 : P.defs.lookup 0 = some ⟨1, 1, bd0⟩
  h1 : P.defs.lookup 1 = some ⟨3, 3, bd1⟩
  h2 : P.defs.lookup 2 = some ⟨3, 3, bd2⟩
  h67 : P.defs.lookup 67 = some ⟨2, 3, bd67⟩
  h68 : P.defs.lookup 68 = some ⟨1, 1, bd68⟩
  h390 : P.defs.lookup 390 = some ⟨1, 8, bd390⟩
  h391 : P.defs.lookup 391 = some ⟨1, 2, bd391⟩
  h398 : P.defs.lookup 398 = some ⟨1, 2, bd398⟩
  h401 : P.defs.lookup 401 = some ⟨3, 3, bd401⟩
  h402 : P.defs.lookup 402 = some ⟨4, 4, bd402⟩
  h403 : P.defs.lookup 403 = some ⟨3, 4, bd403⟩
  h404 : P.defs.lookup 404 = some ⟨5, 7, bd404⟩
structure TwP (P : Prog) : Prop extends TtP P where
  h389 : P.defs.lookup 389 = some ⟨1, 3, bd389⟩
  h410 : P.defs.lookup 410 = some ⟨2, 5, bd410⟩
  h411 : P.defs.lookup 411 = some ⟨3, 4, bd411⟩
  h412 : P.defs.lookup 412 = some ⟨4, 4, bd412⟩
  m22 : atOf P.G.meth 22 19 = some 404
  m24 : atOf P.G.meth 24 19 = some 402
  m25 : atOf P.G.meth 25 19 = some 403
  m31 : atOf P.G.meth 31 19 = some 411
  m55 : atOf P.G.meth 55 19 = some 412
  i19 : P.G.init[19]? = some (some 410)
abbrev wf (rs : List (List Int)) (w b c q : Nat) : List (Nat × D) := [(22, .tup [.int (rs.length : Nat), .int (w : Nat)]), (23, .int (dep rs.length w : Nat)), (24, .ref b), (25, .ref c), (26, .tup (lvs rs w (dep rs.length w + 1))), (27, .ref q)]
def Vw (rs : List (List Int)) (w : Nat) : Nd → List Int → Int → Int := fun n _ b => if val (Lv rs w n.1) n.2.1 n.2.2 = some b then 1 else 0
/-- a writer while it is asked -/
structure WrI (rs : List (List Int)) (w t b c q : Nat) (bits : List Int) (S : St) (st : Store) : Prop where
  o : st[t]? = some (.ins 19 (wf rs w b c q))
  b : st[b]? = some (.dct true (kvB S.B))
  c : st[c]? = some (.dct true (kvC S.C))
  q : st[q]? = some (.lst (bits.map .int))
/-- .. between -/
structure WrA (rs : List (List Int)) (w t b c : Nat) (S : St) (st : Store) : Prop where
  o : ∃ q, st[t]? = some (.ins 19 (wf rs w b c q))
  b : st[b]? = some (.dct true (kvB S.B))
  c : st[c]? = some (.dct true (kvC S.C))
theorem WrI.a {rs : List (List Int)} {w t b c q : Nat} {bits : List Int} {S : St} {st : Store} (h : WrI rs w t b c q bits S st) : WrA rs w t b c S st := ⟨⟨q, h.o⟩, h.b, h.c⟩
theorem WrA.at {rs : List (List Int)} {w t b c : Nat} {S : St} {st st' : Store} (h : WrA rs w t b c S st) (k : ∀ i ∈ [t, b, c], st'[i]? = st[i]?) : WrA rs w t b c S st' := by
  obtain ⟨⟨q, h1⟩, h2, h3⟩ := h
  exact ⟨⟨q, (k t (by simp)).trans h1⟩, (k b (by simp)).trans h2, (k c (by simp)).trans h3⟩
theorem gc_len {st s : Store} {d : D} (hd : ∀ l, d ≠ .ref l) (h : s.length = st.length) : gc st (.ok d s) = .ok d s := by
  rcases gc_rel (st := st) (s := s) hd with e | e
  · exact e
  · rw [e, ← h, List.take_length]
theorem nd_mem {m r c : Nat} {n : Nd} (h : n ∈ pth m r c) : n.1 ≤ m ∧ n.2.1 = r / 2 ^ n.1 ∧ n.2.2 = c / 2 ^ n.1 := by
  unfold pth at h
  obtain ⟨l, hl, rfl⟩ := List.mem_map.mp h
  rw [List.mem_reverse, List.mem_range] at hl
  exact ⟨by omega, rfl, rfl⟩
theorem val_get {rs : List (List Int)} {i j : Nat} {v : Int} (h : val rs i j = some v) : ∃ row, getAt (rowsD rs) (i : Int) = some (rowD row) ∧ getAt (row.map D.int) (j : Int) = some (.int v) := by
  unfold val at h
  obtain ⟨row, h1, h2⟩ := Option.bind_eq_some_iff.mp h
  exact ⟨row, getAt_nat (by rw [List.getElem?_map, h1]; rfl), getAt_nat (by rw [List.getElem?_map, h2]; rfl)⟩
theorem biInt_t (st : Store) : biInt (.bl true) st = .ok (.int 1) st := rfl
theorem biInt_f (st : Store) : biInt (.bl false) st = .ok (.int 0) st := rfl
section
variable {P : Prog} {rs : List (List Int)} {w t b c : Nat}
theorem path403 (h403 : P.defs.lookup 403 = some ⟨3, 4, bd403⟩) (k m r cc : Nat) (hm : m ≤ 100) {st : Store} (hf : field (.ref t) 23 st = .ok (.int (m : Nat)) st) :
    run P (k + 1) 403 [.ref t, .int (r : Nat), .int (cc : Nat)] st = .ok (.ref st.length) (st ++ [.lst ((pth m r cc).map ndD)]) := by
  have hr : rngOk ((m : Int) + 1) = true := rng_ok (by omega) (by omega)
  have tn : ((m : Int) + 1 - 0).toNat = m + 1 := by omega
  have cm : ev P.G (run P k) (.comp [3] (.tup (.cons (.var 3) (.cons (.bin .shr (.var 1) (.var 3)) (.cons (.bin .shr (.var 2) (.var 3)) .nil)))) (.nm 3) (.rrng1 (.bin .add (.fld (.var 0) 23) (.con (.int (1))))) .none) [some (.ref t), some (.int (r : Nat)), some (.int (cc : Nat)), none] st = newL (((List.range (m + 1)).reverse.map fun l => ((l, r / 2 ^ l, cc / 2 ^ l) : Nd)).map ndD) st := by
    rw [comp_map (rs := (List.range (m + 1)).reverse) (wat := []) (s := st) (fun l : Nat => .int (l : Nat)) (fun l => ndD (l, r / 2 ^ l, cc / 2 ^ l)) (by
      rw [evi_rrng1]
      simp only [EVa, place, List.map_cons, List.map_nil, List.cons_append, List.nil_append, Nat.reduceSub, List.replicate_succ, List.replicate_zero, List.getElem?_cons_zero, List.getElem?_cons_succ, Option.join_some, hf, R.bind_ok, bin_int, ar_add, R.ofI_some, wkRng_int rng_0 hr, tn]
      unfold rangeL
      rw [List.map_reverse]
      simp) rfl (fun l hl => by
      have e1 : ((r : Nat) : Int) / 2 ^ ((l : Nat) : Int).toNat = ((r / 2 ^ l : Nat) : Int) := by simp
      have e2 : ((cc : Nat) : Int) / 2 ^ ((l : Nat) : Int).toNat = ((cc / 2 ^ l : Nat) : Int) := by simp
      simp only [stp, forget, asg_nm, evOc_none, R.bind_ok, EVa, place, List.map_cons, List.map_nil, List.cons_append, List.nil_append, Nat.reduceSub, List.replicate_succ, List.replicate_zero, List.getElem?_cons_zero, List.getElem?_cons_succ, Option.join_some, ar_shr (Int.natCast_nonneg l), e1, e2, R.ofI_some, List.set_cons_succ, List.set_cons_zero]
      rw [newT_ok' (by simp)]
      rfl)]
    rw [List.map_map]
    rfl
  have cl : D.cls st.length ((pth m r cc).map ndD) = true := by
    generalize pth m r cc = ns
    induction ns with
    | nil => rfl
    | cons n ns ih => rw [List.map_cons]; simp [D.cls, D.cl, ndD, ih]
  rw [run_eq h403]
  simp only [List.length_cons, List.length_nil, List.map_cons, List.map_nil, List.cons_append, List.nil_append, Nat.reduceSub, List.replicate_succ, List.replicate_zero, Nat.reduceAdd, beq_self_eq_true, R.grd_true]
  unfold bd403
  rw [exs_one]
  simp only [EVa, place, List.map_cons, List.map_nil, List.cons_append, List.nil_append, Nat.reduceSub, List.replicate_succ, List.replicate_zero, List.getElem?_cons_zero, List.getElem?_cons_succ, Option.join_some, cm]
  rw [newL_ok' (by simp; omega)]
  simp only [R.bind_ok, nxt_ret, fin_ret]
  exact gc_lst (u := 0) rfl cl
theorem bit411 (T : TwP P) (k m r cc q : Nat) (h : Rect rs w) (l0 : 0 < rs.length) (l8 : rs.length ≤ 8) (w0 : 0 < w) (w8 : w ≤ 8) (hr : r < rs.length) (hc : cc < w) {bits : List Int} {S : St} {st : Store} (I : WrI rs w t b c q bits S st) (hq : q ≠ t ∧ q ≠ b ∧ q ≠ c) (hl : bits.length < 1000000) {n : Nd} (hn : n ∈ pth (dep rs.length w) r cc) (v : Int) :
    run P (k + 1) 411 [.ref t, ndD n, .int v] st = .ok (.int (Vw rs w n bits v)) (st.set q (.lst ((bits ++ [Vw rs w n bits v]).map .int))) := by
  obtain ⟨n1, n2, n3⟩ := nd_mem hn
  have hi : n.2.1 < hN rs.length n.1 := by rw [n2]; exact hN_div hr n.1
  have hj : n.2.2 < hN w n.1 := by rw [n3]; exact hN_div hc n.1
  obtain ⟨_, hv⟩ := blk_ne h hi hj
  obtain ⟨u, hu⟩ : ∃ u, u = mn (blk rs n.1 n.2.1 n.2.2) := ⟨_, rfl⟩
  rw [← hu] at hv
  obtain ⟨row, g1, g2⟩ := val_get hv
  have g0 : getAt (lvs rs w (dep rs.length w + 1)) (n.1 : Int) = some (.tup (rowsD (Lv rs w n.1))) := getAt_nat (by
    unfold lvs
    rw [List.getElem?_map, List.getElem?_range (by omega)]; rfl)
  have f26 : field (.ref t) 26 st = .ok (.tup (lvs rs w (dep rs.length w + 1))) st := field_ins I.o rfl
  have f27 : field (.ref t) 27 st = .ok (.ref q) st := field_ins I.o rfl
  have eV : Vw rs w n bits v = if u = v then 1 else 0 := by unfold Vw; rw [hv]; simp
  have hz : (bits.map D.int).length < 16777216 := by rw [List.length_map]; omega
  obtain ⟨F, hF⟩ : ∃ F, F = lvs rs w (dep rs.length w + 1) := ⟨_, rfl⟩
  obtain ⟨G, hG⟩ : ∃ G, G = rowsD (Lv rs w n.1) := ⟨_, rfl⟩
  rw [← hF, ← hG] at g0
  rw [← hF] at f26
  rw [← hG] at g1
  have key : ∀ z : Int, (if u = v then 1 else 0) = z → exs P.G (run P k) bd411 [some (.ref t), some (ndD n), some (.int v), none] st = .ok (.ret (.int z), [some (.ref t), some (ndD n), some (.int v), some (.int z)]) (st.set q (.lst ((bits ++ [z]).map .int))) := fun z hz1 => by
    unfold bd411
    rw [exs_one]
    have ap : append (.ref q) (.int z) st = .ok .non (st.set q (.lst ((bits ++ [z]).map .int))) := by
      rw [app_lst I.q hz]
      simp
    by_cases e : u = v
    · rw [if_pos e] at hz1
      subst hz1
      simp [EVa, place, List.map_cons, List.map_nil, List.cons_append, List.nil_append, Nat.reduceSub, List.replicate_succ, List.replicate_zero, List.getElem?_cons_zero, List.getElem?_cons_succ, Option.join_some, ndD, f26, index_tup g0, index_tup g1, index_tup g2, e, biInt_t, biInt_f]
      rw [exs_one]
      simp [EVa, place, List.map_cons, List.map_nil, List.cons_append, List.nil_append, Nat.reduceSub, List.replicate_succ, List.replicate_zero, List.getElem?_cons_zero, List.getElem?_cons_succ, Option.join_some, f27, lstOf_lst I.q, ap]
      rw [exs_one]
      simp [EVa, place, List.map_cons, List.map_nil, List.cons_append, List.nil_append, Nat.reduceSub, List.replicate_succ, List.replicate_zero, List.getElem?_cons_zero, List.getElem?_cons_succ, Option.join_some]
    · rw [if_neg e] at hz1
      subst hz1
      simp [EVa, place, List.map_cons, List.map_nil, List.cons_append, List.nil_append, Nat.reduceSub, List.replicate_succ, List.replicate_zero, List.getElem?_cons_zero, List.getElem?_cons_succ, Option.join_some, ndD, f26, index_tup g0, index_tup g1, index_tup g2, e, biInt_t, biInt_f]
      rw [exs_one]
      simp [EVa, place, List.map_cons, List.map_nil, List.cons_append, List.nil_append, Nat.reduceSub, List.replicate_succ, List.replicate_zero, List.getElem?_cons_zero, List.getElem?_cons_succ, Option.join_some, f27, lstOf_lst I.q, ap]
      rw [exs_one]
      simp [EVa, place, List.map_cons, List.map_nil, List.cons_append, List.nil_append, Nat.reduceSub, List.replicate_succ, List.replicate_zero, List.getElem?_cons_zero, List.getElem?_cons_succ, Option.join_some]
  rw [run_eq T.h411]
  simp only [List.length_cons, List.length_nil, List.map_cons, List.map_nil, List.cons_append, List.nil_append, Nat.reduceSub, List.replicate_succ, List.replicate_zero, Nat.reduceAdd, beq_self_eq_true, R.grd_true]
  rw [key _ eV.symm, R.bind_ok, fin_ret, gc_len (fun _ z => D.noConfusion z) (by simp)]
end
end Tw
end Nz
namespace Nz
namespace Tw
open Tl
section
variable {P : Prog} {rs : List (List Int)} {w t b c : Nat}
theorem srcW (T : TwP P) (k r cc q : Nat) (h : Rect rs w) (l0 : 0 < rs.length) (l8 : rs.length ≤ 8) (w0 : 0 < w) (w8 : w ≤ 8) (hr : r < rs.length) (hc : cc < w) (nd : t ≠ b ∧ t ≠ c ∧ b ≠ c) (hq : q ≠ t ∧ q ≠ b ∧ q ≠ c) :
    Src P (k + 1) t t (dep rs.length w) r cc (Vw rs w) [t, b, c, q] (fun bits S st => WrI rs w t b c q bits S st) := by
  obtain ⟨q1, q2, q3⟩ := hq
  obtain ⟨n1, n2, n3⟩ := nd
  refine ⟨fun {bits S st} I => ⟨b, by simp, field_ins I.o rfl, I.b, fun n v => ?_⟩, fun {bits S st} I => ⟨c, by simp, field_ins I.o rfl, I.c, fun n => ?_⟩, fun {bits S st} n v I hl hn _ _ => ?_, fun {bits S st} I => ?_, fun {bits S st st'} I k => ?_, fun {bits S st} I i hi => ?_⟩
  · exact ⟨by rw [List.getElem?_set_ne n1.symm]; exact I.o, by rw [List.getElem?_set_self (List.getElem?_eq_some_iff.mp I.b).1], by rw [List.getElem?_set_ne n3]; exact I.c, by rw [List.getElem?_set_ne q2.symm]; exact I.q⟩
  · exact ⟨by rw [List.getElem?_set_ne n2.symm]; exact I.o, by rw [List.getElem?_set_ne n3.symm]; exact I.b, by rw [List.getElem?_set_self (List.getElem?_eq_some_iff.mp I.c).1], by rw [List.getElem?_set_ne q3.symm]; exact I.q⟩
  · refine ⟨411, _, by simp [methF, clsOf, I.o, T.m31], bit411 T k 0 r cc q h l0 l8 w0 w8 hr hc I ⟨q1, q2, q3⟩ hl hn v, ?_, .set (by simp)⟩
    exact ⟨by rw [List.getElem?_set_ne q1]; exact I.o, by rw [List.getElem?_set_ne q2]; exact I.b, by rw [List.getElem?_set_ne q3]; exact I.c, by rw [List.getElem?_set_self (List.getElem?_eq_some_iff.mp I.q).1]⟩
  · exact ⟨403, by simp [methF, clsOf, I.o, T.m25], path403 T.h403 k (dep rs.length w) r cc (by have := (dep_spec l0 l8 w0 w8).1; omega) (field_ins I.o rfl)⟩
  · exact ⟨(k t (by simp)).trans I.o, (k b (by simp)).trans I.b, (k c (by simp)).trans I.c, (k q (by simp)).trans I.q⟩
  · simp only [List.mem_cons, List.not_mem_nil, or_false] at hi
    rcases hi with rfl | rfl | rfl | rfl
    · exact (List.getElem?_eq_some_iff.mp I.o).1
    · exact (List.getElem?_eq_some_iff.mp I.b).1
    · exact (List.getElem?_eq_some_iff.mp I.c).1
    · exact (List.getElem?_eq_some_iff.mp I.q).1
theorem need402 (T : TtP P) (k r cc thr h : Nat) {st : Store} (hf : field (.ref t) 22 st = .ok (.tup [.int (h : Nat), .int (w : Nat)]) st) (hr : r < h) (hc : cc < w) (h30 : thr ≤ 30) :
    run P (k + 3) 402 [.ref t, .int (r : Nat), .int (cc : Nat), .int (thr : Nat)] st = .ok .non st := by
  have e1 := is_in_int T.h0 T.h1 k (r : Nat) 0 ((h : Int) - 1) st
  have e2 := is_in_int T.h0 T.h1 k (cc : Nat) 0 ((w : Int) - 1) st
  have e3 := is_in_int T.h0 T.h1 k (thr : Nat) 0 30 st
  rw [decide_eq_true (by omega)] at e1 e2 e3
  rw [run_eq T.h402]
  simp only [List.length_cons, List.length_nil, List.map_cons, List.map_nil, List.cons_append, List.nil_append, Nat.reduceSub, List.replicate_succ, List.replicate_zero, Nat.reduceAdd, beq_self_eq_true, R.grd_true]
  unfold bd402
  rw [exs_one]
  simp [EVa, place, List.map_cons, List.map_nil, List.cons_append, List.nil_append, Nat.reduceSub, List.replicate_succ, List.replicate_zero, List.getElem?_cons_zero, List.getElem?_cons_succ, Option.join_some, hf, e1, e2, exs_nil]
  rw [exs_one]
  simp [EVa, place, List.map_cons, List.map_nil, List.cons_append, List.nil_append, Nat.reduceSub, List.replicate_succ, List.replicate_zero, List.getElem?_cons_zero, List.getElem?_cons_succ, Option.join_some, e3, exs_nil, gc_id (st := st) (d := .non) rfl]
/-- what a query answers -/
def ans (rs : List (List Int)) (w thr r cc : Nat) (S : St) : Ws := qry (Vw rs w) (thr : Nat) (dep rs.length w) r cc [] S
theorem ask412 (T : TwP P) (k r cc thr : Nat) (h : Rect rs w) (l0 : 0 < rs.length) (l8 : rs.length ≤ 8) (w0 : 0 < w) (w8 : w ≤ 8) (hr : r < rs.length) (hc : cc < w) (h30 : thr ≤ 30) (nd : t ≠ b ∧ t ≠ c ∧ b ≠ c) {S : St} {st : Store} (I : WrA rs w t b c S st) {q : Nat} (hS : StOk q S) (hq : q < 10000) :
    ∃ st', run P (k + 4) 412 [.ref t, .int (r : Nat), .int (cc : Nat), .int (thr : Nat)] st = .ok (.tup ((ans rs w thr r cc S).bits.map .int)) st' ∧ WrA rs w t b c (ans rs w thr r cc S).S st' ∧ Kw [t, b, c] st st' := by
  obtain ⟨q0, ho⟩ := I.o
  have ht := (List.getElem?_eq_some_iff.mp ho).1
  have hb := (List.getElem?_eq_some_iff.mp I.b).1
  have hcl := (List.getElem?_eq_some_iff.mp I.c).1
  have dp := (dep_spec l0 l8 w0 w8).1
  have e1 := need402 T.toTtP k r cc thr rs.length (st := st) (w := w) (field_ins ho rfl) hr hc h30
  obtain ⟨s1, hs1⟩ : ∃ s1, s1 = (st ++ [O.lst []]).set t (.ins 19 (wf rs w b c st.length)) := ⟨_, rfl⟩
  have sf : setField (.ref t) 27 (.ref st.length) (st ++ [.lst []]) = .ok .non s1 := by
    rw [hs1]
    simp [setField, List.getElem?_append_left ht, ho, putF]
  have I1 : WrI rs w t b c st.length [] S s1 := by
    rw [hs1]
    refine ⟨by rw [List.getElem?_set_self (by simp; omega)], ?_, ?_, ?_⟩
    · rw [List.getElem?_set_ne nd.1, List.getElem?_append_left hb]; exact I.b
    · rw [List.getElem?_set_ne nd.2.1, List.getElem?_append_left hcl]; exact I.c
    · rw [List.getElem?_set_ne (by omega)]; simp
  have K1 : Kw [t, b, c, st.length] st s1 := by
    rw [hs1]
    exact (Kw.app _ st _).trans (Kp.set (by simp)).w
  have Z := srcW T (k + 1) r cc st.length h l0 l8 w0 w8 hr hc nd ⟨by omega, by omega, by omega⟩
  have l1 : s1.length = st.length + 1 := by rw [hs1]; simp
  obtain ⟨s2, a1, a2, a3⟩ := run404 T.h404 Z (thr := (thr : Nat)) (by omega) (by omega) I1 hS (by omega) (by simp; omega) (fun i hi => Z.lt I1 i hi)
  change run P (k + 3) 404 _ _ = _ at a1
  have K2 := K1.trans a3
  have K3 : Kw [t, b, c] st s2 := ⟨K2.len, fun i h1 h2 => K2.out i h1 (by
    simp only [List.mem_cons, List.not_mem_nil, or_false] at h2 ⊢
    omega)⟩
  obtain ⟨s3, g1, g2, g3⟩ := K3.gc (d := .tup ((ans rs w thr r cc S).bits.map .int)) (fun _ z => D.noConfusion z)
  refine ⟨s3, ?_, a2.a.at fun i hi => g3 i ?_, g2⟩
  · rw [run_eq T.h412]
    simp only [List.length_cons, List.length_nil, List.map_cons, List.map_nil, List.cons_append, List.nil_append, Nat.reduceSub, List.replicate_succ, List.replicate_zero, Nat.reduceAdd, beq_self_eq_true, R.grd_true]
    have m1 : methF P.G.meth 24 (.ref t) st = some 402 := by simp [methF, clsOf, ho, T.m24]
    have m2 : methF P.G.meth 22 (.ref t) s1 = some 404 := by simp [methF, clsOf, I1.o, T.m22]
    have lb := fold_len (V := Vw rs w) (thr := (thr : Nat)) (pth (dep rs.length w) r cc) ⟨[], S, 0⟩
    rw [pth_len] at lb
    have mk : biMkt (.ref st.length) s2 = .ok (.tup ((ans rs w thr r cc S).bits.map .int)) s2 := by
      rw [mkt_seq (ds := (ans rs w thr r cc S).bits.map .int) (by simp only [seqOf, a2.q]; rfl), newT_ok' (by
        rw [List.length_map]
        show (qry _ _ _ _ _ _ _).bits.length ≤ _
        unfold qry
        simp only [List.length_nil] at lb
        omega)]
    unfold bd412
    rw [exs_one]
    simp [EVa, place, List.map_cons, List.map_nil, List.cons_append, List.nil_append, Nat.reduceSub, List.replicate_succ, List.replicate_zero, List.getElem?_cons_zero, List.getElem?_cons_succ, Option.join_some, m1, e1]
    rw [exs_one]
    simp [EVa, place, List.map_cons, List.map_nil, List.cons_append, List.nil_append, Nat.reduceSub, List.replicate_succ, List.replicate_zero, List.getElem?_cons_zero, List.getElem?_cons_succ, Option.join_some, sf]
    rw [exs_one]
    simp [EVa, place, List.map_cons, List.map_nil, List.cons_append, List.nil_append, Nat.reduceSub, List.replicate_succ, List.replicate_zero, List.getElem?_cons_zero, List.getElem?_cons_succ, Option.join_some, m2, a1]
    rw [exs_one]
    simp [EVa, place, List.map_cons, List.map_nil, List.cons_append, List.nil_append, Nat.reduceSub, List.replicate_succ, List.replicate_zero, List.getElem?_cons_zero, List.getElem?_cons_succ, Option.join_some, field_ins a2.o (f := 27) rfl, mk]
    exact g1
  · simp only [List.mem_cons, List.not_mem_nil, or_false] at hi
    rcases hi with rfl | rfl | rfl
    · exact ht
    · exact hb
    · exact hcl
theorem shape398 (T : TtP P) (k h : Nat) (st : Store) (h0 : 0 < h) (h8 : h ≤ 8) (w0 : 0 < w) (w8 : w ≤ 8) : run P (k + 3) 398 [.tup [.int (h : Nat), .int (w : Nat)]] st = .ok .non st := by
  have e1 := is_list_tup T.h2 (k + 1) [.int (h : Nat), .int (w : Nat)] 2 2 st
  have c := comp_pure (G := P.G) (call := run P (k + 2)) (own := [1]) (e := .call 1 (.cons (.var 1) (.cons (.con (.int 1)) (.cons (.con (.int 8)) .nil)))) (t := .nm 1) (i := .seq (.var 0)) (c := .none) (ρ := [some (.tup [.int (h : Nat), .int (w : Nat)]), none]) (st := st) (s := st) (w := ⟨[.int (h : Nat), .int (w : Nat)], []⟩) (fun _ => some (.bl true)) (by simp [EVa, place, List.map_cons, List.map_nil, List.cons_append, List.nil_append, Nat.reduceSub, List.replicate_succ, List.replicate_zero, List.getElem?_cons_zero, List.getElem?_cons_succ, Option.join_some]) rfl (fun d hd => by
    have one : ∀ x : Nat, 0 < x → x ≤ 8 → run P (k + 2) 1 [.int (x : Nat), .int 1, .int 8] st = .ok (.bl true) st := fun x x0 x8 => by
      rw [is_in_int T.h0 T.h1 k (x : Nat) 1 8 st, decide_eq_true (by omega)]
    simp only [List.mem_cons, List.not_mem_nil, or_false] at hd
    rcases hd with rfl | rfl
    · simp [stp, forget, EVa, place, List.map_cons, List.map_nil, List.cons_append, List.nil_append, Nat.reduceSub, List.replicate_succ, List.replicate_zero, List.getElem?_cons_zero, List.getElem?_cons_succ, Option.join_some, one h h0 h8]
    · simp [stp, forget, EVa, place, List.map_cons, List.map_nil, List.cons_append, List.nil_append, Nat.reduceSub, List.replicate_succ, List.replicate_zero, List.getElem?_cons_zero, List.getElem?_cons_succ, Option.join_some, one w w0 w8])
  rw [show ([D.int (h : Nat), D.int (w : Nat)]).filterMap (fun _ => some (D.bl true)) = [.bl true, .bl true] from rfl, newL_ok' (by simp)] at c
  have ba : biAll (.ref st.length) (st ++ [.lst [.bl true, .bl true]]) = .ok (.bl true) (st ++ [.lst [.bl true, .bl true]]) := by simp [biAll, lstOf, boolsOf]
  simp only [List.length_cons, List.length_nil] at e1
  rw [decide_eq_true (by omega)] at e1
  rw [run_eq T.h398]
  simp only [List.length_cons, List.length_nil, List.map_cons, List.map_nil, List.cons_append, List.nil_append, Nat.reduceSub, List.replicate_succ, List.replicate_zero, Nat.reduceAdd, beq_self_eq_true, R.grd_true]
  unfold bd398
  rw [exs_one]
  simp [EVa, place, List.map_cons, List.map_nil, List.cons_append, List.nil_append, Nat.reduceSub, List.replicate_succ, List.replicate_zero, List.getElem?_cons_zero, List.getElem?_cons_succ, Option.join_some, e1, c, ba, exs_nil]
  exact gc_same [_] rfl
theorem reps_one {d : D} (k : Nat) : reps k [d] = List.replicate k d := by
  unfold reps
  induction k with
  | zero => rfl
  | succ k ih => rw [List.replicate_succ, List.flatten_cons, ih, List.replicate_succ]; rfl
theorem tree401 (T : TtP P) (k cl h : Nat) (st : Store) (h0 : 0 < h) (h8 : h ≤ 8) (w0 : 0 < w) (w8 : w ≤ 8) : run P (k + 4) 401 [.ref st.length, .int (h : Nat), .int (w : Nat)] (st ++ [.ins cl []]) =
    .ok .non (st ++ [.ins cl [(22, .tup [.int (h : Nat), .int (w : Nat)]), (23, .int (dep h w : Nat)), (24, .ref (st.length + 1)), (25, .ref (st.length + 2))], .dct true [], .dct true []]) := by
  have e1 := shape398 T k h (st ++ [.ins cl []]) h0 h8 w0 w8
  have R0 : Rect (List.replicate h (List.replicate w (0 : Int))) w := fun r hr => by rw [(List.mem_replicate.mp hr).2]; simp
  obtain ⟨u, hu⟩ : ∃ u : Store, u = st ++ [.ins cl [(22, .tup [.int (h : Nat), .int (w : Nat)])]] := ⟨_, rfl⟩
  have e2 := levels391 T.h68 T.h390 T.h391 k (List.replicate h (List.replicate w (0 : Int))) w u R0 (by simp; omega) w8 (by simp; omega) w0
  have eX : rowsD (List.replicate h (List.replicate w (0 : Int))) = List.replicate h (.tup (List.replicate w (.int 0))) := by simp
  rw [eX, List.length_replicate] at e2
  have ll := lvs_len (List.replicate h (List.replicate w (0 : Int))) w (dep h w + 1)
  obtain ⟨F, hF⟩ : ∃ F, F = lvs (List.replicate h (List.replicate w (0 : Int))) w (dep h w + 1) := ⟨_, rfl⟩
  rw [← hF] at e2 ll
  have s1 : setField (.ref st.length) 22 (.tup [.int (h : Nat), .int (w : Nat)]) (st ++ [.ins cl []]) = .ok .non u := by simp [setField, putF, hu]
  have s2 : setField (.ref st.length) 23 (.int (dep h w : Nat)) u = .ok .non (st ++ [.ins cl [(22, .tup [.int (h : Nat), .int (w : Nat)]), (23, .int (dep h w : Nat))]]) := by simp [setField, putF, hu]
  have s3 : setField (.ref st.length) 24 (.ref (st.length + 1)) (st ++ [.ins cl [(22, .tup [.int (h : Nat), .int (w : Nat)]), (23, .int (dep h w : Nat))], .dct true []]) = .ok .non (st ++ [.ins cl [(22, .tup [.int (h : Nat), .int (w : Nat)]), (23, .int (dep h w : Nat)), (24, .ref (st.length + 1))], .dct true []]) := by simp [setField, putF]
  have s4 : setField (.ref st.length) 25 (.ref (st.length + 2)) (st ++ [.ins cl [(22, .tup [.int (h : Nat), .int (w : Nat)]), (23, .int (dep h w : Nat)), (24, .ref (st.length + 1))], .dct true [], .dct true []]) = .ok .non (st ++ [.ins cl [(22, .tup [.int (h : Nat), .int (w : Nat)]), (23, .int (dep h w : Nat)), (24, .ref (st.length + 1)), (25, .ref (st.length + 2))], .dct true [], .dct true []]) := by simp [setField, putF]
  have b1 : binop .mul (.tup [.int 0]) (.int (w : Nat)) u = .ok (.tup (List.replicate w (.int 0))) u := by
    rw [bin_tmul (by omega) (by omega), Int.toNat_natCast, reps_one, newT_ok' (by simp; omega)]
  have b2 : binop .mul (.tup [.tup (List.replicate w (.int 0))]) (.int (h : Nat)) u = .ok (.tup (List.replicate h (.tup (List.replicate w (.int 0))))) u := by
    rw [bin_tmul (by omega) (by omega), Int.toNat_natCast, reps_one, newT_ok' (by simp; omega)]
  have hd : ((dep h w : Nat) : Int) + 1 - 1 = (dep h w : Nat) := by omega
  rw [run_eq T.h401]
  simp only [List.length_cons, List.length_nil, List.map_cons, List.map_nil, List.cons_append, List.nil_append, Nat.reduceSub, List.replicate_succ, List.replicate_zero, Nat.reduceAdd, beq_self_eq_true, R.grd_true]
  unfold bd401
  rw [exs_one]
  simp [EVa, place, List.map_cons, List.map_nil, List.cons_append, List.nil_append, Nat.reduceSub, List.replicate_succ, List.replicate_zero, List.getElem?_cons_zero, List.getElem?_cons_succ, Option.join_some, e1]
  rw [exs_one]
  simp [EVa, place, List.map_cons, List.map_nil, List.cons_append, List.nil_append, Nat.reduceSub, List.replicate_succ, List.replicate_zero, List.getElem?_cons_zero, List.getElem?_cons_succ, Option.join_some, s1]
  rw [exs_one]
  simp [EVa, place, List.map_cons, List.map_nil, List.cons_append, List.nil_append, Nat.reduceSub, List.replicate_succ, List.replicate_zero, List.getElem?_cons_zero, List.getElem?_cons_succ, Option.join_some, b1, b2, e2, ll, s2]
  rw [exs_one]
  simp [EVa, place, List.map_cons, List.map_nil, List.cons_append, List.nil_append, Nat.reduceSub, List.replicate_succ, List.replicate_zero, List.getElem?_cons_zero, List.getElem?_cons_succ, Option.join_some, s3]
  rw [exs_one]
  simp [EVa, place, List.map_cons, List.map_nil, List.cons_append, List.nil_append, Nat.reduceSub, List.replicate_succ, List.replicate_zero, List.getElem?_cons_zero, List.getElem?_cons_succ, Option.join_some, s4, exs_nil]
  unfold gc
  have q : pfx (st ++ [O.ins cl []]).length (st ++ [O.ins cl []]) (st ++ [.ins cl [(22, .tup [.int (h : Nat), .int (w : Nat)]), (23, .int (dep h w : Nat)), (24, .ref (st.length + 1)), (25, .ref (st.length + 2))], .dct true [], .dct true []]) = false := by
    rw [pfx_one]
    simp [O.cl, O.beq, D.cls, D.cl]
  simp only [List.length_append, List.length_cons, List.length_nil] at q ⊢
  simp only [q]
  rfl
/-- a new writer: its places are st.length and the three behind it -/
theorem mk410 (T : TwP P) (k : Nat) (h : Rect rs w) (l0 : 0 < rs.length) (l8 : rs.length ≤ 8) (w0 : 0 < w) (w8 : w ≤ 8) (hv : ∀ r ∈ rs, ∀ v ∈ r, (0 : Int) ≤ v ∧ v ≤ 30) (st : Store) :
    mkR P.G (run P (k + 5)) 19 [.tup (rowsD rs)] st = .ok (.ref st.length) (st ++ [.ins 19 (wf rs w (st.length + 1) (st.length + 2) (st.length + 3)), .dct true [], .dct true [], .lst []]) := by
  have e1 := need_values389 T.h0 T.h1 T.h2 T.h67 T.h68 T.h389 k rs w (st ++ [.ins 19 []]) h l8 w8 l0 w0 hv
  have e2 := shape68 T.h68 (k + 3) rs w (st ++ [.ins 19 []]) h
  have e3 := tree401 T.toTtP (w := w) k 19 rs.length st l0 l8 w0 w8
  obtain ⟨u, hu⟩ : ∃ u : Store, u = st ++ [.ins 19 [(22, .tup [.int (rs.length : Nat), .int (w : Nat)]), (23, .int (dep rs.length w : Nat)), (24, .ref (st.length + 1)), (25, .ref (st.length + 2))], .dct true [], .dct true []] := ⟨_, rfl⟩
  have e4 := levels391 T.h68 T.h390 T.h391 (k + 1) rs w u h l8 w8 l0 w0
  have ew : wid rs w = w := by unfold wid; rw [if_neg (by rintro rfl; simp at l0)]
  rw [ew] at e2
  have s1 : setField (.ref st.length) 26 (.tup (lvs rs w (dep rs.length w + 1))) u = .ok .non (st ++ [.ins 19 [(22, .tup [.int (rs.length : Nat), .int (w : Nat)]), (23, .int (dep rs.length w : Nat)), (24, .ref (st.length + 1)), (25, .ref (st.length + 2)), (26, .tup (lvs rs w (dep rs.length w + 1)))], .dct true [], .dct true []]) := by simp [setField, putF, hu]
  have s2 : setField (.ref st.length) 27 (.ref (st.length + 3)) (st ++ [.ins 19 [(22, .tup [.int (rs.length : Nat), .int (w : Nat)]), (23, .int (dep rs.length w : Nat)), (24, .ref (st.length + 1)), (25, .ref (st.length + 2)), (26, .tup (lvs rs w (dep rs.length w + 1)))], .dct true [], .dct true [], .lst []]) = .ok .non (st ++ [.ins 19 (wf rs w (st.length + 1) (st.length + 2) (st.length + 3)), .dct true [], .dct true [], .lst []]) := by simp [setField, putF]
  have c0 : clsOf (.ref st.length) (st ++ [.ins 19 []]) = some 19 := by simp [clsOf]
  have e : run P (k + 5) 410 [.ref st.length, .tup (rowsD rs)] (st ++ [.ins 19 []]) = .ok .non (st ++ [.ins 19 (wf rs w (st.length + 1) (st.length + 2) (st.length + 3)), .dct true [], .dct true [], .lst []]) := by
    rw [run_eq T.h410]
    simp only [List.length_cons, List.length_nil, List.map_cons, List.map_nil, List.cons_append, List.nil_append, Nat.reduceSub, List.replicate_succ, List.replicate_zero, Nat.reduceAdd, beq_self_eq_true, R.grd_true]
    unfold wf at s2 ⊢
    obtain ⟨X, hX⟩ : ∃ X, X = rowsD rs := ⟨_, rfl⟩
    obtain ⟨F, hF⟩ : ∃ F, F = lvs rs w (dep rs.length w + 1) := ⟨_, rfl⟩
    rw [← hX] at e1 e2 e4 ⊢
    rw [← hF] at e4 s1 s2 ⊢
    rw [← hu] at e3
    unfold bd410
    rw [exs_one]
    simp [EVa, place, List.map_cons, List.map_nil, List.cons_append, List.nil_append, Nat.reduceSub, List.replicate_succ, List.replicate_zero, List.getElem?_cons_zero, List.getElem?_cons_succ, Option.join_some, e1]
    rw [exs_one]
    simp [EVa, place, List.map_cons, List.map_nil, List.cons_append, List.nil_append, Nat.reduceSub, List.replicate_succ, List.replicate_zero, List.getElem?_cons_zero, List.getElem?_cons_succ, Option.join_some, e2]
    rw [exs_one]
    simp [EVa, place, List.map_cons, List.map_nil, List.cons_append, List.nil_append, Nat.reduceSub, List.replicate_succ, List.replicate_zero, List.getElem?_cons_zero, List.getElem?_cons_succ, Option.join_some, c0, e3]
    rw [exs_one]
    simp [EVa, place, List.map_cons, List.map_nil, List.cons_append, List.nil_append, Nat.reduceSub, List.replicate_succ, List.replicate_zero, List.getElem?_cons_zero, List.getElem?_cons_succ, Option.join_some, e4, s1]
    rw [exs_one]
    simp [EVa, place, List.map_cons, List.map_nil, List.cons_append, List.nil_append, Nat.reduceSub, List.replicate_succ, List.replicate_zero, List.getElem?_cons_zero, List.getElem?_cons_succ, Option.join_some, s2, exs_nil]
    unfold gc
    have q : pfx (st ++ [O.ins 19 []]).length (st ++ [O.ins 19 []]) (st ++ [.ins 19 [(22, .tup [.int (rs.length : Nat), .int (w : Nat)]), (23, .int (dep rs.length w : Nat)), (24, .ref (st.length + 1)), (25, .ref (st.length + 2)), (26, .tup F), (27, .ref (st.length + 3))], .dct true [], .dct true [], .lst []]) = false := by
      rw [pfx_one]
      simp [O.cl, O.beq, D.cls, D.cl]
    simp only [List.length_append, List.length_cons, List.length_nil] at q ⊢
    simp only [q]
    rfl
  simp only [mkR, T.i19, e, R.bind_ok]
end
end Tw
end Nz
namespace Nz
namespace Tw
open Tl
section
variable {P : Prog}
def lineG : Ss := match bd393 with
  | .cons _ (.cons _ (.cons (.for_ _ _ b) _)) => b
  | _ => .nil
theorem row_ofG {most : Nat} : ∀ {ys : List D} {w : Nat}, (∀ (j : Nat) y, ys[j]? = some y → ∃ r : List Int, y = rowD r ∧ r.length = w ∧ ∀ v ∈ r, (0 : Int) ≤ v ∧ v ≤ (most : Int)) → ∃ rs, ys = rowsD rs ∧ Rect rs w ∧ ∀ r ∈ rs, ∀ v ∈ r, (0 : Int) ≤ v ∧ v ≤ (most : Int)
  | [], w, _ => ⟨[], rfl, fun _ h => by simp at h, fun _ h => by simp at h⟩
  | y :: ys, w, h => by
    obtain ⟨r, rfl, h1, h2⟩ := h 0 y rfl
    obtain ⟨rs, rfl, h3, h4⟩ := row_ofG (most := most) (ys := ys) (w := w) fun j y hy => h (j + 1) y (by simpa using hy)
    exact ⟨r :: rs, rfl, fun q hq => by rcases List.mem_cons.mp hq with rfl | hq; exact h1; exact h3 q hq, fun q hq => by rcases List.mem_cons.mp hq with rfl | hq; exact h2; exact h4 q hq⟩
theorem line393G (Q : P.defs.lookup 10 = some ⟨2, 4, bd10⟩) (k : Nat) (zs : List Int) (rest : Store) (side most hi wi way base : Nat) (m30 : most ≤ 30) (w8 : wi ≤ 8) (b30 : base ≤ most) (i : D) (r : Row) (acc : List D) (ha : acc.length < 1000000) :
    ∃ (ρ2 : Env) (row : List Int) (r' : Row) (js : Store), exs P.G (run P (k + 1)) lineG [some (.ref 1), some (.int (side : Nat)), some (.int (most : Nat)), some (.int (hi : Nat)), some (.int (wi : Nat)), some (.int (way : Nat)), some (.int (base : Nat)), some (.ref (rest.length + 2)), some i, none, none] (SR zs r (rest ++ [.lst acc])) = .ok (.nx, ρ2) (SR zs r' (rest ++ [.lst (acc ++ [rowD row])] ++ js)) ∧
      mask [some (.ref 1), some (.int (side : Nat)), some (.int (most : Nat)), some (.int (hi : Nat)), some (.int (wi : Nat)), some (.int (way : Nat)), some (.int (base : Nat)), some (.ref (rest.length + 2)), none, none, none] ρ2 = [some (.ref 1), some (.int (side : Nat)), some (.int (most : Nat)), some (.int (hi : Nat)), some (.int (wi : Nat)), some (.int (way : Nat)), some (.int (base : Nat)), some (.ref (rest.length + 2)), none, none, none] ∧ row.length = wi ∧ ∀ v ∈ row, (0 : Int) ≤ v ∧ v ≤ (most : Int) := by
  have hrk : rngOk (wi : Int) = true := rng_ok (by omega) (by omega)
  have gen : ∀ (e : E) (ρ : Env) (Rr : Store) (r : Row), ρ[4]? = some (some (.int (wi : Nat))) → (∀ j : Nat, j < wi → ∀ r, ∃ (z : Int) (r' : Row), 0 ≤ z ∧ z ≤ (most : Int) ∧ ev P.G (run P (k + 1)) e ((forget ρ [10]).set 10 (some (.int (j : Nat)))) (SR zs r Rr) = .ok (.int z) (SR zs r' Rr)) →
      ∃ (row : List Int) (r' : Row), row.length = wi ∧ (∀ v ∈ row, (0 : Int) ≤ v ∧ v ≤ (most : Int)) ∧ ev P.G (run P (k + 1)) (.comp [10] e (.nm 10) (.rng1 (.var 4)) .none) ρ (SR zs r Rr) = .ok (.ref (Rr.length + 2)) (SR zs r' (Rr ++ [.lst (row.map .int)])) := fun e ρ Rr r h4 he => by
    obtain ⟨xs, r', x1, x2, x3, e6⟩ := comp_row (G := P.G) (call := run P (k + 1)) (own := [10]) (e := e) (t := .nm 10) (i := .rng1 (.var 4)) (ρ := ρ) (st := SR zs r Rr) (zs := zs) (rest := Rr) (r := r) (w := ⟨rangeL 0 wi, []⟩) (fun _ x => ∃ z, x = .int z ∧ 0 ≤ z ∧ z ≤ (most : Int)) (by
      simp [EVa, place, List.map_cons, List.map_nil, List.cons_append, List.nil_append, Nat.reduceSub, List.replicate_succ, List.replicate_zero, List.getElem?_cons_zero, List.getElem?_cons_succ, Option.join_some, h4, rng_0, hrk]) (fun r => rfl) (by rw [rangeL_len]; omega) (fun j d hj r => by
      obtain ⟨hj1, rfl⟩ := rangeL_nat hj
      obtain ⟨z, r', z0, z1, ez⟩ := he j hj1 r
      exact ⟨.int z, r', [], ⟨z, rfl, z0, z1⟩, rfl, by rw [List.append_nil]; simp only [stp, asg_nm, evOc_none, R.bind_ok, ez]⟩)
    obtain ⟨row, hxs, hrow⟩ := int_list (n := 0) (W := fun _ _ => True) x1
    rw [rangeL_len] at x2
    subst hxs
    exact ⟨row, r', by simpa using x2, hrow, e6⟩
  obtain ⟨ρ1, hρ1⟩ : ∃ ρ : Env, ρ = [some (.ref 1), some (.int (side : Nat)), some (.int (most : Nat)), some (.int (hi : Nat)), some (.int (wi : Nat)), some (.int (way : Nat)), some (.int (base : Nat)), some (.ref (rest.length + 2)), some i, none, none] := ⟨_, rfl⟩
  obtain ⟨row1, r1, a1, a2, a3⟩ := gen (.ite (.val (.cmp .eq (.var 5) (.con (.int (0))))) (.var 6) (.bi .min2 (.cons (.bin .add (.var 6) (.call 10 (.cons (.var 0) (.cons (.con (.int (3))) .nil)))) (.cons (.var 2) .nil)))) ρ1 (rest ++ [.lst acc]) r (by rw [hρ1]; rfl) (fun j hj r => by
    rw [hρ1]
    by_cases c : way = 0
    · subst c
      exact ⟨base, r, by omega, by omega, by simp [forget, EVa, place, List.map_cons, List.map_nil, List.cons_append, List.nil_append, Nat.reduceSub, List.replicate_succ, List.replicate_zero, List.getElem?_cons_zero, List.getElem?_cons_succ, Option.join_some]⟩
    · obtain ⟨z, r', hz, ez⟩ := tkM Q k zs r (rest ++ [.lst acc]) 3 (by omega) (by omega)
      have c2 : ¬ ((way : Int) = 0) := by omega
      by_cases q : (most : Int) < (base : Int) + (z : Int)
      · exact ⟨(most : Int), r', by omega, by omega, by simp [forget, EVa, place, List.map_cons, List.map_nil, List.cons_append, List.nil_append, Nat.reduceSub, List.replicate_succ, List.replicate_zero, List.getElem?_cons_zero, List.getElem?_cons_succ, Option.join_some, c, c2, ez, q]⟩
      · exact ⟨(base : Int) + (z : Int), r', by omega, by omega, by simp [forget, EVa, place, List.map_cons, List.map_nil, List.cons_append, List.nil_append, Nat.reduceSub, List.replicate_succ, List.replicate_zero, List.getElem?_cons_zero, List.getElem?_cons_succ, Option.join_some, c, c2, ez, q]⟩)
  rw [hρ1] at a3
  obtain ⟨X1, hX1⟩ : ∃ X, X = row1.map D.int := ⟨_, rfl⟩
  have lX1 : X1.length ≤ 10 := by rw [hX1, List.length_map]; omega
  rw [← hX1] at a3
  have lf : ∀ (r : Row) (js : Store), lstOf (.ref (rest.length + 2)) (SR zs r (rest ++ .lst acc :: js)) = some acc := fun r js => lstOf_lst (by simp [S0])
  have ap : ∀ (y : D) (r : Row) (js : Store), append (.ref (rest.length + 2)) y (SR zs r (rest ++ .lst acc :: js)) = .ok .non (SR zs r (rest ++ .lst (acc ++ [y]) :: js)) := fun y r js => by
    rw [app_lst (ds := acc) (by simp [S0]) (by omega)]
    simp [S0]
  have mk : ∀ (X : List D) (r : Row) (js : Store) (u : Nat), X.length ≤ 10 → (SR zs r (rest ++ .lst acc :: js))[u]? = some (.lst X) → biMkt (.ref u) (SR zs r (rest ++ .lst acc :: js)) = .ok (.tup X) (SR zs r (rest ++ .lst acc :: js)) := fun X r js u hX hu => by
    rw [mkt_seq (ds := X) (by simp only [seqOf, hu]), newT_ok' (by omega)]
  by_cases hway : 1 < way
  · obtain ⟨ρ2, hρ2⟩ : ∃ ρ : Env, ρ = [some (.ref 1), some (.int (side : Nat)), some (.int (most : Nat)), some (.int (hi : Nat)), some (.int (wi : Nat)), some (.int (way : Nat)), some (.int (base : Nat)), some (.ref (rest.length + 2)), some i, some (.ref (rest.length + 3)), none] := ⟨_, rfl⟩
    obtain ⟨row2, r2, b1, b2, b3⟩ := gen (.call 10 (.cons (.var 0) (.cons (.bin .add (.var 2) (.con (.int (1)))) .nil))) ρ2 (rest ++ [.lst acc, .lst X1]) r1 (by rw [hρ2]; rfl) (fun j hj r => by
      rw [hρ2]
      obtain ⟨z, r', hz, ez⟩ := tkM Q k zs r (rest ++ [.lst acc, .lst X1]) ((most : Int) + 1) (by omega) (by omega)
      exact ⟨z, r', by omega, by omega, by simp [forget, EVa, place, List.map_cons, List.map_nil, List.cons_append, List.nil_append, Nat.reduceSub, List.replicate_succ, List.replicate_zero, List.getElem?_cons_zero, List.getElem?_cons_succ, Option.join_some, ez]⟩)
    rw [hρ2] at b3
    obtain ⟨X2, hX2⟩ : ∃ X, X = row2.map D.int := ⟨_, rfl⟩
    have lX2 : X2.length ≤ 10 := by rw [hX2, List.length_map]; omega
    rw [← hX2] at b3
    have m2 := mk X2 r2 [.lst X1, .lst X2] (rest.length + 4) lX2 (by simp [S0])
    have p2 := ap (.tup X2) r2 [.lst X1, .lst X2]
    have l2 := lf r2 [.lst X1, .lst X2]
    have hw : (1 : Int) < (way : Int) := by omega
    refine ⟨[some (.ref 1), some (.int (side : Nat)), some (.int (most : Nat)), some (.int (hi : Nat)), some (.int (wi : Nat)), some (.int (way : Nat)), some (.int (base : Nat)), some (.ref (rest.length + 2)), some i, some (.ref (rest.length + 4)), none], row2, r2, [.lst X1, .lst X2], ?_, rfl, b1, b2⟩
    rw [show rowD row2 = .tup X2 by rw [hX2]]
    simp only [SR, S0, List.append_assoc, List.cons_append, List.nil_append, List.length_append, List.length_cons, List.length_nil, Nat.reduceAdd, Nat.add_assoc] at a3 b3 m2 p2 l2 ⊢
    unfold lineG bd393
    rw [exs_one, ex_set, a3]
    simp [EVa, place, List.map_cons, List.map_nil, List.cons_append, List.nil_append, Nat.reduceSub, List.replicate_succ, List.replicate_zero, List.getElem?_cons_zero, List.getElem?_cons_succ, Option.join_some]
    have E2 : exs P.G (run P (k + 1)) (.cons (.set (.nm 9) (.comp [10] (.call 10 (.cons (.var 0) (.cons (.bin .add (.var 2) (.con (.int (1)))) .nil))) (.nm 10) (.rng1 (.var 4)) .none)) .nil) [some (.ref 1), some (.int (side : Nat)), some (.int (most : Nat)), some (.int (hi : Nat)), some (.int (wi : Nat)), some (.int (way : Nat)), some (.int (base : Nat)), some (.ref (rest.length + 2)), some i, some (.ref (rest.length + 3)), none] (O.frz (zs.map .int) :: O.lst [.ref 0, .int (r1.a : Nat), .int r1.b, .int r1.c] :: (rest ++ [.lst acc, .lst X1])) = .ok (.nx, [some (.ref 1), some (.int (side : Nat)), some (.int (most : Nat)), some (.int (hi : Nat)), some (.int (wi : Nat)), some (.int (way : Nat)), some (.int (base : Nat)), some (.ref (rest.length + 2)), some i, some (.ref (rest.length + 4)), none]) (O.frz (zs.map .int) :: O.lst [.ref 0, .int (r2.a : Nat), .int r2.b, .int r2.c] :: (rest ++ [.lst acc, .lst X1, .lst X2])) := by
      rw [exs_one, ex_set, b3]
      simp [EVa, place, List.map_cons, List.map_nil, List.cons_append, List.nil_append, Nat.reduceSub, List.replicate_succ, List.replicate_zero, List.getElem?_cons_zero, List.getElem?_cons_succ, Option.join_some, exs_nil]
    rw [exs_one, ex_ifs]
    simp [evC_val, ev_cmp, ev_var, ev_con, ofO_some, R.bind_ok, cmp_gt, rB_bl, hw, E2]
    rw [nxt_nx, exs_one]
    simp [EVa, place, List.map_cons, List.map_nil, List.cons_append, List.nil_append, Nat.reduceSub, List.replicate_succ, List.replicate_zero, List.getElem?_cons_zero, List.getElem?_cons_succ, Option.join_some, l2, m2, p2, exs_nil]
  · have m2 := mk X1 r1 [.lst X1] (rest.length + 3) lX1 (by simp [S0])
    have p2 := ap (.tup X1) r1 [.lst X1]
    have l2 := lf r1 [.lst X1]
    have hw : ¬ (1 : Int) < (way : Int) := by omega
    refine ⟨[some (.ref 1), some (.int (side : Nat)), some (.int (most : Nat)), some (.int (hi : Nat)), some (.int (wi : Nat)), some (.int (way : Nat)), some (.int (base : Nat)), some (.ref (rest.length + 2)), some i, some (.ref (rest.length + 3)), none], row1, r1, [.lst X1], ?_, rfl, a1, a2⟩
    rw [show rowD row1 = .tup X1 by rw [hX1]]
    simp only [SR, S0, List.append_assoc, List.cons_append, List.nil_append, List.length_append, List.length_cons, List.length_nil, Nat.reduceAdd, Nat.add_assoc] at a3 m2 p2 l2 ⊢
    unfold lineG bd393
    rw [exs_one, ex_set, a3]
    simp [EVa, place, List.map_cons, List.map_nil, List.cons_append, List.nil_append, Nat.reduceSub, List.replicate_succ, List.replicate_zero, List.getElem?_cons_zero, List.getElem?_cons_succ, Option.join_some]
    rw [exs_one, ex_ifs]
    simp [evC_val, ev_cmp, ev_var, ev_con, ofO_some, R.bind_ok, cmp_gt, rB_bl, hw, exs_nil]
    rw [nxt_nx, exs_one]
    simp [EVa, place, List.map_cons, List.map_nil, List.cons_append, List.nil_append, Nat.reduceSub, List.replicate_succ, List.replicate_zero, List.getElem?_cons_zero, List.getElem?_cons_succ, Option.join_some, l2, m2, p2, exs_nil]
theorem values393G (Q : P.defs.lookup 10 = some ⟨2, 4, bd10⟩) (h393 : P.defs.lookup 393 = some ⟨3, 11, bd393⟩) (k : Nat) (zs : List Int) (r : Row) (rest : Store) (side most : Nat) (s0 : 0 < side) (s8 : side ≤ 8) (m30 : most ≤ 30) :
    ∃ (rs : List (List Int)) (w : Nat) (r' : Row), Rect rs w ∧ 0 < rs.length ∧ rs.length ≤ side ∧ 0 < w ∧ w ≤ side ∧ (∀ r ∈ rs, ∀ v ∈ r, (0 : Int) ≤ v ∧ v ≤ (most : Int)) ∧ run P (k + 2) 393 [.ref 1, .int (side : Nat), .int (most : Nat)] (SR zs r rest) = .ok (.tup (rowsD rs)) (SR zs r' rest) := by
  obtain ⟨h, r1, h1, e1⟩ := tkM Q k zs r rest (side : Nat) (by omega) (by omega)
  obtain ⟨w, r2, h2, e2⟩ := tkM Q k zs r1 rest (side : Nat) (by omega) (by omega)
  obtain ⟨way, r3, h3, e3⟩ := tkM Q k zs r2 rest 4 (by omega) (by omega)
  obtain ⟨base, r4, h4, e4⟩ := tkM Q k zs r3 rest ((most : Int) + 1) (by omega) (by omega)
  have hsl : ∀ acc, (rest ++ [O.lst []]).set rest.length (.lst acc) = rest ++ [.lst acc] := fun acc => by simp
  have lp := forLoop_accR (body := exs P.G (run P (k + 1)) lineG) (t := .nm 8) (ρ₀ := [some (.ref 1), some (.int (side : Nat)), some (.int (most : Nat)), some (.int ((1 + h : Nat) : Int)), some (.int ((1 + w : Nat) : Int)), some (.int (way : Nat)), some (.int (base : Nat)), some (.ref (rest.length + 2)), none, none, none]) (zs := zs) (rest := rest ++ [.lst []]) (i := rest.length) (wat := []) (r0 := r4) (a0 := []) (by simp [envCl]) (fun _ _ => rfl) (rangeL 0 (1 + h)) (fun _ y => ∃ r : List Int, y = rowD r ∧ r.length = 1 + w ∧ ∀ v ∈ r, (0 : Int) ≤ v ∧ v ≤ (most : Int)) r4 [] rfl (by rw [rangeL_len]; simp; omega) (fun j d hd r acc hacc => by
    obtain ⟨ρ2, row, r', js, g1, g2, g3, g4⟩ := line393G Q k zs rest side most (1 + h) (1 + w) way base (by omega) (by omega) (by omega) d r acc hacc
    rw [hsl]
    refine ⟨_, ρ2, rowD row, r', js, asg_nm _ _ _, ?_, g2, by rw [cl_tup]; exact cls_int _, row, rfl, g3, g4⟩
    rw [hsl]
    exact g1)
  obtain ⟨ys, r5, lp, l1, l2, l3⟩ := lp
  obtain ⟨rs, rfl, q1, q2⟩ := row_ofG (most := most) (ys := ys) (w := 1 + w) l3
  rw [rangeL_len, List.length_map] at l1
  rw [hsl, List.nil_append, hsl] at lp
  refine ⟨rs, 1 + w, r5, q1, by omega, by omega, by omega, by omega, q2, ?_⟩
  obtain ⟨Y, hY⟩ : ∃ Y, Y = rowsD rs := ⟨_, rfl⟩
  have lY : Y.length ≤ 10 := by rw [hY, List.length_map]; omega
  have cY : ∀ n, D.cls n Y = true := fun n => by rw [hY]; exact cls_rows _
  rw [← hY] at lp ⊢
  have mk : biMkt (.ref (rest.length + 2)) (SR zs r5 (rest ++ [.lst Y])) = .ok (.tup Y) (SR zs r5 (rest ++ [.lst Y])) := by
    rw [mkt_seq (ds := Y) (by simp [seqOf, S0]), newT_ok' (by omega)]
  have nl : newL [] (SR zs r4 rest) = .ok (.ref (rest.length + 2)) (SR zs r4 (rest ++ [.lst []])) := newL_ok' (by simp)
  have hrk : rngOk ((1 : Int) + (h : Int)) = true := rng_ok (by omega) (by omega)
  have tn : ((1 : Int) + (h : Int) - 0).toNat = 1 + h := by omega
  have fin := gcR (zs := zs) (r := r) (r' := r5) (rest := rest) (d := .tup Y) [.lst Y] (by rw [cl_tup]; exact cY _)
  rw [run_eq h393]
  simp only [List.length_cons, List.length_nil, List.map_cons, List.map_nil, List.cons_append, List.nil_append, Nat.reduceSub, List.replicate_succ, List.replicate_zero, Nat.reduceAdd, beq_self_eq_true, R.grd_true]
  unfold lineG bd393 at lp
  push_cast at lp
  unfold bd393
  rw [exs_one]
  simp [EVa, place, List.map_cons, List.map_nil, List.cons_append, List.nil_append, Nat.reduceSub, List.replicate_succ, List.replicate_zero, List.getElem?_cons_zero, List.getElem?_cons_succ, Option.join_some, e1, e2, e3, e4]
  rw [exs_one]
  simp [EVa, place, List.map_cons, List.map_nil, List.cons_append, List.nil_append, Nat.reduceSub, List.replicate_succ, List.replicate_zero, List.getElem?_cons_zero, List.getElem?_cons_succ, Option.join_some, nl]
  rw [exs_one, ex_forB]
  simp [EVa, place, List.map_cons, List.map_nil, List.cons_append, List.nil_append, Nat.reduceSub, List.replicate_succ, List.replicate_zero, List.getElem?_cons_zero, List.getElem?_cons_succ, Option.join_some, rng_0, hrk]
  have tn2 : ((1 : Int) + (h : Int)).toNat = 1 + h := by omega
  simp only [SR, S0] at lp mk fin
  rw [tn2, lp]
  simp only [R.bind_ok, nxt_nx]
  rw [exs_one]
  simp [EVa, place, List.map_cons, List.map_nil, List.cons_append, List.nil_append, Nat.reduceSub, List.replicate_succ, List.replicate_zero, List.getElem?_cons_zero, List.getElem?_cons_succ, Option.join_some, mk]
  simpa using fin
def qBody : Ss := match bd414 with
  | .cons _ (.cons (.for_ _ _ b) _) => b
  | _ => .nil
theorem nds_of {p : Nd → Prop} : ∀ {ys : List D}, (∀ (j : Nat) y, ys[j]? = some y → ∃ n : Nd, y = ndD n ∧ p n) → ∃ qs : List Nd, ys = qs.map ndD ∧ ∀ n ∈ qs, p n
  | [], _ => ⟨[], rfl, fun _ h => by simp at h⟩
  | y :: ys, h => by
    obtain ⟨n, rfl, h1⟩ := h 0 y rfl
    obtain ⟨qs, rfl, h2⟩ := nds_of (ys := ys) fun j y hy => h (j + 1) y (by simpa using hy)
    exact ⟨n :: qs, rfl, fun q hq => by rcases List.mem_cons.mp hq with rfl | hq; exact h1; exact h2 q hq⟩
theorem ndD_cl (n : Nat) (x : Nd) : D.cl n (ndD x) = true := rfl
theorem ndD_cls (n : Nat) : ∀ xs : List Nd, D.cls n (xs.map ndD) = true
  | [] => rfl
  | x :: xs => by rw [List.map_cons, D.cls, ndD_cl, ndD_cls n xs]; rfl
theorem queries414 (Q : P.defs.lookup 10 = some ⟨2, 4, bd10⟩) (h414 : P.defs.lookup 414 = some ⟨4, 6, bd414⟩) (k : Nat) (zs : List Int) (r : Row) (rest : Store) {rs : List (List Int)} {w : Nat} (h : Rect rs w) (l0 : 0 < rs.length) (l8 : rs.length ≤ 8) (w0 : 0 < w) (w8 : w ≤ 8) (count most : Nat) (hc : count ≤ 1000) (m30 : most ≤ 30) :
    ∃ (qs : List Nd) (r' : Row), qs.length = count ∧ (∀ q ∈ qs, q.1 < rs.length ∧ q.2.1 < w ∧ q.2.2 ≤ most) ∧ run P (k + 2) 414 [.ref 1, .tup (rowsD rs), .int (count : Nat), .int (most : Nat)] (SR zs r rest) = .ok (.tup (qs.map ndD)) (SR zs r' rest) := by
  have hsl : ∀ acc, (rest ++ [O.lst []]).set rest.length (.lst acc) = rest ++ [.lst acc] := fun acc => by simp
  obtain ⟨row0, g0, lr0⟩ := fst_row h (by rintro rfl; simp at l0)
  obtain ⟨X, hX⟩ : ∃ X, X = rowsD rs := ⟨_, rfl⟩
  have lX : (X.length : Int) = (rs.length : Nat) := by rw [hX, List.length_map]
  have cX : ∀ n, D.cls n X = true := fun n => by rw [hX]; exact cls_rows _
  rw [← hX] at g0 ⊢
  have lp := forLoop_accR (body := exs P.G (run P (k + 1)) qBody) (t := .nm 5) (ρ₀ := [some (.ref 1), some (.tup X), some (.int (count : Nat)), some (.int (most : Nat)), some (.ref (rest.length + 2)), none]) (zs := zs) (rest := rest ++ [.lst []]) (i := rest.length) (wat := []) (r0 := r) (a0 := []) (by simp [envCl, cX]) (fun _ _ => rfl) (rangeL 0 count) (fun _ y => ∃ n : Nd, y = ndD n ∧ (n.1 < rs.length ∧ n.2.1 < w ∧ n.2.2 ≤ most)) r [] rfl (by rw [rangeL_len]; simp; omega) (fun j d hd r acc hacc => by
    rw [hsl]
    obtain ⟨a, r1, a1, a2⟩ := tkM Q k zs r (rest ++ [.lst acc]) (rs.length : Nat) (by omega) (by omega)
    obtain ⟨b, r2, b1, b2⟩ := tkM Q k zs r1 (rest ++ [.lst acc]) (w : Nat) (by omega) (by omega)
    obtain ⟨c, r3, c1, c2⟩ := tkM Q k zs r2 (rest ++ [.lst acc]) ((most : Int) + 1) (by omega) (by omega)
    have lf : lstOf (.ref (rest.length + 2)) (SR zs r (rest ++ [.lst acc])) = some acc := lstOf_lst (by simp [S0])
    have ap : append (.ref (rest.length + 2)) (.tup [.int (a : Nat), .int (b : Nat), .int (c : Nat)]) (SR zs r3 (rest ++ [.lst acc])) = .ok .non (SR zs r3 (rest ++ [.lst (acc ++ [.tup [.int (a : Nat), .int (b : Nat), .int (c : Nat)]])])) := by
      rw [app_lst (ds := acc) (by simp [S0]) (by omega)]
      simp [S0]
    have lrow : ((row0.map D.int).length : Int) = (w : Nat) := by rw [List.length_map, lr0]
    refine ⟨_, [some (.ref 1), some (.tup X), some (.int (count : Nat)), some (.int (most : Nat)), some (.ref (rest.length + 2)), some d], ndD (a, b, c), r3, [], asg_nm _ _ _, ?_, rfl, ndD_cl _ _, (a, b, c), rfl, by simp only; omega⟩
    rw [hsl, List.append_nil]
    unfold qBody bd414
    rw [exs_one]
    simp only [SR, S0, List.length_map, lr0] at a2 b2 c2 lf ap lrow ⊢
    simp [EVa, place, List.map_cons, List.map_nil, List.cons_append, List.nil_append, Nat.reduceSub, List.replicate_succ, List.replicate_zero, List.getElem?_cons_zero, List.getElem?_cons_succ, Option.join_some, lf, lX, a2, b2, c2, index_tup g0, lr0, ap, exs_nil, ndD])
  obtain ⟨ys, r5, lp, l1, l2, l3⟩ := lp
  obtain ⟨qs, rfl, q2⟩ := nds_of (ys := ys) l3
  rw [rangeL_len, List.length_map] at l1
  rw [hsl, List.nil_append, hsl] at lp
  refine ⟨qs, r5, l1, q2, ?_⟩
  have cY := fun n => ndD_cls n qs
  obtain ⟨Y, hY⟩ : ∃ Y, Y = qs.map ndD := ⟨_, rfl⟩
  have lY : Y.length ≤ 1000 := by rw [hY, List.length_map]; omega
  rw [← hY] at lp cY ⊢
  have mk : biMkt (.ref (rest.length + 2)) (SR zs r5 (rest ++ [.lst Y])) = .ok (.tup Y) (SR zs r5 (rest ++ [.lst Y])) := by
    rw [mkt_seq (ds := Y) (by simp [seqOf, S0]), newT_ok' (by omega)]
  have nl : newL [] (SR zs r rest) = .ok (.ref (rest.length + 2)) (SR zs r (rest ++ [.lst []])) := newL_ok' (by simp)
  have hrk : rngOk (count : Int) = true := rng_ok (by omega) (by omega)
  have fin := gcR (zs := zs) (r := r) (r' := r5) (rest := rest) (d := .tup Y) [.lst Y] (by rw [cl_tup]; exact cY _)
  rw [run_eq h414]
  simp only [List.length_cons, List.length_nil, List.map_cons, List.map_nil, List.cons_append, List.nil_append, Nat.reduceSub, List.replicate_succ, List.replicate_zero, Nat.reduceAdd, beq_self_eq_true, R.grd_true]
  unfold qBody bd414 at lp
  unfold bd414
  rw [exs_one]
  simp [EVa, place, List.map_cons, List.map_nil, List.cons_append, List.nil_append, Nat.reduceSub, List.replicate_succ, List.replicate_zero, List.getElem?_cons_zero, List.getElem?_cons_succ, Option.join_some, nl]
  rw [exs_one, ex_forB]
  simp [EVa, place, List.map_cons, List.map_nil, List.cons_append, List.nil_append, Nat.reduceSub, List.replicate_succ, List.replicate_zero, List.getElem?_cons_zero, List.getElem?_cons_succ, Option.join_some, rng_0, hrk]
  simp only [SR, S0] at lp mk fin
  rw [lp]
  simp only [R.bind_ok, nxt_nx]
  rw [exs_one]
  simp [EVa, place, List.map_cons, List.map_nil, List.cons_append, List.nil_append, Nat.reduceSub, List.replicate_succ, List.replicate_zero, List.getElem?_cons_zero, List.getElem?_cons_succ, Option.join_some, mk]
  simpa using fin
end
end Tw
end Nz
namespace Nz
namespace Tw
open Tl
/-- the law's dicts and its list of bits -/
structure LwI (β γ f : Nat) (bits : List Int) (S : St) (st : Store) : Prop where
  b : st[β]? = some (.dct true (kvB S.B))
  c : st[γ]? = some (.dct true (kvC S.C))
  f : st[f]? = some (.lst (bits.map .int))
end Tw
end Nz
namespace Nz
namespace Tw
open Tl
theorem cutE_rel (st s : Store) (ρ : Env) : cutE st ρ s = s ∨ cutE st ρ s = s.take st.length := by
  unfold cutE
  cases pfx st.length st s && envCl st.length ρ with
  | false => exact .inl rfl
  | true => exact .inr rfl
theorem Kw.cutE {own : List Nat} {st s : Store} (h : Kw own st s) (ρ : Env) : Kw own st (Nz.cutE st ρ s) ∧ ∀ i, i < st.length → (Nz.cutE st ρ s)[i]? = s[i]? := by
  rcases cutE_rel st s ρ with e | e
  · rw [e]
    exact ⟨h, fun _ _ => rfl⟩
  · rw [e]
    exact ⟨⟨by rw [List.length_take]; have := h.len; omega, fun i hi ho => by rw [List.getElem?_take_of_lt hi]; exact h.out i hi ho⟩, fun i hi => List.getElem?_take_of_lt hi⟩
theorem Kw.lt {own : List Nat} {st s : Store} (h : Kw own st s) {i : Nat} (hi : i < st.length) : i < s.length := Nat.lt_of_lt_of_le hi h.len
theorem LwI.at {β γ f : Nat} {bits : List Int} {S : St} {st st' : Store} (h : LwI β γ f bits S st) (k : ∀ i ∈ [β, γ, f], st'[i]? = st[i]?) : LwI β γ f bits S st' :=
  ⟨(k β (by simp)).trans h.b, (k γ (by simp)).trans h.c, (k f (by simp)).trans h.f⟩
theorem LwI.lt {β γ f : Nat} {bits : List Int} {S : St} {st : Store} (h : LwI β γ f bits S st) : ∀ i ∈ [β, γ, f], i < st.length := by
  intro i hi
  simp only [List.mem_cons, List.not_mem_nil, or_false] at hi
  rcases hi with rfl | rfl | rfl
  · exact (List.getElem?_eq_some_iff.mp h.b).1
  · exact (List.getElem?_eq_some_iff.mp h.c).1
  · exact (List.getElem?_eq_some_iff.mp h.f).1
end Tw
end Nz
namespace Nz
namespace Tw
open Tl
structure QrP (P : Prog) : Prop where
  h399 : P.defs.lookup 399 = some ⟨2, 2, bd399⟩
  h400 : P.defs.lookup 400 = some ⟨2, 4, bd400⟩
/-- a query of a tree of this shape -/
def QOk (h w : Nat) (q : Nd) : Prop := q.1 < h ∧ q.2.1 < w ∧ q.2.2 ≤ 30
def stepS (rs : List (List Int)) (w : Nat) (S : St) (q : Nd) : St := (ans rs w q.2.2 q.1 q.2.1 S).S
def told (rs : List (List Int)) (w : Nat) : St → List Nd → List Int
  | _, [] => []
  | S, q :: qs => (ans rs w q.2.2 q.1 q.2.1 S).bits ++ told rs w (stepS rs w S q) qs
theorem ans_ok {rs : List (List Int)} {w : Nat} (l0 : 0 < rs.length) (l8 : rs.length ≤ 8) (w0 : 0 < w) (w8 : w ≤ 8) {n : Nat} {S : St} (hS : StOk n S) {r c thr : Nat} (h30 : thr ≤ 30) : StOk (n + 4) (ans rs w thr r c S).S := by
  have h := hS.qry (V := Vw rs w) (thr := (thr : Nat)) (m := dep rs.length w) (bits := []) (by omega) r c
  have d := (dep_spec l0 l8 w0 w8).1
  exact ⟨h.b, Nat.le_trans h.lb (by omega), Nat.le_trans h.lc (by omega)⟩
theorem ans_len {rs : List (List Int)} {w : Nat} (l0 : 0 < rs.length) (l8 : rs.length ≤ 8) (w0 : 0 < w) (w8 : w ≤ 8) {S : St} {r c thr : Nat} : (ans rs w thr r c S).bits.length ≤ 160 := by
  have lb := fold_len (V := Vw rs w) (thr := (thr : Nat)) (pth (dep rs.length w) r c) ⟨[], S, 0⟩
  have d := (dep_spec l0 l8 w0 w8).1
  rw [pth_len] at lb
  simp only [List.length_nil] at lb
  show (qry _ _ _ _ _ _ _).bits.length ≤ _
  unfold qry
  omega
section
variable {P : Prog} {rs : List (List Int)} {w : Nat}
theorem query399 (T : TtP P) (U : QrP P) (k h w : Nat) (st : Store) {q : Nd} (hq : QOk h w q) : run P (k + 3) 399 [.tup [.int (h : Nat), .int (w : Nat)], ndD q] st = .ok (.bl true) st := by
  obtain ⟨q1, q2, q3⟩ := hq
  have e0 := is_list_tup T.h2 (k + 1) [.int (q.1 : Nat), .int (q.2.1 : Nat), .int (q.2.2 : Nat)] 3 3 st
  have e1 := is_in_int T.h0 T.h1 k (q.1 : Nat) 0 ((h : Int) - 1) st
  have e2 := is_in_int T.h0 T.h1 k (q.2.1 : Nat) 0 ((w : Int) - 1) st
  have e3 := is_in_int T.h0 T.h1 k (q.2.2 : Nat) 0 30 st
  rw [decide_eq_true (by omega)] at e1 e2 e3
  simp only [List.length_cons, List.length_nil] at e0
  rw [decide_eq_true (by omega)] at e0
  rw [run_eq U.h399]
  simp only [List.length_cons, List.length_nil, List.map_cons, List.map_nil, List.cons_append, List.nil_append, Nat.reduceSub, List.replicate_succ, List.replicate_zero, Nat.reduceAdd, beq_self_eq_true, R.grd_true]
  unfold bd399
  rw [exs_one]
  simp [EVa, place, List.map_cons, List.map_nil, List.cons_append, List.nil_append, Nat.reduceSub, List.replicate_succ, List.replicate_zero, List.getElem?_cons_zero, List.getElem?_cons_succ, Option.join_some, ndD, e0, e3, exs_nil]
  rw [exs_one]
  simp [EVa, place, List.map_cons, List.map_nil, List.cons_append, List.nil_append, Nat.reduceSub, List.replicate_succ, List.replicate_zero, List.getElem?_cons_zero, List.getElem?_cons_succ, Option.join_some, e1, e2]
  exact gc_id rfl
def qchk : Ss := match bd400 with
  | .cons _ (.cons (.for_ _ _ b) _) => b
  | _ => .nil
theorem chk_loop (T : TtP P) (U : QrP P) (k h w : Nat) (st : Store) (Q : D) : ∀ (qs : List Nd) (i : Nat), (∀ q ∈ qs, QOk h w q) → forLoop (exs P.G (run P (k + 3)) qchk) (.tp [.nm 2, .nm 3]) [some (.tup [.int (h : Nat), .int (w : Nat)]), some Q, none, none] st [] (numbered i (qs.map ndD)) [some (.tup [.int (h : Nat), .int (w : Nat)]), some Q, none, none] st = .ok (.nx, [some (.tup [.int (h : Nat), .int (w : Nat)]), some Q, none, none]) st
  | [], i, _ => by rw [List.map_nil, numbered, for_nil]; rfl
  | q :: qs, i, hq => by
    have e := query399 T U k h w st (hq q List.mem_cons_self)
    have b : exs P.G (run P (k + 3)) qchk [some (.tup [.int (h : Nat), .int (w : Nat)]), some Q, some (.int (i : Nat)), some (ndD q)] st = .ok (.nx, [some (.tup [.int (h : Nat), .int (w : Nat)]), some Q, some (.int (i : Nat)), some (ndD q)]) st := by
      unfold qchk bd400
      rw [exs_one]
      simp [EVa, place, List.map_cons, List.map_nil, List.cons_append, List.nil_append, Nat.reduceSub, List.replicate_succ, List.replicate_zero, List.getElem?_cons_zero, List.getElem?_cons_succ, Option.join_some, e, exs_nil]
    rw [List.map_cons, numbered, for_cons, show watOk [] st = true from rfl, R.grd_true, asg_tp, asgs_cons, asg_nm]
    simp only [asgs_cons, asgs_nil, asg_nm, List.set_cons_succ, List.set_cons_zero]
    rw [b, R.bind_ok, fnx_nx, cutE_same]
    exact chk_loop T U k h w st Q qs (i + 1) fun q' h' => hq q' (List.mem_cons_of_mem _ h')
theorem need400 (T : TtP P) (U : QrP P) (k h w : Nat) (st : Store) {qs : List Nd} (hq : ∀ q ∈ qs, QOk h w q) (hl : qs.length ≤ 400) : run P (k + 4) 400 [.tup [.int (h : Nat), .int (w : Nat)], .tup (qs.map ndD)] st = .ok .non st := by
  have e0 := is_list_tup T.h2 (k + 2) (qs.map ndD) 0 400 st
  have lp := chk_loop T U k h w st (.tup (qs.map ndD)) qs 0 hq
  rw [List.length_map, decide_eq_true (by omega)] at e0
  obtain ⟨Q, hQ⟩ : ∃ Q, Q = qs.map ndD := ⟨_, rfl⟩
  rw [← hQ] at e0 lp ⊢
  rw [run_eq U.h400]
  simp only [List.length_cons, List.length_nil, List.map_cons, List.map_nil, List.cons_append, List.nil_append, Nat.reduceSub, List.replicate_succ, List.replicate_zero, Nat.reduceAdd, beq_self_eq_true, R.grd_true]
  unfold qchk bd400 at lp
  unfold bd400
  rw [exs_one]
  simp [EVa, place, List.map_cons, List.map_nil, List.cons_append, List.nil_append, Nat.reduceSub, List.replicate_succ, List.replicate_zero, List.getElem?_cons_zero, List.getElem?_cons_succ, Option.join_some, e0, exs_nil]
  rw [exs_one, ex_forB]
  simp only [EVa, place, List.map_cons, List.map_nil, List.cons_append, List.nil_append, Nat.reduceSub, List.replicate_succ, List.replicate_zero, List.getElem?_cons_zero, List.getElem?_cons_succ, Option.join_some, wkEnum_tup, R.bind_ok, lp, nxt_nx, exs_nil]
  exact gc_id rfl
def wBody : Ss := match bd413 with
  | .cons _ (.cons _ (.cons _ (.cons (.for_ _ _ b) _))) => b
  | _ => .nil
theorem lm_ext {l : Nat} {xs ys : List D} {st : Store} (h : st[l]? = some (.lst xs)) (hl : xs.length + ys.length ≤ 16777216) : lmR .ext (.ref l) [.tup ys] st = .ok .non (st.set l (.lst (xs ++ ys))) := by
  simp only [lmR, h, extOf]
  rw [decide_eq_true hl]
  rfl
theorem asks_loop (T : TwP P) (k : Nat) (h : Rect rs w) (l0 : 0 < rs.length) (l8 : rs.length ≤ 8) (w0 : 0 < w) (w8 : w ≤ 8) {t b c f : Nat} (nd : t ≠ b ∧ t ≠ c ∧ b ≠ c) (nf : f ≠ t ∧ f ≠ b ∧ f ≠ c) {V Q : D} {st₀ : Store} (ho : ∀ i ∈ [t, b, c, f], i < st₀.length) : ∀ (qs : List Nd) (S : St) (n : Nat) (bits : List Int) (st : Store), (∀ q ∈ qs, QOk rs.length w q) → WrA rs w t b c S st → st[f]? = some (.lst (bits.map .int)) → Kw [t, b, c, f] st₀ st → StOk n S → n + 4 * qs.length < 9000 → bits.length + 160 * qs.length < 1000000 →
    ∃ st', forLoop (exs P.G (run P (k + 4)) wBody) (.tp [.nm 4, .nm 5, .nm 6]) [some V, some Q, some (.ref t), some (.ref f), none, none, none] st₀ [] (qs.map ndD) [some V, some Q, some (.ref t), some (.ref f), none, none, none] st =
      .ok (.nx, [some V, some Q, some (.ref t), some (.ref f), none, none, none]) st' ∧ st'[f]? = some (.lst ((bits ++ told rs w S qs).map .int)) ∧ Kw [t, b, c, f] st₀ st' ∧ ∃ S', WrA rs w t b c S' st'
  | [], S, n, bits, st, _, I, hf, K, _, _, _ => ⟨st, by rw [List.map_nil, for_nil]; rfl, by rw [told, List.append_nil]; exact hf, K, S, I⟩
  | q :: qs, S, n, bits, st, hq, I, hf, K, hS, hn, hL => by
    simp only [List.length_cons] at hn hL
    obtain ⟨q1, q2, q3⟩ := hq q List.mem_cons_self
    obtain ⟨s1, a1, a2, a3⟩ := ask412 T k q.1 q.2.1 q.2.2 h l0 l8 w0 w8 q1 q2 q3 nd I hS (by omega)
    have lb := ans_len (rs := rs) (w := w) (r := q.1) (c := q.2.1) (thr := q.2.2) (S := S) l0 l8 w0 w8
    have ok := ans_ok (rs := rs) (w := w) (r := q.1) (c := q.2.1) l0 l8 w0 w8 hS q3
    obtain ⟨A, hA⟩ : ∃ A, A = ans rs w q.2.2 q.1 q.2.1 S := ⟨_, rfl⟩
    rw [← hA] at a1 a2 lb ok
    have lf : f < st.length := (List.getElem?_eq_some_iff.mp hf).1
    have hf1 : s1[f]? = some (.lst (bits.map .int)) := (a3.out f lf (by simp; omega)).trans hf
    obtain ⟨s2, hs2⟩ : ∃ s2, s2 = s1.set f (.lst ((bits ++ A.bits).map .int)) := ⟨_, rfl⟩
    have ex1 : lmR .ext (.ref f) [.tup (A.bits.map .int)] s1 = .ok .non s2 := by
      rw [lm_ext hf1 (by simp; omega), hs2, List.map_append]
    have K2 : Kw [t, b, c, f] st₀ s2 := (K.trans (a3.sub (by intro i hi; simp at hi ⊢; omega))).trans (by rw [hs2]; exact (Kp.set (by simp)).w)
    have I2 : WrA rs w t b c A.S s2 := a2.at fun i hi => by
      rw [hs2, List.getElem?_set_ne]
      simp only [List.mem_cons, List.not_mem_nil, or_false] at hi
      omega
    have hf2 : s2[f]? = some (.lst ((bits ++ A.bits).map .int)) := by rw [hs2, List.getElem?_set_self (List.getElem?_eq_some_iff.mp hf1).1]
    obtain ⟨q0, ot⟩ := I.o
    have m1 : methF P.G.meth 55 (.ref t) st = some 412 := by simp [methF, clsOf, ot, T.m55]
    have bd : exs P.G (run P (k + 4)) wBody [some V, some Q, some (.ref t), some (.ref f), some (.int (q.1 : Nat)), some (.int (q.2.1 : Nat)), some (.int (q.2.2 : Nat))] st = .ok (.nx, [some V, some Q, some (.ref t), some (.ref f), some (.int (q.1 : Nat)), some (.int (q.2.1 : Nat)), some (.int (q.2.2 : Nat))]) s2 := by
      unfold wBody bd413
      rw [exs_one]
      simp [EVa, place, List.map_cons, List.map_nil, List.cons_append, List.nil_append, Nat.reduceSub, List.replicate_succ, List.replicate_zero, List.getElem?_cons_zero, List.getElem?_cons_succ, Option.join_some, lstOf_lst hf, m1, a1, ex1, exs_nil]
    obtain ⟨K3, g3⟩ := K2.cutE [some V, some Q, some (.ref t), some (.ref f), none, none, none]
    obtain ⟨s3, b1, b2, b3, b4⟩ := asks_loop T k h l0 l8 w0 w8 nd nf (V := V) (Q := Q) ho qs A.S (n + 4) (bits ++ A.bits) _ (fun q' h' => hq q' (List.mem_cons_of_mem _ h')) (I2.at fun i hi => g3 i (ho i (by simp at hi ⊢; omega))) ((g3 f (ho f (by simp))).trans hf2) K3 ok (by omega) (by simp; omega)
    refine ⟨s3, ?_, ?_, b3, b4⟩
    · rw [List.map_cons, for_cons, show watOk [] st = true from rfl, R.grd_true]
      simp only [ndD, asg_tp, asgs_cons, asgs_nil, asg_nm, List.set_cons_succ, List.set_cons_zero]
      rw [bd, R.bind_ok, fnx_nx]
      exact b1
    · rw [told, stepS, ← hA, ← List.append_assoc]
      exact b2
theorem told_len {rs : List (List Int)} {w : Nat} (l0 : 0 < rs.length) (l8 : rs.length ≤ 8) (w0 : 0 < w) (w8 : w ≤ 8) : ∀ (qs : List Nd) (S : St), (told rs w S qs).length ≤ 160 * qs.length
  | [], S => by rw [told]; simp
  | q :: qs, S => by
    have := ans_len (rs := rs) (w := w) (r := q.1) (c := q.2.1) (thr := q.2.2) (S := S) l0 l8 w0 w8
    have h2 := told_len l0 l8 w0 w8 qs (stepS rs w S q)
    rw [told, List.length_append, List.length_cons]
    omega
theorem stOk0 : StOk 0 ⟨[], []⟩ := ⟨fun _ h => (List.not_mem_nil h).elim, Nat.le_refl _, Nat.le_refl _⟩
theorem write413 (T : TwP P) (U : QrP P) (h413 : P.defs.lookup 413 = some ⟨2, 7, bd413⟩) (k : Nat) (h : Rect rs w) (l0 : 0 < rs.length) (l8 : rs.length ≤ 8) (w0 : 0 < w) (w8 : w ≤ 8) (hv : ∀ r ∈ rs, ∀ v ∈ r, (0 : Int) ≤ v ∧ v ≤ 30) (st : Store) {qs : List Nd} (hq : ∀ q ∈ qs, QOk rs.length w q) (hl : qs.length ≤ 400) :
    run P (k + 6) 413 [.tup (rowsD rs), .tup (qs.map ndD)] st = .ok (.tup ((told rs w ⟨[], []⟩ qs).map .int)) st := by
  have e1 := mk410 T k h l0 l8 w0 w8 hv st
  obtain ⟨s1, hs1⟩ : ∃ s1, s1 = st ++ [O.ins 19 (wf rs w (st.length + 1) (st.length + 2) (st.length + 3)), .dct true [], .dct true [], .lst []] := ⟨_, rfl⟩
  rw [← hs1] at e1
  have l1 : s1.length = st.length + 4 := by rw [hs1]; simp
  have o1 : s1[st.length]? = some (.ins 19 (wf rs w (st.length + 1) (st.length + 2) (st.length + 3))) := by rw [hs1]; simp
  have e2 := need400 T.toTtP U (k + 1) rs.length w s1 hq hl
  have n1 : newL [] s1 = .ok (.ref (st.length + 4)) (s1 ++ [.lst []]) := by rw [newL_ok' (by simp), l1]
  obtain ⟨s2, hs2⟩ : ∃ s2, s2 = s1 ++ [O.lst []] := ⟨_, rfl⟩
  rw [← hs2] at n1
  have l2 : s2.length = st.length + 5 := by rw [hs2]; simp [l1]
  have I2 : WrA rs w st.length (st.length + 1) (st.length + 2) ⟨[], []⟩ s2 := by
    rw [hs2, hs1]
    refine ⟨⟨st.length + 3, by simp⟩, by simp [kvB], by simp [kvC]⟩
  obtain ⟨s3, a1, a2, a3, _⟩ := asks_loop T (k + 1) h l0 l8 w0 w8 (t := st.length) (b := st.length + 1) (c := st.length + 2) (f := st.length + 4) (by omega) (by omega) (V := .tup (rowsD rs)) (Q := .tup (qs.map ndD)) (st₀ := s2) (by simp [l2]) qs ⟨[], []⟩ 0 [] s2 hq I2 (by rw [hs2, hs1]; simp) (.refl _ _) stOk0 (by omega) (by simp; omega)
  rw [List.nil_append] at a2
  have tl := told_len (rs := rs) (w := w) l0 l8 w0 w8 qs ⟨[], []⟩
  obtain ⟨Z, hZ⟩ : ∃ Z, Z = told rs w ⟨[], []⟩ qs := ⟨_, rfl⟩
  rw [← hZ] at a2 tl ⊢
  have mk : biMkt (.ref (st.length + 4)) s3 = .ok (.tup (Z.map .int)) s3 := by
    rw [mkt_seq (ds := Z.map .int) (by simp only [seqOf, a2]), newT_ok' (by rw [List.length_map]; omega)]
  have pre : ∃ js, s3 = st ++ js := by
    refine ⟨s3.drop st.length, ?_⟩
    have e : s3.take st.length = st := by
      refine List.ext_getElem? fun i => ?_
      by_cases hi : i < st.length
      · rw [List.getElem?_take_of_lt hi, a3.out i (by omega) (by simp; omega), hs2, hs1, List.getElem?_append_left (by simp; omega), List.getElem?_append_left hi]
      · rw [List.getElem?_eq_none (by simp; omega), List.getElem?_eq_none (by omega)]
    conv => rhs; lhs; rw [← e]
    rw [List.take_append_drop]
  obtain ⟨js, hjs⟩ := pre
  obtain ⟨X, hX⟩ : ∃ X, X = rowsD rs := ⟨_, rfl⟩
  obtain ⟨Y, hY⟩ : ∃ Y, Y = qs.map ndD := ⟨_, rfl⟩
  rw [← hX] at e1 a1
  rw [← hY] at e2 a1
  rw [run_eq h413, ← hX, ← hY]
  simp only [List.length_cons, List.length_nil, List.map_cons, List.map_nil, List.cons_append, List.nil_append, Nat.reduceSub, List.replicate_succ, List.replicate_zero, Nat.reduceAdd, beq_self_eq_true, R.grd_true]
  unfold wBody bd413 at a1
  unfold bd413
  rw [exs_one]
  simp [EVa, place, List.map_cons, List.map_nil, List.cons_append, List.nil_append, Nat.reduceSub, List.replicate_succ, List.replicate_zero, List.getElem?_cons_zero, List.getElem?_cons_succ, Option.join_some, e1]
  rw [exs_one]
  simp [EVa, place, List.map_cons, List.map_nil, List.cons_append, List.nil_append, Nat.reduceSub, List.replicate_succ, List.replicate_zero, List.getElem?_cons_zero, List.getElem?_cons_succ, Option.join_some, field_ins o1 (f := 22) rfl, e2]
  rw [exs_one]
  simp [EVa, place, List.map_cons, List.map_nil, List.cons_append, List.nil_append, Nat.reduceSub, List.replicate_succ, List.replicate_zero, List.getElem?_cons_zero, List.getElem?_cons_succ, Option.join_some]
  rw [exs_one, ex_forB]
  simp only [l1, ← hs2]
  simp only [EVa, place, List.map_cons, List.map_nil, List.cons_append, List.nil_append, Nat.reduceSub, List.replicate_succ, List.replicate_zero, List.getElem?_cons_zero, List.getElem?_cons_succ, Option.join_some, a1, R.bind_ok, nxt_nx]
  rw [exs_one]
  simp [EVa, place, List.map_cons, List.map_nil, List.cons_append, List.nil_append, Nat.reduceSub, List.replicate_succ, List.replicate_zero, List.getElem?_cons_zero, List.getElem?_cons_succ, Option.join_some, mk]
  rw [hjs]
  exact gc_same js (by rw [cl_tup]; exact cls_int _)
end
end Tw
end Nz
namespace Nz
namespace Tw
open Tl
def Vv (v : Nd → Int) : Nd → List Int → Int → Int := fun n _ b => if v n = b then 1 else 0
theorem wl_form {v thr : Int} : ∀ (f : Nat) (bits : List Int) (b : Int), b ≤ v → thr - b < f →
    wl (fun _ b => if v = b then 1 else 0) thr f bits b = if v < thr then (bits ++ List.replicate (v - b).toNat 0 ++ [1], v, true) else (bits ++ List.replicate (thr - b).toNat 0, max b thr, false)
  | 0, bits, b, h, hf => by
    rw [wl, if_neg (by omega), show (thr - b).toNat = 0 by omega, show max b thr = b by omega]
    simp
  | f + 1, bits, b, h, hf => by
    rw [wl]
    by_cases hb : b < thr
    · rw [if_pos hb]
      by_cases hv : v = b
      · rw [if_pos hv, if_pos rfl, if_pos (by omega), show (v - b).toNat = 0 by omega, hv]
        simp
      · rw [if_neg hv, if_neg (by decide), wl_form f _ _ (by omega) (by omega)]
        by_cases h1 : v < thr
        · rw [if_pos h1, if_pos h1, show (v - b).toNat = (v - (b + 1)).toNat + 1 by omega, List.replicate_succ]
          simp
        · rw [if_neg h1, if_neg h1, show (thr - b).toNat = (thr - (b + 1)).toNat + 1 by omega, List.replicate_succ, show max (b + 1) thr = max b thr by omega]
          simp
    · rw [if_neg hb, if_neg (by omega), show (thr - b).toNat = 0 by omega, show max b thr = b by omega]
      simp
def gB (S : St) (n : Nd) : Int := (bGet S.B n).getD 0
theorem gB_put (B : Bs) (C : List Nd) (n n' : Nd) (b : Int) : gB ⟨bPut B n b, C⟩ n' = if n' = n then b else (bGet B n').getD 0 := by
  unfold gB
  rw [bGet_put]
  split <;> rfl
/-- T tells of each node the greatest threshold asked -/
structure Inv (v vp : Nd → Int) (ok : Nd → Prop) (T : Nd → Int) (S : St) : Prop where
  c : ∀ n, ok n → (n ∈ S.C ↔ v n < T n)
  cg : ∀ n, ok n → n ∈ S.C → gB S n = v n
  ug : ∀ n, ok n → n ∉ S.C → T n ≤ gB S n ∧ gB S n ≤ max (vp n) (T n)
def Fn (v vp : Nd → Int) (n : Nd) (t : Int) : Int := min (v n) t - min (vp n) t + if v n < t then 1 else 0
def upT (T : Nd → Int) (thr : Int) (n : Nd) : Nd → Int := fun n' => if n' = n then max (T n) thr else T n'
section
variable {v vp : Nd → Int} {ok : Nd → Prop}
theorem nds_inv {T : Nd → Int} {thr : Int} {x : Ws} {n : Nd} (I : Inv v vp ok T x.S) (hn : ok n) (h0 : 0 ≤ vp n) (hvp : vp n ≤ v n) (t0 : 0 ≤ thr) (h30 : thr ≤ 30) (b0 : 0 ≤ x.b) (hb1 : vp n < thr → x.b = vp n) (hb2 : thr ≤ vp n → thr ≤ x.b ∧ x.b ≤ vp n) :
    Inv v vp ok (upT T thr n) (nds (Vv v) thr x n).S ∧ (v n < thr → (nds (Vv v) thr x n).b = v n) ∧ (thr ≤ v n → thr ≤ (nds (Vv v) thr x n).b ∧ (nds (Vv v) thr x n).b ≤ v n) ∧ ((nds (Vv v) thr x n).bits.length : Int) = x.bits.length + (Fn v vp n (max (T n) thr) - Fn v vp n (T n)) := by
  obtain ⟨g, hg⟩ : ∃ g, g = (bGet x.S.B n).getD 0 := ⟨_, rfl⟩
  have gg : gB x.S n = g := by rw [hg]; rfl
  have oth : ∀ (C : List Nd) (b : Int) (n' : Nd), n' ≠ n → gB ⟨bPut x.S.B n b, C⟩ n' = gB x.S n' := fun C b n' h => by rw [gB_put, if_neg h]; rfl
  have own : ∀ (C : List Nd) (b : Int), gB ⟨bPut x.S.B n b, C⟩ n = b := fun C b => by rw [gB_put, if_pos rfl]
  have mk : ∀ (C : List Nd) (b : Int), (∀ n', n' ≠ n → (n' ∈ C ↔ n' ∈ x.S.C)) → (n ∈ C ↔ v n < max (T n) thr) → (n ∈ C → b = v n) → (n ∉ C → max (T n) thr ≤ b ∧ b ≤ max (vp n) (max (T n) thr)) → Inv v vp ok (upT T thr n) ⟨bPut x.S.B n b, C⟩ := fun C b a1 a2 a3 a4 => by
    refine ⟨fun n' h' => ?_, fun n' h' hc => ?_, fun n' h' hc => ?_⟩
    · by_cases e : n' = n
      · rw [e]; unfold upT; rw [if_pos rfl]; exact a2
      · unfold upT; rw [if_neg e]
        exact (a1 n' e).trans (I.c n' h')
    · by_cases e : n' = n
      · rw [e, own]; rw [e] at hc; exact a3 hc
      · rw [oth _ _ _ e]; exact I.cg n' h' ((a1 n' e).mp hc)
    · by_cases e : n' = n
      · rw [e, own]; rw [e] at hc; unfold upT; rw [if_pos rfl]; exact a4 hc
      · rw [oth _ _ _ e]; unfold upT; rw [if_neg e]; exact I.ug n' h' fun z => hc ((a1 n' e).mpr z)
  have xb : x.b ≤ vp n := by by_cases q : vp n < thr <;> omega
  by_cases hc : n ∈ x.S.C
  · have c1 := (I.c n hn).mp hc
    have c2 := I.cg n hn hc
    rw [gg] at c2
    have e : nds (Vv v) thr x n = ⟨x.bits, ⟨bPut x.S.B n (v n), x.S.C⟩, v n⟩ := by
      unfold nds
      rw [if_pos hc, ← hg, show max x.b g = v n by omega]
    rw [e]
    refine ⟨mk _ _ (fun _ _ => Iff.rfl) ⟨fun _ => by omega, fun _ => hc⟩ (fun _ => rfl) (fun z => (z hc).elim), fun _ => rfl, fun h => ⟨h, Int.le_refl _⟩, ?_⟩
    show (x.bits.length : Int) = _
    unfold Fn
    rw [if_pos (by omega), if_pos c1]
    omega
  · have c1 : T n ≤ v n := Int.not_lt.mp fun z => hc ((I.c n hn).mpr z)
    have c2 := I.ug n hn hc
    rw [gg] at c2
    obtain ⟨b, hb⟩ : ∃ b, b = max x.b g := ⟨_, rfl⟩
    have e : nds (Vv v) thr x n = ⟨(wl (fun _ b => if v n = b then 1 else 0) thr 40 x.bits b).1, ⟨bPut x.S.B n (wl (fun _ b => if v n = b then 1 else 0) thr 40 x.bits b).2.1, if (wl (fun _ b => if v n = b then 1 else 0) thr 40 x.bits b).2.2 then cPut x.S.C n else x.S.C⟩, (wl (fun _ b => if v n = b then 1 else 0) thr 40 x.bits b).2.1⟩ := by
      unfold nds
      rw [if_neg hc, ← hg, ← hb]
      rfl
    rw [e, wl_form 40 x.bits b (by omega) (by omega)]
    by_cases h1 : v n < thr
    · rw [if_pos h1]
      refine ⟨mk _ _ (fun n' h' => ?_) ?_ (fun _ => rfl) (fun z => (z ?_).elim), fun _ => rfl, fun h => by omega, ?_⟩
      · simp [mem_cPut, h']
      · simp [mem_cPut]; omega
      · simp [mem_cPut]
      · show ((x.bits ++ List.replicate (v n - b).toNat 0 ++ [1]).length : Int) = _
        simp only [List.length_append, List.length_replicate, List.length_cons, List.length_nil]
        unfold Fn
        rw [if_pos (by omega), if_neg (by omega)]
        omega
    · rw [if_neg h1]
      refine ⟨mk _ _ (fun _ _ => ?_) ?_ (fun z => (hc (by simpa using z)).elim) (fun _ => by show max (T n) thr ≤ max b thr ∧ max b thr ≤ max (vp n) (max (T n) thr); omega), fun h => (h1 h).elim, fun h => by show thr ≤ max b thr ∧ max b thr ≤ v n; omega, ?_⟩
      · simp
      · simp [hc]; omega
      · show ((x.bits ++ List.replicate (thr - b).toNat 0).length : Int) = _
        simp only [List.length_append, List.length_replicate]
        unfold Fn
        rw [if_neg (by omega), if_neg (by omega)]
        omega
/-- a walk from the root: each node's parent is the one before it -/
def Chain (v vp : Nd → Int) : Int → List Nd → Prop
  | _, [] => True
  | p, n :: ns => vp n = p ∧ Chain v vp (v n) ns
def upTs (T : Nd → Int) (thr : Int) : List Nd → Nd → Int
  | [] => T
  | n :: ns => upTs (upT T thr n) thr ns
def lenQ (v vp : Nd → Int) (T : Nd → Int) (thr : Int) : List Nd → Int
  | [] => 0
  | n :: ns => (Fn v vp n (max (T n) thr) - Fn v vp n (T n)) + lenQ v vp (upT T thr n) thr ns
theorem fold_inv {thr : Int} (hvp : ∀ n, ok n → 0 ≤ vp n ∧ vp n ≤ v n) (t0 : 0 ≤ thr) (h30 : thr ≤ 30) : ∀ (ns : List Nd) (T : Nd → Int) (x : Ws) (p : Int), (∀ n ∈ ns, ok n) → Chain v vp p ns → Inv v vp ok T x.S → 0 ≤ x.b → (p < thr → x.b = p) → (thr ≤ p → thr ≤ x.b ∧ x.b ≤ p) →
    Inv v vp ok (upTs T thr ns) (ns.foldl (nds (Vv v) thr) x).S ∧ ((ns.foldl (nds (Vv v) thr) x).bits.length : Int) = x.bits.length + lenQ v vp T thr ns
  | [], T, x, p, _, _, I, _, _, _ => ⟨I, by rw [lenQ]; simp⟩
  | n :: ns, T, x, p, hns, hch, I, hb, h1, h2 => by
    obtain ⟨e, hch⟩ := hch
    have v0 := hvp n (hns n List.mem_cons_self)
    subst e
    obtain ⟨a1, a2, a3, a4⟩ := nds_inv I (hns n List.mem_cons_self) v0.1 v0.2 t0 h30 hb h1 h2
    obtain ⟨b1, b2⟩ := fold_inv hvp t0 h30 ns (upT T thr n) (nds (Vv v) thr x n) (v n) (fun n' h' => hns n' (List.mem_cons_of_mem _ h')) hch a1 (by by_cases q : v n < thr <;> omega) a2 a3
    refine ⟨b1, ?_⟩
    rw [List.foldl_cons, b2, a4, lenQ]
    omega
theorem upT_same {T : Nd → Int} {thr : Int} {n : Nd} (h : thr ≤ T n) : upT T thr n = T := by
  funext n'
  unfold upT
  split
  · rename_i e; rw [e]; omega
  · rfl
theorem upT_le (T : Nd → Int) (thr : Int) (n n' : Nd) : T n' ≤ upT T thr n n' := by
  unfold upT
  split
  · rename_i e; rw [e]; omega
  · omega
theorem upTs_le (thr : Int) : ∀ (ns : List Nd) (T : Nd → Int) (n' : Nd), T n' ≤ upTs T thr ns n'
  | [], _, _ => Int.le_refl _
  | n :: ns, T, n' => Int.le_trans (upT_le T thr n n') (upTs_le thr ns _ n')
theorem upTs_ge (thr : Int) : ∀ (ns : List Nd) (T : Nd → Int) (n' : Nd), n' ∈ ns → thr ≤ upTs T thr ns n'
  | n :: ns, T, n', h => by
    rcases List.mem_cons.mp h with rfl | h
    · refine Int.le_trans ?_ (upTs_le thr ns _ n')
      unfold upT
      rw [if_pos rfl]
      omega
    · exact upTs_ge thr ns _ n' h
/-- asked before: nothing new -/
theorem again : ∀ (ns : List Nd) {T : Nd → Int} {thr : Int}, (∀ n ∈ ns, thr ≤ T n) → upTs T thr ns = T ∧ lenQ v vp T thr ns = 0
  | [], _, _, _ => ⟨rfl, rfl⟩
  | n :: ns, T, thr, h => by
    have e := upT_same (h n List.mem_cons_self)
    have h' := again ns fun n' q => h n' (List.mem_cons_of_mem _ q)
    have m : max (T n) thr = T n := by have := h n List.mem_cons_self; omega
    rw [upTs, lenQ, e, m]
    exact ⟨h'.1, by rw [h'.2]; omega⟩
/-- closed: nothing new -/
theorem shut (hvp : ∀ n, ok n → 0 ≤ vp n ∧ vp n ≤ v n) : ∀ (ns : List Nd) {T : Nd → Int} {thr : Int}, (∀ n ∈ ns, ok n) → (∀ n ∈ ns, v n < T n) → lenQ v vp T thr ns = 0
  | [], _, _, _, _ => rfl
  | n :: ns, T, thr, ho, h => by
    have h1 := h n List.mem_cons_self
    have h2 := hvp n (ho n List.mem_cons_self)
    have h' := shut hvp ns (T := upT T thr n) (thr := thr) (fun n' q => ho n' (List.mem_cons_of_mem _ q)) fun n' q => Int.lt_of_lt_of_le (h n' (List.mem_cons_of_mem _ q)) (upT_le T thr n n')
    rw [lenQ, h']
    unfold Fn
    rw [if_pos (by omega), if_pos h1]
    omega
end
section
variable {rs : List (List Int)} {w : Nat}
def vN (rs : List (List Int)) (n : Nd) : Int := mn (blk rs n.1 n.2.1 n.2.2)
def vP (rs : List (List Int)) (m : Nat) (n : Nd) : Int := if n.1 = m then 0 else vN rs (n.1 + 1, n.2.1 / 2, n.2.2 / 2)
def okN (rs : List (List Int)) (w m : Nat) (n : Nd) : Prop := n.1 ≤ m ∧ n.2.1 < hN rs.length n.1 ∧ n.2.2 < hN w n.1
theorem vN_ge (h : Rect rs w) (hv : ∀ r ∈ rs, ∀ v ∈ r, (0 : Int) ≤ v) {m : Nat} {n : Nd} (hn : okN rs w m n) : 0 ≤ vN rs n := by
  obtain ⟨bn, _⟩ := blk_ne h hn.2.1 hn.2.2
  have := (mn_spec bn).1
  obtain ⟨a, b, e, _, _⟩ := mem_blk.mp this
  unfold val at e
  obtain ⟨row, h1, h2⟩ := Option.bind_eq_some_iff.mp e
  exact hv row (List.mem_of_getElem? h1) _ (List.mem_of_getElem? h2)
theorem div2 (a l : Nat) : a / 2 ^ l / 2 = a / 2 ^ (l + 1) := by rw [Nat.div_div_eq_div_mul, Nat.pow_succ]
theorem hN_half {h i l : Nat} (hi : i < hN h l) : i / 2 < hN h (l + 1) := by
  show i / 2 < (hN h l + 1) / 2
  omega
theorem vN_up (h : Rect rs w) {m : Nat} {n : Nd} (hn : okN rs w m n) : vN rs (n.1 + 1, n.2.1 / 2, n.2.2 / 2) ≤ vN rs n := by
  obtain ⟨bn, _⟩ := blk_ne h hn.2.1 hn.2.2
  obtain ⟨bn2, _⟩ := blk_ne h (l := n.1 + 1) (hN_half hn.2.1) (hN_half hn.2.2)
  refine (mn_spec bn2).2 _ (mem_blk.mpr ?_)
  obtain ⟨a, b, e, e1, e2⟩ := mem_blk.mp (mn_spec bn).1
  exact ⟨a, b, e, by rw [← div2, e1], by rw [← div2, e2]⟩
theorem vP_ok (h : Rect rs w) (hv : ∀ r ∈ rs, ∀ v ∈ r, (0 : Int) ≤ v) {m : Nat} (n : Nd) (hn : okN rs w m n) : 0 ≤ vP rs m n ∧ vP rs m n ≤ vN rs n := by
  have h0 := vN_ge h hv hn
  unfold vP
  split
  · exact ⟨Int.le_refl _, h0⟩
  · rename_i e
    refine ⟨vN_ge h hv (m := m) ⟨?_, hN_half hn.2.1, hN_half hn.2.2⟩, vN_up h hn⟩
    have := hn.1
    show n.1 + 1 ≤ m
    omega
theorem pth_ok {m r c : Nat} (hr : r < rs.length) (hc : c < w) : ∀ n ∈ pth m r c, okN rs w m n := fun n hn => by
  obtain ⟨h1, h2, h3⟩ := nd_mem hn
  exact ⟨h1, by rw [h2]; exact hN_div hr _, by rw [h3]; exact hN_div hc _⟩
theorem chainN {m r c : Nat} : ∀ (k : Nat), k ≤ m + 1 → ∀ p, (k = m + 1 → p = 0) → (k ≤ m → p = vN rs (k, r / 2 ^ k, c / 2 ^ k)) → Chain (vN rs) (vP rs m) p ((List.range k).reverse.map fun l => ((l, r / 2 ^ l, c / 2 ^ l) : Nd))
  | 0, _, _, _, _ => trivial
  | k + 1, hk, p, h1, h2 => by
    rw [List.range_succ, List.reverse_append, List.reverse_singleton, List.singleton_append, List.map_cons]
    refine ⟨?_, chainN k (by omega) _ (fun e => by omega) fun _ => rfl⟩
    unfold vP
    split
    · rename_i e
      have e : k = m := e
      exact (h1 (by omega)).symm
    · rename_i e
      have e : ¬ k = m := e
      rw [h2 (by omega), ← div2, ← div2]
theorem chainP {m r c : Nat} : Chain (vN rs) (vP rs m) 0 (pth m r c) := chainN (m + 1) (Nat.le_refl _) 0 (fun _ => rfl) fun h => by omega
theorem fold_congr {V V' : Nd → List Int → Int → Int} {thr : Int} : ∀ (ns : List Nd) (x : Ws), (∀ n ∈ ns, V n = V' n) → ns.foldl (nds V thr) x = ns.foldl (nds V' thr) x
  | [], _, _ => rfl
  | n :: ns, x, h => by
    rw [List.foldl_cons, List.foldl_cons, fold_congr ns _ fun n' q => h n' (List.mem_cons_of_mem _ q)]
    congr 1
    unfold nds
    rw [h n List.mem_cons_self]
theorem Vw_v (h : Rect rs w) {m : Nat} {n : Nd} (hn : okN rs w m n) : Vw rs w n = Vv (vN rs) n := by
  funext _ b
  unfold Vw Vv vN
  rw [(blk_ne h hn.2.1 hn.2.2).2]
  simp
abbrev InvT (rs : List (List Int)) (w : Nat) (T : Nd → Int) (S : St) : Prop := Inv (vN rs) (vP rs (dep rs.length w)) (okN rs w (dep rs.length w)) T S
abbrev lenT (rs : List (List Int)) (w : Nat) (T : Nd → Int) (q : Nd) : Int := lenQ (vN rs) (vP rs (dep rs.length w)) T (q.2.2 : Nat) (pth (dep rs.length w) q.1 q.2.1)
abbrev upQ (rs : List (List Int)) (w : Nat) (T : Nd → Int) (q : Nd) : Nd → Int := upTs T (q.2.2 : Nat) (pth (dep rs.length w) q.1 q.2.1)
theorem ans_inv (h : Rect rs w) (hv : ∀ r ∈ rs, ∀ v ∈ r, (0 : Int) ≤ v) {q : Nd} (hq : QOk rs.length w q) {T : Nd → Int} {S : St} (I : InvT rs w T S) :
    InvT rs w (upQ rs w T q) (ans rs w q.2.2 q.1 q.2.1 S).S ∧ ((ans rs w q.2.2 q.1 q.2.1 S).bits.length : Int) = lenT rs w T q := by
  obtain ⟨q1, q2, q3⟩ := hq
  have ok := pth_ok (rs := rs) (w := w) (m := dep rs.length w) q1 q2
  have e : ans rs w q.2.2 q.1 q.2.1 S = (pth (dep rs.length w) q.1 q.2.1).foldl (nds (Vv (vN rs)) (q.2.2 : Nat)) ⟨[], S, 0⟩ := fold_congr _ _ fun n hn => Vw_v h (ok n hn)
  rw [e]
  have := fold_inv (v := vN rs) (vp := vP rs (dep rs.length w)) (ok := okN rs w (dep rs.length w)) (thr := (q.2.2 : Nat)) (fun n hn => vP_ok h hv n hn) (by omega) (by omega) (pth (dep rs.length w) q.1 q.2.1) T ⟨[], S, 0⟩ 0 ok chainP I (Int.le_refl _) (fun _ => rfl) (fun h => ⟨h, Int.le_refl _⟩)
  refine ⟨this.1, ?_⟩
  rw [this.2]
  simp
theorem inv0 (h : Rect rs w) (hv : ∀ r ∈ rs, ∀ v ∈ r, (0 : Int) ≤ v) : InvT rs w (fun _ => 0) ⟨[], []⟩ :=
  ⟨fun n hn => by have := vN_ge h hv hn; simp; omega, fun n _ z => (List.not_mem_nil z).elim, fun n hn _ => by
    have := (vP_ok h hv n hn).1
    show (0 : Int) ≤ 0 ∧ (0 : Int) ≤ max _ 0
    omega⟩
/-- all queries, one after the other -/
def foldS (rs : List (List Int)) (w : Nat) (S : St) (qs : List Nd) : St := qs.foldl (stepS rs w) S
def foldT (rs : List (List Int)) (w : Nat) (T : Nd → Int) (qs : List Nd) : Nd → Int := qs.foldl (upQ rs w) T
def lenTs (rs : List (List Int)) (w : Nat) : (Nd → Int) → List Nd → Int
  | _, [] => 0
  | T, q :: qs => lenT rs w T q + lenTs rs w (upQ rs w T q) qs
theorem told_inv (h : Rect rs w) (hv : ∀ r ∈ rs, ∀ v ∈ r, (0 : Int) ≤ v) : ∀ (qs : List Nd) {T : Nd → Int} {S : St}, (∀ q ∈ qs, QOk rs.length w q) → InvT rs w T S →
    InvT rs w (foldT rs w T qs) (foldS rs w S qs) ∧ ((told rs w S qs).length : Int) = lenTs rs w T qs
  | [], T, S, _, I => ⟨I, by rw [told, lenTs]; rfl⟩
  | q :: qs, T, S, hq, I => by
    obtain ⟨a1, a2⟩ := ans_inv h hv (hq q List.mem_cons_self) I
    obtain ⟨b1, b2⟩ := told_inv h hv qs (fun q' h' => hq q' (List.mem_cons_of_mem _ h')) a1
    refine ⟨b1, ?_⟩
    rw [told, lenTs, List.length_append]
    push_cast
    rw [a2, ← b2]
    rfl
theorem foldT_le : ∀ (qs : List Nd) (T : Nd → Int) (n : Nd), T n ≤ foldT rs w T qs n
  | [], _, _ => Int.le_refl _
  | q :: qs, T, n => Int.le_trans (upTs_le _ _ T n) (foldT_le qs _ n)
theorem foldT_ge : ∀ (qs : List Nd) (T : Nd → Int) (q : Nd), q ∈ qs → ∀ n ∈ pth (dep rs.length w) q.1 q.2.1, (q.2.2 : Nat) ≤ foldT rs w T qs n
  | q0 :: qs, T, q, h, n, hn => by
    rcases List.mem_cons.mp h with rfl | h
    · exact Int.le_trans (upTs_ge _ _ T n hn) (foldT_le qs _ n)
    · exact foldT_ge qs _ q h n hn
theorem told_app : ∀ (qs qs' : List Nd) (S : St), told rs w S (qs ++ qs') = told rs w S qs ++ told rs w (foldS rs w S qs) qs'
  | [], _, _ => rfl
  | q :: qs, qs', S => by
    rw [List.cons_append, told, told, told_app qs, List.append_assoc]
    rfl
/-- a path's values grow towards the leaf -/
theorem vN_leaf (h : Rect rs w) {m r c : Nat} (hr : r < rs.length) (hc : c < w) {n : Nd} (hn : n ∈ pth m r c) : ∃ u, val rs r c = some u ∧ vN rs n ≤ u := by
  obtain ⟨_, e2, e3⟩ := nd_mem hn
  obtain ⟨row, h1⟩ : ∃ row, rs[r]? = some row := ⟨rs[r], by simp [hr]⟩
  have h2 : row.length = w := h row (List.mem_of_getElem? h1)
  obtain ⟨u, h3⟩ : ∃ u, row[c]? = some u := ⟨row[c], by simp [h2, hc]⟩
  have e : val rs r c = some u := by unfold val; rw [h1]; exact h3
  refine ⟨u, e, ?_⟩
  obtain ⟨bn, _⟩ := blk_ne h (l := n.1) (i := n.2.1) (j := n.2.2) (by rw [e2]; exact hN_div hr _) (by rw [e3]; exact hN_div hc _)
  exact (mn_spec bn).2 _ (mem_blk.mpr ⟨r, c, e, e2.symm, e3.symm⟩)
end
end Tw
end Nz
namespace K57
open Nz Nz.Tl Nz.Tw
def one : Ss := match bd436 with
  | .cons _ (.cons _ (.cons _ (.cons _ (.cons _ (.cons (.for_ _ _ b) _))))) => b
  | _ => .nil
def two : Ss := match bd436 with
  | .cons _ (.cons _ (.cons _ (.cons _ (.cons _ (.cons _ (.cons (.for_ _ _ b) _)))))) => b
  | _ => .nil
theorem T : TwP L0 := { h0 := rfl, h1 := rfl, h2 := rfl, h67 := rfl, h68 := rfl, h390 := rfl, h391 := rfl, h398 := rfl, h401 := rfl, h402 := rfl, h403 := rfl, h404 := rfl, h389 := rfl, h410 := rfl, h411 := rfl, h412 := rfl, m22 := rfl, m24 := rfl, m25 := rfl, m31 := rfl, m55 := rfl, i19 := rfl }
theorem U : QrP L0 := ⟨rfl, rfl⟩
theorem alk (bs : List Int) (h : bs.length < 1000000) (st : Store) : run L0 13 13 [.tup (bs.map .int), .tup (bs.map .int)] st = .ok (.bl true) st :=
  alike (P := L0) rfl 3 st _ _ (same_pl st 3 _ (pl_bs 1 bs h)) 10
/-- the drawn row stands -/
def Sr (ns : List Int) (st : Store) : Prop := ∃ r rest, st = SR ns r rest
theorem Sr.at {ns : List Int} {st st' : Store} (h : Sr ns st) (l : 2 ≤ st'.length) (h0 : st'[0]? = st[0]?) (h1 : st'[1]? = st[1]?) : Sr ns st' := by
  obtain ⟨r, rest, rfl⟩ := h
  match st', l with
  | a :: b :: js, _ =>
    simp [SR, S0] at h0 h1
    exact ⟨r, js, by rw [h0, h1]⟩
theorem Sr.len {ns : List Int} {st : Store} (h : Sr ns st) : 2 ≤ st.length := by
  obtain ⟨r, rest, rfl⟩ := h
  simp [SR, S0]
theorem Sr.kw {ns : List Int} {own : List Nat} {st st' : Store} (h : Sr ns st) (k : Kw own st st') (h0 : 0 ∉ own) (h1 : 1 ∉ own) : Sr ns st' :=
  h.at (Nat.le_trans h.len k.len) (k.out 0 (by have := h.len; omega) h0) (k.out 1 (by have := h.len; omega) h1)
theorem Sr.take {ns : List Int} {st : Store} (h : Sr ns st) (m : Int) (hm : 0 < m) (hm2 : m < 18446744073709551616) : ∃ (n : Nat) (st' : Store), (n : Int) < m ∧ run L0 13 10 [.ref 1, .int m] st = .ok (.int (n : Nat)) st' ∧ Sr ns st' ∧ Kw [1] st st' := by
  obtain ⟨r, rest, rfl⟩ := h
  obtain ⟨n, r', h1, h2⟩ := tkM (P := L0) rfl 12 ns r rest m hm hm2
  refine ⟨n, _, h1, h2, ⟨r', rest, rfl⟩, by simp [SR, S0], fun i _ hi => ?_⟩
  match i with
  | 0 => rfl
  | 1 => exact absurd (by simp) hi
  | i + 2 => simp [SR, S0]
theorem pkT (qs : List Nd) (h0 : qs ≠ []) (hl : qs.length ≤ 1000) {ns : List Int} {st : Store} (h : Sr ns st) : ∃ q st', q ∈ qs ∧ run L0 13 11 [.ref 1, .tup (qs.map ndD)] st = .ok (ndD q) st' ∧ Kw [1] st st' := by
  have hp := List.length_pos_iff.mpr h0
  obtain ⟨r, rest, rfl⟩ := h
  obtain ⟨n, r', h1, h2⟩ := tkM (P := L0) rfl 11 ns r rest (qs.length : Nat) (by omega) (by omega)
  have hn : n < qs.length := by omega
  refine ⟨qs[n], SR ns r' rest, List.getElem_mem hn, ?_, by simp [SR, S0], fun i _ hi => ?_⟩
  · have g : getAt (qs.map ndD) (n : Int) = some (ndD qs[n]) := getAt_nat (by rw [List.getElem?_map, List.getElem?_eq_getElem hn]; rfl)
    obtain ⟨Y, hY⟩ : ∃ Y, Y = qs.map ndD := ⟨_, rfl⟩
    have lY : Y.length = qs.length := by rw [hY, List.length_map]
    rw [← hY] at g ⊢
    rw [run_eq (P := L0) (i := 11) rfl]
    simp only [List.length_cons, List.length_nil, List.map_cons, List.map_nil, List.cons_append, List.nil_append, Nat.reduceSub, List.replicate_succ, List.replicate_zero, Nat.reduceAdd, beq_self_eq_true, R.grd_true]
    unfold bd11
    rw [exs_one]
    simp [EVa, place, List.map_cons, List.map_nil, List.cons_append, List.nil_append, Nat.reduceSub, List.replicate_succ, List.replicate_zero, List.getElem?_cons_zero, List.getElem?_cons_succ, Option.join_some, lY, h2, index_tup g]
    have e := gcR (zs := ns) (r := r) (r' := r') (rest := rest) (d := ndD qs[n]) [] rfl
    simpa using e
  · match i with
    | 0 => rfl
    | 1 => exact absurd (by simp) hi
    | i + 2 => simp [SR, S0]
section
variable {rs : List (List Int)} {w : Nat}
/-- an ask in terms of thresholds -/
theorem askT (h : Rect rs w) (l0 : 0 < rs.length) (l8 : rs.length ≤ 8) (w0 : 0 < w) (w8 : w ≤ 8) (hv : ∀ r ∈ rs, ∀ v ∈ r, (0 : Int) ≤ v) {t b c : Nat} (nd : t ≠ b ∧ t ≠ c ∧ b ≠ c) {q : Nd} (hq : QOk rs.length w q) {S : St} {st : Store} (I : WrA rs w t b c S st) {n : Nat} (hS : StOk n S) (hn : n < 9000) {Tn : Nd → Int} (J : InvT rs w Tn S) :
    ∃ bs st' S', run L0 13 412 [.ref t, .int (q.1 : Nat), .int (q.2.1 : Nat), .int (q.2.2 : Nat)] st = .ok (.tup (bs.map .int)) st' ∧ WrA rs w t b c S' st' ∧ Kw [t, b, c] st st' ∧ StOk (n + 4) S' ∧ InvT rs w (upQ rs w Tn q) S' ∧ (bs.length : Int) = lenT rs w Tn q ∧ bs.length ≤ 160 ∧ S' = stepS rs w S q ∧ told rs w S [q] = bs := by
  obtain ⟨st', a1, a2, a3⟩ := ask412 T 9 q.1 q.2.1 q.2.2 h l0 l8 w0 w8 hq.1 hq.2.1 hq.2.2 nd I hS (by omega)
  obtain ⟨b1, b2⟩ := ans_inv h hv hq J
  exact ⟨_, st', _, a1, a2, a3, ans_ok l0 l8 w0 w8 hS hq.2.2, b1, b2, ans_len l0 l8 w0 w8, rfl, by rw [told, told, List.append_nil]⟩
abbrev Env1 (t : Nat) (V Q m : D) (k : Int) : Nz.Env := [some (.ref 0), some (.ref 1), some m, some V, some Q, some (.ref t), some (.int k), none, none, none, none]
theorem WrA.lt {t b c : Nat} {S : St} {st : Store} (I : WrA rs w t b c S st) : ∀ i ∈ [t, b, c], i < st.length := by
  intro i hi
  obtain ⟨⟨q0, o1⟩, o2, o3⟩ := I
  have k1 := (List.getElem?_eq_some_iff.mp o1).1
  have k2 := (List.getElem?_eq_some_iff.mp o2).1
  have k3 := (List.getElem?_eq_some_iff.mp o3).1
  simp only [List.mem_cons, List.not_mem_nil, or_false] at hi
  omega
theorem meth (t b c : Nat) {S : St} {st : Store} (I : WrA rs w t b c S st) : methF L0.G.meth 55 (.ref t) st = some 412 := by
  obtain ⟨⟨q0, ot⟩, _, _⟩ := I
  simp only [methF, clsOf, ot]
  exact T.m55
theorem loop1 (h : Rect rs w) (l0 : 0 < rs.length) (l8 : rs.length ≤ 8) (w0 : 0 < w) (w8 : w ≤ 8) (hv : ∀ r ∈ rs, ∀ v ∈ r, (0 : Int) ≤ v) {t b c : Nat} (nd : t ≠ b ∧ t ≠ c ∧ b ≠ c) {V Q m : D} {k₀ : Int} {st₀ : Store} (ho : ∀ i ∈ [t, b, c], i < st₀.length) : ∀ (qs : List Nd) (S : St) (n : Nat) (Tn : Nd → Int) (k : Int) (st : Store), (∀ q ∈ qs, QOk rs.length w q) → WrA rs w t b c S st → Kw [t, b, c] st₀ st → StOk n S → n + 4 * qs.length < 9000 → InvT rs w Tn S →
    ∃ st', forLoop (exs L0.G (run L0 13) one) (.tp [.nm 7, .nm 8, .nm 9]) (Env1 t V Q m k₀) st₀ [] (qs.map ndD) (Env1 t V Q m k) st =
      .ok (.nx, Env1 t V Q m (k + lenTs rs w Tn qs)) st' ∧ WrA rs w t b c (foldS rs w S qs) st' ∧ Kw [t, b, c] st₀ st' ∧ StOk (n + 4 * qs.length) (foldS rs w S qs)
  | [], S, n, Tn, k, st, _, I, K, hS, _, _ => ⟨st, by rw [List.map_nil, for_nil, lenTs, Int.add_zero]; rfl, I, K, hS⟩
  | q :: qs, S, n, Tn, k, st, hq, I, K, hS, hn, J => by
    simp only [List.length_cons] at hn ⊢
    obtain ⟨bs, s1, S1, a1, a2, a3, a4, a5, a6, a7, a8, _⟩ := askT h l0 l8 w0 w8 hv nd (hq q List.mem_cons_self) I hS (by omega) J
    have m1 := meth t b c I
    obtain ⟨Y, hY⟩ : ∃ Y, Y = bs.map D.int := ⟨_, rfl⟩
    have lY : (Y.length : Int) = lenT rs w Tn q := by rw [hY, List.length_map]; exact a6
    rw [← hY] at a1
    have bd : exs L0.G (run L0 13) one [some (.ref 0), some (.ref 1), some m, some V, some Q, some (.ref t), some (.int k), some (.int (q.1 : Nat)), some (.int (q.2.1 : Nat)), some (.int (q.2.2 : Nat)), none] st = .ok (.nx, [some (.ref 0), some (.ref 1), some m, some V, some Q, some (.ref t), some (.int (k + lenT rs w Tn q)), some (.int (q.1 : Nat)), some (.int (q.2.1 : Nat)), some (.int (q.2.2 : Nat)), none]) s1 := by
      unfold one bd436
      rw [exs_one]
      simp [EVa, place, List.map_cons, List.map_nil, List.cons_append, List.nil_append, Nat.reduceSub, List.replicate_succ, List.replicate_zero, List.getElem?_cons_zero, List.getElem?_cons_succ, Option.join_some, m1, a1, lY, exs_nil]
    obtain ⟨K3, g3⟩ := (K.trans a3).cutE (Env1 t V Q m (k + lenT rs w Tn q))
    obtain ⟨s3, c1, c2, c3, c4⟩ := loop1 h l0 l8 w0 w8 hv nd (V := V) (Q := Q) (m := m) (k₀ := k₀) ho qs S1 (n + 4) _ (k + lenT rs w Tn q) _ (fun q' h' => hq q' (List.mem_cons_of_mem _ h')) (a2.at fun i hi => g3 i (ho i hi)) K3 a4 (by omega) a5
    refine ⟨s3, ?_, ?_, c3, ?_⟩
    · rw [List.map_cons, for_cons, show watOk [] st = true from rfl, R.grd_true]
      simp only [ndD, asg_tp, asgs_cons, asgs_nil, asg_nm, List.set_cons_succ, List.set_cons_zero]
      rw [bd, R.bind_ok, fnx_nx, lenTs, ← Int.add_assoc]
      exact c1
    · rw [a8] at c2; exact c2
    · rw [a8] at c4
      rw [show n + 4 * (qs.length + 1) = n + 4 + 4 * qs.length by omega]; exact c4
theorem loop2 {ns : List Int} (h : Rect rs w) (l0 : 0 < rs.length) (l8 : rs.length ≤ 8) (w0 : 0 < w) (w8 : w ≤ 8) (hv : ∀ r ∈ rs, ∀ v ∈ r, (0 : Int) ≤ v) {t b c : Nat} (nd : t ≠ b ∧ t ≠ c ∧ b ≠ c) (n1 : 1 ∉ [t, b, c]) (n0 : 0 ∉ [t, b, c]) {V Q m : D} {k : Int} {st₀ : Store} (ho : ∀ i ∈ [t, b, c], i < st₀.length) (h2 : 2 ≤ st₀.length) {Tn : Nd → Int} : ∀ (qs : List Nd) (S : St) (n : Nat) (st : Store), (∀ q ∈ qs, QOk rs.length w q) → (∀ q ∈ qs, ∀ n ∈ pth (dep rs.length w) q.1 q.2.1, (q.2.2 : Nat) ≤ Tn n) → WrA rs w t b c S st → Kw [t, b, c, 1] st₀ st → Sr ns st → StOk n S → n + 4 * qs.length < 9000 → InvT rs w Tn S →
    ∃ st' S', forLoop (exs L0.G (run L0 13) two) (.tp [.nm 7, .nm 8, .nm 9]) (Env1 t V Q m k) st₀ [] (qs.map ndD) (Env1 t V Q m k) st =
      .ok (.nx, Env1 t V Q m k) st' ∧ WrA rs w t b c S' st' ∧ Kw [t, b, c, 1] st₀ st' ∧ Sr ns st' ∧ StOk (n + 4 * qs.length) S' ∧ InvT rs w Tn S'
  | [], S, n, st, _, _, I, K, R0, hS, _, J => ⟨st, S, by rw [List.map_nil, for_nil]; rfl, I, K, R0, hS, J⟩
  | q :: qs, S, n, st, hq, hT, I, K, R0, hS, hn, J => by
    simp only [List.length_cons] at hn ⊢
    have Q0 := hq q List.mem_cons_self
    obtain ⟨thr, s1, t1, t2, t3, t4⟩ := R0.take ((q.2.2 : Nat) + 1) (by omega) (by have := Q0.2.2; omega)
    have I1 : WrA rs w t b c S s1 := I.at fun i hi => t4.out i (WrA.lt I i hi) (by simp; rintro rfl; exact n1 hi)
    obtain ⟨bs, s2, S1, a1, a2, a3, a4, a5, a6, a7, a8, _⟩ := askT h l0 l8 w0 w8 hv nd (q := (q.1, q.2.1, thr)) ⟨Q0.1, Q0.2.1, by have := Q0.2.2; show thr ≤ 30; omega⟩ I1 hS (by omega) J
    have ag := again (v := vN rs) (vp := vP rs (dep rs.length w)) (pth (dep rs.length w) q.1 q.2.1) (T := Tn) (thr := (thr : Nat)) (fun n hn => by have := hT q List.mem_cons_self n hn; omega)
    have ag1 : upQ rs w Tn (q.1, q.2.1, thr) = Tn := ag.1
    have ag2 : lenT rs w Tn (q.1, q.2.1, thr) = 0 := ag.2
    have bn : bs = [] := List.eq_nil_of_length_eq_zero (by omega)
    rw [ag1] at a5
    rw [bn] at a1
    simp only [List.map_nil] at a1
    have al := alk [] (by decide) s2
    simp only [List.map_nil] at al
    have m1 := meth t b c I
    have bd : exs L0.G (run L0 13) two [some (.ref 0), some (.ref 1), some m, some V, some Q, some (.ref t), some (.int k), some (.int (q.1 : Nat)), some (.int (q.2.1 : Nat)), some (.int (q.2.2 : Nat)), none] st = .ok (.nx, [some (.ref 0), some (.ref 1), some m, some V, some Q, some (.ref t), some (.int k), some (.int (q.1 : Nat)), some (.int (q.2.1 : Nat)), some (.int (q.2.2 : Nat)), none]) s2 := by
      have m1' := meth t b c I1
      unfold two bd436
      rw [exs_one]
      simp [EVa, place, List.map_cons, List.map_nil, List.cons_append, List.nil_append, Nat.reduceSub, List.replicate_succ, List.replicate_zero, List.getElem?_cons_zero, List.getElem?_cons_succ, Option.join_some, m1, m1', t2, a1, al, exs_nil]
    have K2 : Kw [t, b, c, 1] st₀ s2 := (K.trans (t4.sub (by intro i hi; simp at hi ⊢; omega))).trans (a3.sub (by intro i hi; simp at hi ⊢; omega))
    obtain ⟨K3, g3⟩ := K2.cutE (Env1 t V Q m k)
    have R2 : Sr ns s2 := t3.kw a3 n0 n1
    have R3 : Sr ns (cutE st₀ (Env1 t V Q m k) s2) := R2.at (Nat.le_trans h2 K3.len) (g3 0 (by omega)) (g3 1 (by omega))
    obtain ⟨s3, S3, c1, c2, c3, c4, c5, c6⟩ := loop2 h l0 l8 w0 w8 hv nd n1 n0 (V := V) (Q := Q) (m := m) (k := k) ho h2 qs S1 (n + 4) _ (fun q' h' => hq q' (List.mem_cons_of_mem _ h')) (fun q' h' => hT q' (List.mem_cons_of_mem _ h')) (a2.at fun i hi => g3 i (ho i hi)) K3 R3 a4 (by omega) a5
    refine ⟨s3, S3, ?_, c2, c3, c4, by rw [show n + 4 * (qs.length + 1) = n + 4 + 4 * qs.length by omega]; exact c5, c6⟩
    rw [List.map_cons, for_cons, show watOk [] st = true from rfl, R.grd_true]
    simp only [ndD, asg_tp, asgs_cons, asgs_nil, asg_nm, List.set_cons_succ, List.set_cons_zero]
    rw [bd, R.bind_ok, fnx_nx]
    exact c1
end
theorem run_law (ns : List Int) (hn : ns.length ≤ 63) : ∃ s', run L0 14 436 [.ref 0] [.frz (ns.map .int)] = .ok (.bl true) s' := by
  obtain ⟨most, r1, hm, e1⟩ := pkN (P := L0) ⟨rfl, rfl⟩ 11 ns ⟨0, 3157, 0⟩ [] [3, 8, 29] (by simp) (by simp)
  have m30 : most ≤ 29 := by simp at hm; omega
  obtain ⟨rest, hrest⟩ : ∃ rest : Store, rest = [.lst [.int 3, .int 8, .int 29]] := ⟨_, rfl⟩
  rw [show ([] : Store) ++ [O.lst (([3, 8, 29] : List Nat).map fun n => .int (n : Nat))] = rest by rw [hrest]; rfl] at e1
  obtain ⟨rs, w, r2, h, l0, l8, w0, w8, hv, e2⟩ := values393G (P := L0) rfl rfl 11 ns r1 rest 6 most (by omega) (by omega) (by omega)
  obtain ⟨cnt, r3, h3, e3⟩ := tkM (P := L0) rfl 12 ns r2 rest 10 (by omega) (by omega)
  obtain ⟨qs, r4, h4, q4, e4⟩ := queries414 (P := L0) rfl rfl 11 ns r3 rest h l0 (by omega) w0 (by omega) (1 + cnt) most (by omega) (by omega)
  have hv30 : ∀ r ∈ rs, ∀ v ∈ r, (0 : Int) ≤ v ∧ v ≤ 30 := fun r hr v hv1 => by have := hv r hr v hv1; omega
  have hv0 : ∀ r ∈ rs, ∀ v ∈ r, (0 : Int) ≤ v := fun r hr v hv1 => (hv r hr v hv1).1
  have qok : ∀ q ∈ qs, QOk rs.length w q := fun q hq => ⟨(q4 q hq).1, (q4 q hq).2.1, by have := (q4 q hq).2.2; omega⟩
  have qne : qs ≠ [] := by rintro rfl; simp at h4; omega
  obtain ⟨s4, hs4⟩ : ∃ s4, s4 = SR ns r4 rest := ⟨_, rfl⟩
  have l4 : s4.length = 3 := by rw [hs4, hrest]; rfl
  have R4 : Sr ns s4 := ⟨r4, rest, hs4⟩
  rw [← hs4] at e4
  have e5 := mk410 T 8 h l0 (by omega) w0 (by omega) hv30 s4
  obtain ⟨s5, hs5⟩ : ∃ s5, s5 = s4 ++ [O.ins 19 (wf rs w (s4.length + 1) (s4.length + 2) (s4.length + 3)), .dct true [], .dct true [], .lst []] := ⟨_, rfl⟩
  rw [← hs5] at e5
  rw [l4] at e5 hs5
  have l5 : s5.length = 7 := by rw [hs5]; simp [l4]
  have I5 : WrA rs w 3 4 5 ⟨[], []⟩ s5 := by
    rw [hs5]
    refine ⟨⟨6, ?_⟩, ?_, ?_⟩ <;> simp [List.getElem?_append, l4, kvB, kvC]
  have R5 : Sr ns s5 := R4.kw (own := []) (by rw [hs5]; exact Kw.app _ _ _) (by simp) (by simp)
  have J5 := inv0 h hv0
  obtain ⟨s6, a1, a2, a3, a4⟩ := loop1 h l0 (by omega) w0 (by omega) hv0 (t := 3) (b := 4) (c := 5) (by omega) (V := .tup (rowsD rs)) (Q := .tup (qs.map ndD)) (m := .int (most : Nat)) (k₀ := 0) (st₀ := s5) (by simp [l5]) qs ⟨[], []⟩ 0 _ 0 s5 qok I5 (.refl _ _) stOk0 (by omega) J5
  have R6 : Sr ns s6 := R5.kw a3 (by simp) (by simp)
  obtain ⟨J6, tl6⟩ := told_inv h hv0 qs qok J5
  have l6 : 7 ≤ s6.length := by have := a3.len; omega
  obtain ⟨s7, S7, b1, b2, b3, b4, b5, b6⟩ := loop2 (ns := ns) h l0 (by omega) w0 (by omega) hv0 (t := 3) (b := 4) (c := 5) (by omega) (by simp) (by simp) (V := .tup (rowsD rs)) (Q := .tup (qs.map ndD)) (m := .int (most : Nat)) (k := 0 + lenTs rs w (fun _ => 0) qs) (st₀ := s6) (by simp; omega) (by omega) qs _ _ s6 qok (fun q hq => foldT_ge qs _ q hq) a2 (.refl _ _) R6 a4 (by omega) J6
  obtain ⟨q, s8, hq, c1, c2⟩ := pkT qs qne (by omega) b4
  have Q0 := qok q hq
  have b30 := (q4 q hq).2.2
  have I8 : WrA rs w 3 4 5 S7 s8 := b2.at fun i hi => c2.out i (WrA.lt b2 i hi) (by simp at hi ⊢; omega)
  have Q1 : QOk rs.length w (q.1, q.2.1, q.2.2 + 1) := ⟨Q0.1, Q0.2.1, by show q.2.2 + 1 ≤ 30; omega⟩
  obtain ⟨bs, s9, S9, d1, d2, d3, d4, d5, d6, d7, _, _⟩ := askT h l0 (by omega) w0 (by omega) hv0 (by omega) (q := (q.1, q.2.1, q.2.2 + 1)) Q1 I8 b5 (by omega) b6
  have qok2 : ∀ q' ∈ qs ++ [(q.1, q.2.1, q.2.2 + 1)], QOk rs.length w q' := fun q' h' => by
    rcases List.mem_append.mp h' with z | z
    · exact qok q' z
    · rw [List.mem_singleton.mp z]; exact Q1
  have e9 := write413 T U rfl 7 h l0 (by omega) w0 (by omega) hv30 s9 qok2 (by simp; omega)
  have tlen : ((told rs w ⟨[], []⟩ (qs ++ [(q.1, q.2.1, q.2.2 + 1)])).length : Int) = lenTs rs w (fun _ => 0) qs + bs.length := by
    rw [told_app, List.length_append]
    push_cast
    rw [tl6, told, told, List.append_nil, d6]
    rw [(ans_inv h hv0 Q1 J6).2]
  -- what is closed tells no more
  have cl : ∀ u, val rs q.1 q.2.1 = some u → u < (q.2.2 : Nat) → bs = [] := fun u hu hlt => by
    have sh := shut (v := vN rs) (vp := vP rs (dep rs.length w)) (ok := okN rs w (dep rs.length w)) (fun n hn => vP_ok h hv0 n hn) (pth (dep rs.length w) q.1 q.2.1) (T := foldT rs w (fun _ => 0) qs) (thr := ((q.2.2 + 1 : Nat) : Int)) (pth_ok Q0.1 Q0.2.1) (fun n hn => by
      obtain ⟨u', e, le⟩ := vN_leaf h Q0.1 Q0.2.1 hn
      rw [hu] at e
      cases e
      have := foldT_ge (rs := rs) (w := w) qs (fun _ => 0) q hq n hn
      omega)
    have : lenT rs w (foldT rs w (fun _ => 0) qs) (q.1, q.2.1, q.2.2 + 1) = 0 := sh
    exact List.eq_nil_of_length_eq_zero (by omega)
  obtain ⟨u, hu⟩ : ∃ u, val rs q.1 q.2.1 = some u := by
    obtain ⟨u, hu, _⟩ := vN_leaf h (m := 0) Q0.1 Q0.2.1 (n := (0, q.1 / 2 ^ 0, q.2.1 / 2 ^ 0)) (by simp [pth])
    exact ⟨u, hu⟩
  obtain ⟨rw0, g1, g2⟩ := val_get hu
  have al := alk [] (by decide) s9
  simp only [List.map_nil] at al
  have fin : ∃ s', gc [O.frz (ns.map .int)] (.ok (.bl true) s9) = .ok (.bl true) s' := by
    rcases gc_rel (st := [O.frz (ns.map .int)]) (s := s9) (d := .bl true) (fun _ z => D.noConfusion z) with e | e
    · exact ⟨_, e⟩
    · exact ⟨_, e⟩
  obtain ⟨s', hs'⟩ := fin
  refine ⟨s', ?_⟩
  rw [run_eq (P := L0) (d := ⟨1, 11, bd436⟩) rfl]
  simp only [List.length_cons, List.length_nil, List.map_cons, List.map_nil, List.cons_append, List.nil_append, Nat.reduceSub, List.replicate_succ, List.replicate_zero, Nat.reduceAdd, beq_self_eq_true, R.grd_true]
  obtain ⟨X, hX⟩ : ∃ X, X = rowsD rs := ⟨_, rfl⟩
  obtain ⟨Y, hY⟩ : ∃ Y, Y = qs.map ndD := ⟨_, rfl⟩
  obtain ⟨Z, hZ⟩ : ∃ Z, Z = (told rs w ⟨[], []⟩ (qs ++ [(q.1, q.2.1, q.2.2 + 1)])).map D.int := ⟨_, rfl⟩
  have lZ : (Z.length : Int) = lenTs rs w (fun _ => 0) qs + bs.length := by rw [hZ, List.length_map]; exact tlen
  have lY : Y.length ≤ 20 := by rw [hY, List.length_map]; omega
  have eYq : (qs ++ [(q.1, q.2.1, q.2.2 + 1)]).map ndD = Y ++ [.tup [.int (q.1 : Nat), .int (q.2.1 : Nat), .int ((q.2.2 : Int) + 1)]] := by rw [hY, List.map_append]; rfl
  have m8 := meth 3 4 5 I8
  rw [eYq] at e9
  simp only [Env1, ← hX, ← hY, ← hZ, Int.zero_add] at e2 e4 e5 a1 b1 c1 e9 g1
  push_cast at e2 e4 d1
  have hSR : [O.frz (ns.map .int), O.lst [.ref 0, .int 0, .int 3157, .int 0], .lst [.int 3, .int 8, .int 29]] = SR ns ⟨0, 3157, 0⟩ rest := by rw [hrest]; rfl
  have tp1 : ∀ s, newT (Y ++ [D.tup [.int (q.1 : Nat), .int (q.2.1 : Nat), .int ((q.2.2 : Int) + 1)]]) s = .ok (.tup (Y ++ [D.tup [.int (q.1 : Nat), .int (q.2.1 : Nat), .int ((q.2.2 : Int) + 1)]])) s := fun s => newT_ok' (by simp; omega)
  unfold one bd436 at a1
  unfold two bd436 at b1
  unfold bd436
  rw [exs_one]
  simp [EVa, place, List.map_cons, List.map_nil, List.cons_append, List.nil_append, Nat.reduceSub, List.replicate_succ, List.replicate_zero, List.getElem?_cons_zero, List.getElem?_cons_succ, Option.join_some]
  rw [exs_one]
  simp [EVa, place, List.map_cons, List.map_nil, List.cons_append, List.nil_append, Nat.reduceSub, List.replicate_succ, List.replicate_zero, List.getElem?_cons_zero, List.getElem?_cons_succ, Option.join_some]
  simp only [List.length_nil, Nat.zero_add, Nat.reduceAdd] at e1
  rw [hSR, e1]
  simp only [R.bind_ok]
  rw [nxt_nx, exs_one]
  simp [EVa, place, List.map_cons, List.map_nil, List.cons_append, List.nil_append, Nat.reduceSub, List.replicate_succ, List.replicate_zero, List.getElem?_cons_zero, List.getElem?_cons_succ, Option.join_some, e2]
  rw [exs_one]
  simp [EVa, place, List.map_cons, List.map_nil, List.cons_append, List.nil_append, Nat.reduceSub, List.replicate_succ, List.replicate_zero, List.getElem?_cons_zero, List.getElem?_cons_succ, Option.join_some, e3, e4]
  rw [exs_one]
  simp [EVa, place, List.map_cons, List.map_nil, List.cons_append, List.nil_append, Nat.reduceSub, List.replicate_succ, List.replicate_zero, List.getElem?_cons_zero, List.getElem?_cons_succ, Option.join_some, e5]
  rw [exs_one, ex_forB]
  simp only [EVa, place, List.map_cons, List.map_nil, List.cons_append, List.nil_append, Nat.reduceSub, List.replicate_succ, List.replicate_zero, List.getElem?_cons_zero, List.getElem?_cons_succ, Option.join_some, R.bind_ok, a1]
  rw [exs_one, ex_forB]
  simp only [EVa, place, List.map_cons, List.map_nil, List.cons_append, List.nil_append, Nat.reduceSub, List.replicate_succ, List.replicate_zero, List.getElem?_cons_zero, List.getElem?_cons_succ, Option.join_some, R.bind_ok, b1]
  simp only [ndD] at c1
  rw [exs_one]
  simp [EVa, place, List.map_cons, List.map_nil, List.cons_append, List.nil_append, Nat.reduceSub, List.replicate_succ, List.replicate_zero, List.getElem?_cons_zero, List.getElem?_cons_succ, Option.join_some, c1]
  rw [exs_one]
  simp [EVa, place, List.map_cons, List.map_nil, List.cons_append, List.nil_append, Nat.reduceSub, List.replicate_succ, List.replicate_zero, List.getElem?_cons_zero, List.getElem?_cons_succ, Option.join_some, m8, d1]
  rw [exs_one]
  simp [EVa, place, List.map_cons, List.map_nil, List.cons_append, List.nil_append, Nat.reduceSub, List.replicate_succ, List.replicate_zero, List.getElem?_cons_zero, List.getElem?_cons_succ, Option.join_some, tp1, e9, lZ, exs_nil]
  rw [exs_one]
  by_cases hlt : u < (q.2.2 : Nat)
  · have bn := cl u hu hlt
    subst bn
    have nlt : ¬ ((q.2.2 : Int) - 1 < u) := by omega
    simp [EVa, place, List.map_cons, List.map_nil, List.cons_append, List.nil_append, Nat.reduceSub, List.replicate_succ, List.replicate_zero, List.getElem?_cons_zero, List.getElem?_cons_succ, Option.join_some, index_tup g1, index_tup g2, nlt, al]
    exact hs'
  · have nlt : ((q.2.2 : Int) - 1 < u) := by omega
    simp [EVa, place, List.map_cons, List.map_nil, List.cons_append, List.nil_append, Nat.reduceSub, List.replicate_succ, List.replicate_zero, List.getElem?_cons_zero, List.getElem?_cons_succ, Option.join_some, index_tup g1, index_tup g2, nlt]
    exact hs'
end K57
namespace K57
open Nz PySem PySem.Spec PyProof.Rows L2
theorem goods : Goods T0 L0.defs dd0 :=
  .cons ⟨⟨rfl, rfl, rfl, by decide +kernel, rfl, by decide +kernel, by decide +kernel⟩, fun _ _ _ _ _ _ us hl => match us, hl with | [_], _ => rfl, rfl, rfl, ⟨60, by kernel_rfl⟩⟩ (
  .cons ⟨⟨rfl, rfl, rfl, by decide +kernel, rfl, by decide +kernel, by decide +kernel⟩, fun _ _ _ _ _ _ us hl => match us, hl with | [_], _ => rfl, rfl, rfl, ⟨60, by kernel_rfl⟩⟩ (
  .cons ⟨⟨rfl, rfl, rfl, by decide +kernel, rfl, by decide +kernel, by decide +kernel⟩, fun _ _ _ _ _ _ us hl => match us, hl with | [_, _, _], _ => rfl, rfl, rfl, ⟨60, by kernel_rfl⟩⟩ (
  .cons ⟨⟨rfl, rfl, rfl, by decide +kernel, rfl, by decide +kernel, by decide +kernel⟩, fun _ _ _ _ _ _ us hl => match us, hl with | [_, _, _], _ => rfl, rfl, rfl, ⟨60, by kernel_rfl⟩⟩ (
  .cons ⟨⟨rfl, rfl, rfl, by decide +kernel, rfl, by decide +kernel, by decide +kernel⟩, fun _ _ _ _ _ _ us hl => match us, hl with | [_, _], _ => rfl, rfl, rfl, ⟨60, by kernel_rfl⟩⟩ (
  .cons ⟨⟨rfl, rfl, rfl, by decide +kernel, rfl, by decide +kernel, by decide +kernel⟩, fun _ _ _ _ _ _ us hl => match us, hl with | [_], _ => rfl, rfl, rfl, ⟨60, by kernel_rfl⟩⟩ (
  .cons ⟨⟨rfl, rfl, rfl, by decide +kernel, rfl, by decide +kernel, by decide +kernel⟩, fun _ _ _ _ _ _ us hl => match us, hl with | [_], _ => rfl, rfl, rfl, ⟨60, by kernel_rfl⟩⟩ (
  .cons ⟨⟨rfl, rfl, rfl, by decide +kernel, rfl, by decide +kernel, by decide +kernel⟩, fun _ _ _ _ _ _ us hl => match us, hl with | [_], _ => rfl, rfl, rfl, ⟨60, by kernel_rfl⟩⟩ (
  .cons ⟨⟨rfl, rfl, rfl, by decide +kernel, rfl, by decide +kernel, by decide +kernel⟩, fun _ _ _ _ _ _ us hl => match us, hl with | [_, _], _ => rfl, rfl, rfl, ⟨60, by kernel_rfl⟩⟩ (
  .cons ⟨⟨rfl, rfl, rfl, by decide +kernel, rfl, by decide +kernel, by decide +kernel⟩, fun _ _ _ _ _ _ us hl => match us, hl with | [_, _], _ => rfl, rfl, rfl, ⟨60, by kernel_rfl⟩⟩ (
  .cons ⟨⟨rfl, rfl, rfl, by decide +kernel, rfl, by decide +kernel, by decide +kernel⟩, fun _ _ _ _ _ _ us hl => match us, hl with | [_], _ => rfl, rfl, rfl, ⟨60, by kernel_rfl⟩⟩ (
  .cons ⟨⟨rfl, rfl, rfl, by decide +kernel, rfl, by decide +kernel, by decide +kernel⟩, fun _ _ _ _ _ _ us hl => match us, hl with | [_], _ => rfl, rfl, rfl, ⟨60, by kernel_rfl⟩⟩ (
  .cons ⟨⟨rfl, rfl, rfl, by decide +kernel, rfl, by decide +kernel, by decide +kernel⟩, fun _ _ _ _ _ _ us hl => match us, hl with | [_, _, _], _ => rfl, rfl, rfl, ⟨60, by kernel_rfl⟩⟩ (
  .cons ⟨⟨rfl, rfl, rfl, by decide +kernel, rfl, by decide +kernel, by decide +kernel⟩, fun _ _ _ _ _ _ us hl => match us, hl with | [_, _, _, _], _ => rfl, rfl, rfl, ⟨60, by kernel_rfl⟩⟩ (
  .cons ⟨⟨rfl, rfl, rfl, by decide +kernel, rfl, by decide +kernel, by decide +kernel⟩, fun _ _ _ _ _ _ us hl => match us, hl with | [_, _, _], _ => rfl, rfl, rfl, ⟨60, by kernel_rfl⟩⟩ (
  .cons ⟨⟨rfl, rfl, rfl, by decide +kernel, rfl, by decide +kernel, by decide +kernel⟩, fun _ _ _ _ _ _ us hl => match us, hl with | [_, _, _, _, _], _ => rfl, rfl, rfl, ⟨60, by kernel_rfl⟩⟩ (
  .cons ⟨⟨rfl, rfl, rfl, by decide +kernel, rfl, by decide +kernel, by decide +kernel⟩, fun _ _ _ _ _ _ us hl => match us, hl with | [_, _, _], _ => rfl, rfl, rfl, ⟨60, by kernel_rfl⟩⟩ (
  .cons ⟨⟨rfl, rfl, rfl, by decide +kernel, rfl, by decide +kernel, by decide +kernel⟩, fun _ _ _ _ _ _ us hl => match us, hl with | [_], _ => rfl, rfl, rfl, ⟨60, by kernel_rfl⟩⟩ (
  .cons ⟨⟨rfl, rfl, rfl, by decide +kernel, rfl, by decide +kernel, by decide +kernel⟩, fun _ _ _ _ _ _ us hl => match us, hl with | [_, _, _], _ => rfl, rfl, rfl, ⟨60, by kernel_rfl⟩⟩ (
  .cons ⟨⟨rfl, rfl, rfl, by decide +kernel, rfl, by decide +kernel, by decide +kernel⟩, fun _ _ _ _ _ _ us hl => match us, hl with | [_], _ => rfl, rfl, rfl, ⟨60, by kernel_rfl⟩⟩ (
  .cons ⟨⟨rfl, rfl, rfl, by decide +kernel, rfl, by decide +kernel, by decide +kernel⟩, fun _ _ _ _ _ _ us hl => match us, hl with | [_], _ => rfl, rfl, rfl, ⟨60, by kernel_rfl⟩⟩ (
  .consX 19 401 2 ⟨rfl, by decide +kernel, rfl, rfl, ⟨_, rfl, rfl⟩, fun _ _ _ _ _ _ _ us hl => match us, hl with | [_, _], _ => rfl, rfl, rfl, ⟨60, by kernel_rfl⟩⟩ (
  .cons ⟨⟨rfl, rfl, rfl, by decide +kernel, rfl, by decide +kernel, by decide +kernel⟩, fun _ _ _ _ _ _ us hl => match us, hl with | [_, _, _], _ => rfl, rfl, rfl, ⟨60, by kernel_rfl⟩⟩ (
  .cons ⟨⟨rfl, rfl, rfl, by decide +kernel, rfl, by decide +kernel, by decide +kernel⟩, fun _ _ _ _ _ _ us hl => match us, hl with | [_, _, _, _], _ => rfl, rfl, rfl, ⟨60, by kernel_rfl⟩⟩ (
  .cons ⟨⟨rfl, rfl, rfl, by decide +kernel, rfl, by decide +kernel, by decide +kernel⟩, fun _ _ _ _ _ _ us hl => match us, hl with | [_, _], _ => rfl, rfl, rfl, ⟨60, by kernel_rfl⟩⟩ (
  .cons ⟨⟨rfl, rfl, rfl, by decide +kernel, rfl, by decide +kernel, by decide +kernel⟩, fun _ _ _ _ _ _ us hl => match us, hl with | [_, _], _ => rfl, rfl, rfl, ⟨60, by kernel_rfl⟩⟩ (
  .cons ⟨⟨rfl, rfl, rfl, by decide +kernel, rfl, by decide +kernel, by decide +kernel⟩, fun _ _ _ _ _ _ us hl => match us, hl with | [_, _], _ => rfl, rfl, rfl, ⟨60, by kernel_rfl⟩⟩ (
  .cons ⟨⟨rfl, rfl, rfl, by decide +kernel, rfl, by decide +kernel, by decide +kernel⟩, fun _ _ _ _ _ _ us hl => match us, hl with | [_, _], _ => rfl, rfl, rfl, ⟨60, by kernel_rfl⟩⟩ (
  .cons ⟨⟨rfl, rfl, rfl, by decide +kernel, rfl, by decide +kernel, by decide +kernel⟩, fun _ _ _ _ _ _ us hl => match us, hl with | [_, _, _], _ => rfl, rfl, rfl, ⟨60, by kernel_rfl⟩⟩ (
  .cons ⟨⟨rfl, rfl, rfl, by decide +kernel, rfl, by decide +kernel, by decide +kernel⟩, fun _ _ _ _ _ _ us hl => match us, hl with | [_, _, _, _], _ => rfl, rfl, rfl, ⟨60, by kernel_rfl⟩⟩ (
  .cons ⟨⟨rfl, rfl, rfl, by decide +kernel, rfl, by decide +kernel, by decide +kernel⟩, fun _ _ _ _ _ _ us hl => match us, hl with | [_], _ => rfl, rfl, rfl, ⟨60, by kernel_rfl⟩⟩ (
  .nil)))))))))))))))))))))))))))))))
end K57
open PySem PySem.W PySem.Calls PyProof.Rows
theorem PySem.Challenge.cw_bandpress_k57_whole_asked_again_holds : PySem.Challenge.rw_bandpress_k57_whole_asked_again.Holds := by
  w_on; o_law
  refine HandSHeadRun.head_any (r := OpenLaw.row PySem.Challenge.rw_bandpress_k57_whole_asked_again) (q := view (OpenLaw.row PySem.Challenge.rw_bandpress_k57_whole_asked_again).prog [33]) (H := K57.hk) (ob := K57.ob) (M := 100000) (loose := K57.lo0) (d := HandSHeadRun.topDef (OpenLaw.row PySem.Challenge.rw_bandpress_k57_whole_asked_again).prog 33) (kwd := []) K57.ob_eq
    (by kernel_rfl) (fun s => by kernel_rfl) K57.runH (by kernel_rfl) (by kernel_rfl) (by kernel_rfl) (by rfl) (by first | assumption | decide +kernel) (by decide +kernel) ⟨rfl, rfl, rfl, rfl, rfl, by decide +kernel⟩ ?hw ?hc
  case hw => w_witness2
  case hc =>
    refine L2.walk_ofE (l := PySem.Challenge.rw_bandpress_k57_whole_asked_again) (n := 63) (k := 2 * 14) (x := "script") (CX := L2.CX0) rfl (by decide) (by kernel_rfl) ⟨rfl, by decide, by decide⟩ ?F (fun _ _ _ _ z => z)
    intro w mg fa h Y G hmg0
    have hmg : mg ("law" : PySem.Str) = some (.ref fa) := by
      have e : (HandSHeadRun.topDef (OpenLaw.row PySem.Challenge.rw_bandpress_k57_whole_asked_again).prog 33).name = ("law" : PySem.Str) := by kernel_rfl
      rw [← e]
      exact hmg0
    exact Nz.law_end (kk := 14) (il := 436) (lw := "law") Y G (by kernel_rfl) K57.goods hmg (by kernel_rfl) (by kernel_rfl) (.inr ⟨by kernel_rfl, by kernel_rfl⟩) rfl K57.run_law
