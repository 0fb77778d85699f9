import PyProof.Rows.All
import Wide.All
import OpenK.AllK
import Wide.FinOn
import HandS.ForMost
import HandS.ForExc
import HandS.TupAny
import HandS.IsInst
import HandS.Conv
import HandS.Wide
import HandS.WideBits
import HandS.Defaults
import HandS.Style
import HandS.TupMul
import HandS.Dict
import HandS.TupLe
import HandS.SortRule
import KE.DatumOrd
import HandS.SortInts
import HandS.TupSets
import HandS.More
import HandS.Walk
import KE.GoesEnum
import KE.GoesMore
import HandS.Iter
import HandS.RevRange
import HandS.Zip
import HandS.Star
import HandS.Property
import HandS.DictComp
import HandS.SetFor
import PyProof.AutoSeq1
import HandS.Comp
import KE.KUnpackStar
import HandS.HeadHook1
import HandS.HeadHook2
import HandS.HeadEnd
import HandS.Head0
import HandS.Head1
import HandS.Head2
import PySem.Challenge.RW_bandpress_k23_whole_states_of_contexts
set_option linter.all false
set_option maxRecDepth 100000
set_option maxHeartbeats 0
set_option Elab.async false
/-! Nz: a small evaluator over plain data, written for this work. -/
namespace Nz
abbrev Str := PySem.Str

/-- plain data; ref: a place of the store; wt: a tuple of the written part -/
inductive D where
  | non | bl (b : Bool) | int (i : Int) | str (s : Str) | tup (ds : List D) | ref (l : Nat) | wt (ds : List D)
  deriving Inhabited
/-- what stands at a place of the store -/
inductive O where
  | lst (ds : List D) | frz (ds : List D) | ins (c : Nat) (fs : List (Nat × D)) | dct (t : Bool) (kvs : List (D × D)) | dlk (t : Bool) (kvs : List (D × D))
  deriving Inhabited
abbrev Store := List O
abbrev Env := List (Option D)

/-! ### equality by letters, closedness -/
mutual
def D.beq : D → D → Bool
  | .non, .non => true
  | .bl a, .bl b => a == b
  | .int a, .int b => a == b
  | .str a, .str b => decide (a = b)
  | .tup a, .tup b => D.beqs a b
  | .ref a, .ref b => a == b
  | .wt a, .wt b => D.beqs a b
  | _, _ => false
def D.beqs : List D → List D → Bool
  | [], [] => true
  | a :: as, b :: bs => D.beq a b && D.beqs as bs
  | _, _ => false
end
mutual
theorem D.beq_refl : ∀ a : D, D.beq a a = true
  | .non => by simp [D.beq]
  | .bl _ => by simp [D.beq]
  | .int _ => by simp [D.beq]
  | .str _ => by simp [D.beq]
  | .ref _ => by simp [D.beq]
  | .tup ds => by simp [D.beq, D.beqs_refl ds]
  | .wt ds => by simp [D.beq, D.beqs_refl ds]
theorem D.beqs_refl : ∀ a : List D, D.beqs a a = true
  | [] => by simp [D.beqs]
  | a :: as => by simp [D.beqs, D.beq_refl a, D.beqs_refl as]
end
mutual
theorem D.beq_eq : ∀ {a b : D}, D.beq a b = true → a = b
  | .non, b, h => by cases b <;> simp [D.beq] at h ⊢
  | .bl _, b, h => by cases b <;> simp [D.beq] at h ⊢; exact h
  | .int _, b, h => by cases b <;> simp [D.beq] at h ⊢; exact h
  | .str _, b, h => by cases b <;> simp [D.beq] at h ⊢; exact h
  | .ref _, b, h => by cases b <;> simp [D.beq] at h ⊢; exact h
  | .tup ds, b, h => by
    cases b with
    | tup es => rw [D.beqs_eq (a := ds) (b := es) (by simpa [D.beq] using h)]
    | _ => simp [D.beq] at h
  | .wt ds, b, h => by
    cases b with
    | wt es => rw [D.beqs_eq (a := ds) (b := es) (by simpa [D.beq] using h)]
    | _ => simp [D.beq] at h
theorem D.beqs_eq : ∀ {a b : List D}, D.beqs a b = true → a = b
  | [], b, h => by cases b <;> simp [D.beqs] at h ⊢
  | a :: as, b, h => by
    cases b with
    | nil => simp [D.beqs] at h
    | cons b bs =>
      simp only [D.beqs, Bool.and_eq_true] at h
      rw [D.beq_eq h.1, D.beqs_eq h.2]
end
instance : DecidableEq D := fun a b => if h : D.beq a b = true then .isTrue (D.beq_eq h) else .isFalse fun e => h (e ▸ D.beq_refl a)
def O.beq : O → O → Bool
  | .lst a, .lst b => D.beqs a b
  | .frz a, .frz b => D.beqs a b
  | .ins c a, .ins d b => c == d && decide (a = b)
  | .dct t a, .dct u b => t == u && decide (a = b)
  | .dlk t a, .dlk u b => t == u && decide (a = b)
  | _, _ => false
theorem O.beq_refl (a : O) : O.beq a a = true := by
  cases a <;> simp [O.beq, D.beqs_refl]
theorem O.beq_eq {a b : O} (h : O.beq a b = true) : a = b := by
  cases a <;> cases b <;> simp [O.beq] at h ⊢
  · exact D.beqs_eq h
  · exact D.beqs_eq h
  · exact h
  · exact h
  · exact h
mutual
/-- all places named lie below n -/
def D.cl (n : Nat) : D → Bool
  | .ref l => decide (l < n)
  | .tup ds => D.cls n ds
  | .wt ds => D.cls n ds
  | _ => true
def D.cls (n : Nat) : List D → Bool
  | [] => true
  | d :: ds => D.cl n d && D.cls n ds
end
def O.cl (n : Nat) : O → Bool
  | .lst ds => D.cls n ds
  | .frz ds => D.cls n ds
  | .ins _ fs => D.cls n (fs.map (·.2))
  | .dct _ kvs => D.cls n (kvs.map (·.1)) && D.cls n (kvs.map (·.2))
  | .dlk _ kvs => D.cls n (kvs.map (·.1)) && D.cls n (kvs.map (·.2))

/-! ### keys of dicts -/
def D.key0 : D → Bool
  | .int _ => true
  | .str _ => true
  | _ => false
/-- a key: false: an int or a text; true: a tuple of such -/
def D.keyOk (t : Bool) (d : D) : Bool := match t with
  | false => d.key0
  | true => (match d with
    | .tup ks => ks.all D.key0
    | _ => false)
def dGet (kvs : List (D × D)) (k : D) : Option D := (kvs.find? fun p => decide (p.1 = k)).map (·.2)
def dPut (kvs : List (D × D)) (k v : D) : List (D × D) := if (kvs.any fun p => decide (p.1 = k)) = true then kvs.map (fun p => if p.1 = k then (p.1, v) else p) else kvs ++ [(k, v)]
/-! ### results -/
inductive R (α : Type) where
  | ok (a : α) (s : Store) | no
def R.bind {α β : Type} (r : R α) (f : α → Store → R β) : R β := match r with
  | .ok a s => f a s
  | .no => .no
@[simp] theorem R.bind_ok {α β : Type} (a : α) (s : Store) (f : α → Store → R β) : (R.ok a s).bind f = f a s := (rfl)
@[simp] theorem R.bind_no {α β : Type} (f : α → Store → R β) : (R.no : R α).bind f = .no := (rfl)
theorem R.bind_assoc {α β γ : Type} (r : R α) (f : α → Store → R β) (g : β → Store → R γ) : (r.bind f).bind g = r.bind fun a s => (f a s).bind g := by cases r <;> rfl
/-- a guard -/
def R.grd {α : Type} (b : Bool) (r : R α) : R α := match b with | true => r | false => .no
@[simp] theorem R.grd_true {α : Type} (r : R α) : R.grd true r = r := (rfl)
@[simp] theorem R.grd_false {α : Type} (r : R α) : R.grd false r = .no := (rfl)
/-- behind a call: new places that nothing names any more are forgotten; a new list alone is moved to the first new place -/
def pfx (n : Nat) : Store → Store → Bool
  | [], _ => true
  | _ :: _, [] => false
  | o :: os, p :: ps => (O.beq o p || O.cl n p) && pfx n os ps
def gc (st : Store) (r : R D) : R D := match r with
  | .no => .no
  | .ok d s =>
    if pfx st.length st s then
      if D.cl st.length d then .ok d (s.take st.length)
      else match d with
        | .ref l => (match s[l]? with
          | some o => if O.cl st.length o then .ok (.ref st.length) (s.take st.length ++ [o]) else .ok d s
          | none => .ok d s)
        | _ => .ok d s
    else .ok d s

/-! ### the syntax -/
inductive BinO where | add | sub | mul | fdiv | mod | pow | shl | shr | band | bor | bxor
  deriving DecidableEq
inductive CmpO where | eq | ne | lt | le | gt | ge | is_ | isn | in_ | nin
  deriving DecidableEq
/-- built-in functions of values -/
inductive Bi where | len | abs | int | min2 | max2 | mkl | mkt | sum | all | any | sorted | min1 | max1 | bits | mkd
  deriving DecidableEq
/-- methods of lists -/
inductive Lm where | ext | ins | idx | rem
  deriving DecidableEq
/-- the kinds that isinstance asks for -/
inductive Ty where | int | bool | str | tuple | list | cls (c : Nat)
  deriving DecidableEq
inductive T where | nm (i : Nat) | tp (ts : List T)
mutual
inductive E where
  | con (d : D)
  | var (i : Nat)
  | bin (o : BinO) (a b : E)
  | neg (a : E)
  | cmp (o : CmpO) (a b : E)
  | chn (o p : CmpO) (a b c : E)
  | and (a b : E)
  | or (a b : E)
  | not (a : E)
  | ite (c : C) (a b : E)
  | tup (es : Es)
  | lst (es : Es)
  | idx (a i : E)
  | slc (a : E) (lo hi : Oe)
  | rev (a : E)
  | call (f : Nat) (es : Es)
  | bi (b : Bi) (es : Es)
  | isi (a : E) (ks : List Ty)
  | fld (a : E) (f : Nat)
  | meth (a : E) (m : Nat) (es : Es)
  | prop (a : E) (m : Nat)
  | mk (c : Nat) (es : Es)
  | app (a e : E)
  | lrng (i : Iw)
  | comp (own : List Nat) (elt : E) (t : T) (i : Iw) (c : Oc)
  | dnew (t : Bool)
  | dget (a k d : E)
  | dcomp (tt : Bool) (own : List Nat) (k v : E) (t : T) (i : Iw) (c : Oc)
  | cnt (a b : E)
  | popi (a b : E)
  | disp (ks : List Str) (es : Es)
  | lck (a e : E)
  | lm (m : Lm) (a : E) (es : Es)
  | comp2 (own vs : List Nat) (elt : E) (t : T) (i : Iw) (t2 : T) (i2 : Iw) (c : Oc)
inductive C where
  | val (e : E) | not (c : C) | and (a b : C) | or (a b : C) 
inductive Oc where | none | some (c : C)
inductive Oe where | none | some (e : E)
inductive Es where | nil | cons (e : E) (es : Es) | spl (e : E) (es : Es)
inductive Iw where
  | seq (e : E) | rng1 (a : E) | rng2 (a b : E) | rng3 (a b c : E) | enum (e : E) | zip2 (a b : E) | rrng1 (a : E) | rseq (e : E) | ditm (e : E)
end
mutual
inductive S where
  | set (t : T) (e : E)
  | par (i j : Nat) (a b : E)
  | aug (i : Nat) (o : BinO) (e : E)
  | sti (a i e : E)
  | augi (a i : E) (o : BinO) (e : E)
  | stf (a : E) (f : Nat) (e : E)
  | augf (a : E) (f : Nat) (o : BinO) (e : E)
  | ex (e : E)
  | ret (e : E)
  | retn
  | ifs (c : C) (a b : Ss)
  | for_ (t : T) (i : Iw) (b : Ss)
  | whl (c : C) (b : Ss)
  | brk | cont | pass
  | raise
  | lck (a : E) (s : S)
  | unp (ts : List T) (r : T) (e : E)
inductive Ss where | nil | cons (s : S) (ss : Ss)
end
inductive Fl where | nx | ret (d : D) | bk | ct
end Nz
namespace Nz
/-! ### operations on values -/
def mulOk (i j : Int) : Bool := decide ((-18446744073709551616 < i ∧ i < 18446744073709551616) ∨ (-18446744073709551616 < j ∧ j < 18446744073709551616)) || decide (i.natAbs.log2 + j.natAbs.log2 < 1000000)
def divOk (j : Int) : Bool := decide (0 < j) && (decide (j < 1073741824) || decide (j.natAbs.log2 < 9000))
def arith : BinO → Int → Int → Option Int
  | .add, i, j => some (i + j)
  | .sub, i, j => some (i - j)
  | .mul, i, j => if mulOk i j then some (i * j) else none
  | .fdiv, i, j => if divOk j then some (i / j) else if j ≠ 0 ∧ (j.natAbs < 1073741824 ∨ j.natAbs.log2 < 9000) then some (i.fdiv j) else none
  | .mod, i, j => if 0 < j then some (i % j) else if j ≠ 0 then some (i.fmod j) else none
  | .pow, i, j => if 0 ≤ j ∧ j ≤ 1000000 ∧ i.natAbs < 18446744073709551616 then some (i ^ j.toNat) else none
  | .shl, i, j => if 0 ≤ j ∧ (j ≤ 1000000 ∧ i.natAbs.log2 + j.toNat < 100000000) then some (i * 2 ^ j.toNat) else none
  | .shr, i, j => if 0 ≤ j then some (i / 2 ^ j.toNat) else none
  | .band, i, j => some (PySem.Builtin.bitAnd i j)
  | .bor, i, j => some (PySem.Builtin.bitOr i j)
  | .bxor, i, j => some (PySem.Builtin.bitXor i j)
/-- k copies of a list -/
def reps (k : Nat) (ds : List D) : List D := (List.replicate k ds).flatten
abbrev LINE : Nat := 16777216
def R.ofI (o : Option Int) (st : Store) : R D := match o with | some k => .ok (.int k) st | none => .no
/-- a new list -/
def newL (ds : List D) (st : Store) : R D := R.grd (decide (ds.length ≤ LINE)) (.ok (.ref st.length) (st ++ [.lst ds]))
def newT (ds : List D) (st : Store) : R D := R.grd (decide (ds.length ≤ LINE)) (.ok (.tup ds) st)
def binR (o : BinO) (l m : Nat) (st : Store) : R D := match o, st[l]?, st[m]? with
  | .add, some (.lst a), some (.lst b) => newL (a ++ b) st
  | _, _, _ => .no
def binop (o : BinO) (x y : D) (st : Store) : R D := match x with
  | .int i => (match y with
    | .int j => R.ofI (arith o i j) st
    | _ => .no)
  | .tup a => (match y with
    | .tup b => (match o with
      | .add => newT (a ++ b) st
      | _ => .no)
    | .int k => (match o with
      | .mul => R.grd (decide (-9223372036854775808 ≤ k ∧ k < 9223372036854775808)) (newT (reps k.toNat a) st)
      | _ => .no)
    | _ => .no)
  | .ref l => (match y with
    | .ref m => binR o l m st
    | .int k => (match o, st[l]? with
      | .mul, some (.lst a) => R.grd (decide (-9223372036854775808 ≤ k ∧ k < 9223372036854775808)) (newL (reps k.toNat a) st)
      | _, _ => .no)
    | _ => .no)
  | _ => .no
mutual
/-- a value as data; lk: what the places are as data -/
def toP (lk : Nat → Option PySem.PyData) : D → Option PySem.PyData
  | .non => some .none
  | .bl b => some (.bool b)
  | .int i => some (.int i)
  | .str s => some (.str s)
  | .tup ds => (toPs lk ds).map .tuple
  | .wt ds => (toPs lk ds).map .tuple
  | .ref l => lk l
def toPs (lk : Nat → Option PySem.PyData) : List D → Option (List PySem.PyData)
  | [] => some []
  | d :: ds => (match toP lk d with
    | some x => (match toPs lk ds with
      | some xs => some (x :: xs)
      | none => none)
    | none => none)
end
/-- a place as data, through at most n lists -/
def lookP (st : Store) : Nat → Nat → Option PySem.PyData
  | 0, _ => none
  | n + 1, l => (match st[l]? with
    | some (.lst ds) => (toPs (lookP st n) ds).map .list
    | some (.frz ds) => (toPs (lookP st n) ds).map .list
    | _ => none)
/-- == of data -/
def eqP (x y : D) (st : Store) : Option Bool := match toP (lookP st 8) x, toP (lookP st 8) y with
  | some a, some b => if PySem.SeqAt.shaped a && PySem.SeqAt.shaped b then some (PySem.PyData.eqv a b) else none
  | _, _ => none
def eqD (x y : D) (st : Store) : Option Bool := match x with
  | .int i => (match y with
    | .int j => some (decide (i = j))
    | .non => some false
    | .str _ => some false
    | y => eqP (.int i) y st)
  | .str s => (match y with
    | .str t => some (decide (s = t))
    | .int _ => some false
    | .non => some false
    | y => eqP (.str s) y st)
  | .bl a => (match y with
    | .bl b => some (decide (a = b))
    | y => eqP (.bl a) y st)
  | .non => (match y with
    | .non => some true
    | .int _ => some false
    | .str _ => some false
    | y => eqP .non y st)
  | x => eqP x y st
def R.ofB (o : Option Bool) (st : Store) : R D := match o with | some k => .ok (.bl k) st | none => .no
@[simp] theorem R.ofB_some (b : Bool) (st : Store) : R.ofB (some b) st = .ok (.bl b) st := (rfl)
@[simp] theorem R.ofB_none (st : Store) : R.ofB none st = .no := (rfl)
@[simp] theorem R.ofI_some (b : Int) (st : Store) : R.ofI (some b) st = .ok (.int b) st := (rfl)
@[simp] theorem R.ofI_none (st : Store) : R.ofI none st = .no := (rfl)
def ordI : CmpO → Int → Int → Option Bool
  | .lt, i, j => some (decide (i < j))
  | .le, i, j => some (decide (i ≤ j))
  | .gt, i, j => some (decide (j < i))
  | .ge, i, j => some (decide (j ≤ i))
  | _, _, _ => none
/-- scalars without the heap -/
def D.flat : D → Bool
  | .non => true
  | .bl _ => true
  | .int _ => true
  | .str _ => true
  | _ => false
/-- flat data, as in-tests compare them -/
def D.eqF : D → D → Bool
  | .bl a, .int j => (if a then 1 else 0) == j
  | .int i, .bl b => i == (if b then 1 else 0)
  | a, b => D.beq a b
/-- a dict -/
def dctOf (x : D) (st : Store) : Option (Bool × List (D × D)) := match x with
  | .ref l => (match st[l]? with
    | some (.dct t kvs) => some (t, kvs)
    | _ => none)
  | _ => none
def seqOf (x : D) (st : Store) : Option (List D) := match x with
  | .tup ds => some ds
  | .ref l => (match st[l]? with
    | some (.lst ds) => some ds
    | some (.frz ds) => some ds
    | _ => none)
  | _ => none
/-- .. or of the written part -/
def seqW (x : D) (st : Store) : Option (List D) := match x with
  | .wt ds => some ds
  | x => seqOf x st
def isIn (x y : D) (st : Store) : Option Bool := match dctOf y st with
  | some (t, kvs) => if x.keyOk t then some (dGet kvs x).isSome else none
  | none => (match seqW y st with
    | some ds => if x.flat && ds.all D.flat then some (ds.any fun d => D.eqF d x) else none
    | none => none)
/-- intsOf of a list -/
def intsOf : List D → Option (List Int)
  | [] => some []
  | .int i :: ds => (match intsOf ds with
    | some is => some (i :: is)
    | none => none)
  | _ :: _ => none
/-- > of tuples of ints: at the first difference, else the longer -/
def gtI : List Int → List Int → Bool
  | [], _ => false
  | _ :: _, [] => true
  | x :: xs, y :: ys => if x = y then gtI xs ys else decide (y < x)
def gtT (a b : List D) : Option Bool := match intsOf a, intsOf b with
  | some is, some js => some (gtI is js)
  | _, _ => none
def cmpop (o : CmpO) (x y : D) (st : Store) : R D := match o with
  | .eq => R.ofB (eqD x y st) st
  | .ne => R.ofB ((eqD x y st).map not) st
  | .is_ => (match y with
    | .non => R.ofB (some (decide (x = .non))) st
    | .bl b => (match x with
      | .bl a => R.ofB (some (decide (a = b))) st
      | _ => .no)
    | _ => .no)
  | .isn => (match y with
    | .non => R.ofB (some (!decide (x = .non))) st
    | .bl b => (match x with
      | .bl a => R.ofB (some (!decide (a = b))) st
      | _ => .no)
    | _ => .no)
  | .in_ => R.ofB (isIn x y st) st
  | .nin => R.ofB ((isIn x y st).map not) st
  | o => (match x, y with
    | .int i, .int j => R.ofB (ordI o i j) st
    | .tup a, .tup b => (match o with
      | .gt => R.ofB (gtT a b) st
      | _ => .no)
    | _, _ => .no)
/-- truth -/
def tru (x : D) (st : Store) : Option Bool := match x with
  | .non => some false
  | .bl b => some b
  | .int i => some (i != 0)
  | .tup ds => some (!ds.isEmpty)
  | .wt ds => some (!ds.isEmpty)
  | .ref l => (match st[l]? with
    | some (.lst ds) => some (!ds.isEmpty)
    | some (.frz ds) => some (!ds.isEmpty)
    | _ => none)
  | .str _ => none
/-- a place among n, of any sign -/
def place (n : Nat) (i : Int) : Option Nat := if 0 ≤ i then (if i < n then some i.toNat else none) else if -(n : Int) ≤ i then some (i + n).toNat else none
def getAt (ds : List D) (i : Int) : Option D := (place ds.length i).bind fun j => ds[j]?
def index (x i : D) (st : Store) : R D := match dctOf x st with
  | some (t, kvs) => R.grd (i.keyOk t) (match dGet kvs i with
    | some d => .ok d st
    | none => .no)
  | none => (match i with
    | .int i => (match seqW x st with
      | some ds => (match getAt ds i with
        | some d => .ok d st
        | none => .no)
      | none => .no)
    | _ => .no)
/-- x.get(k, d) -/
def dGet2 (x k d : D) (st : Store) : R D := match dctOf x st with
  | some (t, kvs) => R.grd (k.keyOk t) (.ok ((dGet kvs k).getD d) st)
  | none => .no
def bnd (n d : Nat) : Option Int → Nat
  | none => d
  | some v => if v < 0 then (v + (n : Int)).toNat else min v.toNat n
def cut (ds : List D) (lo hi : Option Int) : List D := (ds.drop (bnd ds.length 0 lo)).take (bnd ds.length ds.length hi - bnd ds.length 0 lo)
def slice (x : D) (lo hi : Option Int) (st : Store) : R D := match x with
  | .wt ds => if bnd ds.length 0 lo = 0 ∧ bnd ds.length ds.length hi = ds.length then .ok (.wt ds) st else .ok (.tup (cut ds lo hi)) st
  | .tup ds => .ok (.tup (cut ds lo hi)) st
  | .ref l => (match st[l]? with
    | some (.lst ds) => newL (cut ds lo hi) st
    | some (.frz ds) => newL (cut ds lo hi) st
    | _ => .no)
  | _ => .no
def isTy (k : Ty) (x : D) (st : Store) : Option Bool := match x with
  | .non => some false
  | .bl _ => some (match k with | .int => true | .bool => true | _ => false)
  | .int _ => some (match k with | .int => true | _ => false)
  | .str _ => some (match k with | .str => true | _ => false)
  | .tup _ => some (match k with | .tuple => true | _ => false)
  | .wt _ => some (match k with | .tuple => true | _ => false)
  | .ref l => (match st[l]? with
    | some (.lst _) => some (match k with | .list => true | _ => false)
    | some (.frz _) => some (match k with | .list => true | _ => false)
    | some (.ins c _) => some (match k with | .cls d => c == d | _ => false)
    | _ => none)
def isAny (x : D) (st : Store) : List Ty → Option Bool
  | [] => some false
  | k :: ks => (match isTy k x st with
    | some true => some true
    | some false => isAny x st ks
    | none => none)
def boolsOf : List D → Option (List Bool)
  | [] => some []
  | .bl i :: ds => (match boolsOf ds with
    | some is => some (i :: is)
    | none => none)
  | _ :: _ => none
def lstOf (x : D) (st : Store) : Option (List D) := match x with
  | .ref l => (match st[l]? with
    | some (.lst ds) => some ds
    | some (.frz ds) => some ds
    | _ => none)
  | _ => none
def b1 (f : D → Store → R D) (ds : List D) (st : Store) : R D := match ds with
  | [x] => f x st
  | _ => .no
def biLen (x : D) (st : Store) : R D := match seqW x st with
  | some ds => .ok (.int ds.length) st
  | none => .no
def biAbs (x : D) (st : Store) : R D := match x with
  | .int i => .ok (.int (if i < 0 then -i else i)) st
  | _ => .no
def biInt (x : D) (st : Store) : R D := match x with
  | .int i => .ok (.int i) st
  | .bl b => .ok (.int (if b then 1 else 0)) st
  | _ => .no
def biMkl (x : D) (st : Store) : R D := match seqOf x st with
  | some ds => newL ds st
  | none => (match dctOf x st with
    | some (false, kvs) => newL (kvs.map (·.1)) st
    | _ => .no)
/-- dict(d) -/
def biMkd (x : D) (st : Store) : R D := match dctOf x st with
  | some (false, kvs) => .ok (.ref st.length) (st ++ [.dct false kvs])
  | _ => .no
def biMkt (x : D) (st : Store) : R D := match x with
  | .wt ds => .ok (.wt ds) st
  | x => (match seqOf x st with
    | some ds => newT ds st
    | none => .no)
def biSum (x : D) (st : Store) : R D := match lstOf x st with
  | some ds => (match intsOf ds with
    | some is => .ok (.int is.sum) st
    | none => .no)
  | none => .no
def biAll (x : D) (st : Store) : R D := match lstOf x st with
  | some ds => (match boolsOf ds with
    | some is => .ok (.bl (is.all id)) st
    | none => .no)
  | none => .no
def biAny (x : D) (st : Store) : R D := match lstOf x st with
  | some ds => (match boolsOf ds with
    | some is => .ok (.bl (is.any id)) st
    | none => .no)
  | none => .no
def bi2 (f : Int → Int → Int) (ds : List D) (st : Store) : R D := match ds with
  | [.int i, .int j] => .ok (.int (f i j)) st
  | _ => .no
def biMax1 (x : D) (st : Store) : R D := match lstOf x st with
  | some ds => (match intsOf ds with
    | some is => (match is.max? with
      | some m => .ok (.int m) st
      | none => .no)
    | none => .no)
  | none => .no
/-- the items of a list or a tuple -/
def tlOf (x : D) (st : Store) : Option (List D) := match x with
  | .tup ds => some ds
  | x => lstOf x st
def biMin1 (x : D) (st : Store) : R D := match tlOf x st with
  | some ds => (match intsOf ds with
    | some is => (match is.min? with
      | some m => .ok (.int m) st
      | none => .no)
    | none => .no)
  | none => .no
/-- pairs of ints -/
def prsOf : List D → Option (List (Int × Int))
  | [] => some []
  | .tup [.int a, .int b] :: ds => (match prsOf ds with
    | some ps => some ((a, b) :: ps)
    | none => none)
  | _ => none
def pd2 (p : Int × Int) : D := .tup [.int p.1, .int p.2]
def leP (p q : Int × Int) : Bool := decide (p.1 < q.1 ∨ (p.1 = q.1 ∧ p.2 ≤ q.2))
def sortP (ps : List (Int × Int)) : List (Int × Int) := ps.mergeSort leP
def sortI (is : List Int) : List Int := is.mergeSort fun a b => decide (a ≤ b)
/-- triples of small ints -/
abbrev T3 : Type := Int × Int × Int
def sm3 (a : Int) : Bool := decide (0 ≤ a ∧ a < 1048576)
def trsOf : List D → Option (List T3)
  | [] => some []
  | .tup [.int a, .int b, .int c] :: ds => (match trsOf ds with
    | some ps => if sm3 a && (sm3 b && sm3 c) then some ((a, b, c) :: ps) else none
    | none => none)
  | _ => none
def td3 (p : T3) : D := .tup [.int p.1, .int p.2.1, .int p.2.2]
def code3 (p : T3) : Int := (p.1 * 1048576 + p.2.1) * 1048576 + p.2.2
def sortT3 (ps : List T3) : List T3 := ps.mergeSort fun a b => decide (code3 a ≤ code3 b)
def biSorted (x : D) (st : Store) : R D := match lstOf x st with
  | some ds => (match intsOf ds with
    | some is => newL ((sortI is).map .int) st
    | none => (match prsOf ds with
      | some ps => newL ((sortP ps).map pd2) st
      | none => (match trsOf ds with
        | some ps => R.grd (decide (ps.length < 64)) (newL ((sortT3 ps).map td3) st)
        | none => .no)))
  | none => .no
def biBits (x : D) (st : Store) : R D := match x with
  | .int i => .ok (.int (PySem.Builtin.Int.intBits i : Nat)) st
  | _ => .no
def builtin (b : Bi) (ds : List D) (st : Store) : R D := match b with
  | .len => b1 biLen ds st
  | .abs => b1 biAbs ds st
  | .int => b1 biInt ds st
  | .mkl => b1 biMkl ds st
  | .mkt => b1 biMkt ds st
  | .sum => b1 biSum ds st
  | .all => b1 biAll ds st
  | .any => b1 biAny ds st
  | .max2 => bi2 (fun i j => if j > i then j else i) ds st
  | .min2 => bi2 (fun i j => if j < i then j else i) ds st
  | .max1 => b1 biMax1 ds st
  | .min1 => b1 biMin1 ds st
  | .sorted => b1 biSorted ds st
  | .bits => b1 biBits ds st
  | .mkd => b1 biMkd ds st
def append (x d : D) (st : Store) : R D := match x with
  | .ref l => (match st[l]? with
    | some (.lst ds) => R.grd (decide (ds.length < LINE)) (.ok .non (st.set l (.lst (ds ++ [d]))))
    | _ => .no)
  | _ => .no
/-- what a list is extended by -/
def extOf (y : D) (st : Store) : Option (List D) := match y with
  | .tup ys => some ys
  | .ref m => (match st[m]? with
    | some (.lst ys) => some ys
    | _ => none)
  | _ => none
/-- methods of lists: extend by a list or a tuple, insert, index of flat data, remove of an int -/
def lmR (m : Lm) (x : D) (ds : List D) (st : Store) : R D := match x with
  | .ref l => (match m, ds, st[l]? with
    | .ext, [y], some (.lst xs) => (match extOf y st with
      | some ys => R.grd (decide (xs.length + ys.length ≤ LINE)) (.ok .non (st.set l (.lst (xs ++ ys))))
      | none => .no)
    | .ins, [.int i, d], some (.lst xs) => R.grd (decide (0 ≤ i ∧ i < 4611686018427387904) && decide (xs.length < LINE)) (.ok .non (st.set l (.lst (xs.take i.toNat ++ [d] ++ xs.drop i.toNat))))
    | .idx, [y], some (.lst xs) => R.grd (y.flat && xs.all D.flat) (match xs.findIdx? (fun z => D.eqF z y) with
      | some j => .ok (.int (j : Nat)) st
      | none => .no)
    | .rem, [.int k], some (.lst xs) => (match intsOf xs with
      | some is => R.grd (is.contains k) (.ok .non (st.set l (.lst ((is.erase k).map .int))))
      | none => .no)
    | _, _, _ => .no)
  | _ => .no
/-- d[k] = v of a new dict -/
def dPutR (l : Nat) (t : Bool) (x y : D) (st : Store) : R D := match st[l]? with
  | some (.dct u kvs) => R.grd (u == t && (x.keyOk t && decide (kvs.length < LINE))) (.ok .non (st.set l (.dct t (dPut kvs x y))))
  | _ => .no
/-- x.count(y) of ints -/
def cntR (x y : D) (st : Store) : R D := match lstOf x st with
  | some ds => (match y with
    | .int k => (match intsOf ds with
      | some is => .ok (.int (is.count k : Nat)) st
      | none => .no)
    | _ => .no)
  | none => .no
/-- x.pop(i) -/
def popR (x y : D) (st : Store) : R D := match x with
  | .ref l => (match st[l]? with
    | some (.lst ds) => (match y with
      | .int i => R.grd (decide (-9223372036854775808 ≤ i ∧ i < 9223372036854775808)) (match place ds.length i with
        | some j => (match ds[j]? with
          | some d => .ok d (st.set l (.lst (ds.eraseIdx j)))
          | none => .no)
        | none => .no)
      | _ => .no)
    | _ => .no)
  | _ => .no
/-- the pairs of a display are put -/
def dispK : List Str → List D → List (D × D) → List (D × D)
  | k :: ks, d :: ds, kvs => dispK ks ds (dPut kvs (.str k) d)
  | _, _, kvs => kvs
def dispR (ks : List Str) (l : Nat) (ds : List D) (st : Store) : R D := match st[l]? with
  | some (.dct false []) => .ok (.ref l) (st.set l (.dct false (dispK ks ds [])))
  | _ => .no
def setAt (x i d : D) (st : Store) : R D := match x with
  | .ref l => (match st[l]? with
    | some (.lst ds) => (match i with
      | .int i => (match place ds.length i with
        | some j => .ok .non (st.set l (.lst (ds.set j d)))
        | none => .no)
      | _ => .no)
    | some (.dct t kvs) => R.grd (i.keyOk t && decide (kvs.length < LINE)) (.ok .non (st.set l (.dct t (dPut kvs i d))))
    | _ => .no)
  | _ => .no
def getF (f : Nat) : List (Nat × D) → Option D
  | [] => none
  | (g, d) :: r => if g = f then some d else getF f r
def putF (f : Nat) (d : D) : List (Nat × D) → List (Nat × D)
  | [] => [(f, d)]
  | (g, x) :: r => if g = f then (g, d) :: r else (g, x) :: putF f d r
def field (x : D) (f : Nat) (st : Store) : R D := match x with
  | .ref l => (match st[l]? with
    | some (.ins _ fs) => (match getF f fs with
      | some d => .ok d st
      | none => .no)
    | _ => .no)
  | _ => .no
def clsOf (x : D) (st : Store) : Option Nat := match x with
  | .ref l => (match st[l]? with
    | some (.ins c _) => some c
    | _ => none)
  | _ => none
def setField (x : D) (f : Nat) (d : D) (st : Store) : R D := match x with
  | .ref l => (match st[l]? with
    | some (.ins c fs) => R.grd (decide (fs.length < 100)) (.ok .non (st.set l (.ins c (putF f d fs))))
    | _ => .no)
  | _ => .no
/-! ### what is walked: the items, and the list that must stand still -/
structure Wk where
  its : List D
  wat : List (Nat × O)
def watOk (w : List (Nat × O)) (st : Store) : Bool := w.all fun p => match st[p.1]? with
  | some o => O.beq p.2 o
  | none => false
def rangeL (lo : Int) (n : Nat) : List D := (List.range n).map fun k => .int (lo + (k : Nat))
def rngOk (i : Int) : Bool := decide (-4611686018427387904 ≤ i ∧ i < 4611686018427387904)
def wkSeq (x : D) (st : Store) : R Wk := match x with
  | .tup ds => .ok ⟨ds, []⟩ st
  | .wt ds => .ok ⟨ds, []⟩ st
  | .ref l => (match st[l]? with
    | some (.lst ds) => .ok ⟨ds, [(l, .lst ds)]⟩ st
    | some (.frz ds) => .ok ⟨ds, [(l, .frz ds)]⟩ st
    | _ => .no)
  | _ => .no
def wkRng (x y : D) (st : Store) : R Wk := match x, y with
  | .int i, .int j => R.grd (rngOk i && rngOk j) (.ok ⟨rangeL i (j - i).toNat, []⟩ st)
  | _, _ => .no
def range3L (lo c : Int) (n : Nat) : List D := (List.range n).map fun k => .int (lo + (k : Nat) * c)
def wkRng3 (x y z : D) (st : Store) : R Wk := match x, y, z with
  | .int i, .int j, .int c => R.grd (decide (c ≠ 0) && (decide (c.natAbs < 1073741824) && PySem.Builtin.Range.small i j c)) (.ok ⟨range3L i c (PySem.Builtin.Range.rangeSize i j c).toNat, []⟩ st)
  | _, _, _ => .no
/-- the items of a tuple or list that is unpacked -/
def seqR (x : D) (st : Store) : R (List D) := match seqW x st with
  | some ds => .ok ds st
  | none => .no
def pairs (f : D → D → D) : List D → List D → List D
  | a :: as, b :: bs => f a b :: pairs f as bs
  | _, _ => []
def numbered (n : Nat) : List D → List D
  | [] => []
  | d :: ds => .tup [.int (n : Nat), d] :: numbered (n + 1) ds
def wkEnum (x : D) (st : Store) : R Wk := (wkSeq x st).bind fun w s => .ok ⟨numbered 0 w.its, w.wat⟩ s
def wkZip (x y : D) (st : Store) : R Wk := match x, y with
  | .tup a, .tup b => .ok ⟨pairs (fun a b => .tup [a, b]) a b, []⟩ st
  | .ref l, .ref m => (match st[l]?, st[m]? with
    | some (.lst a), some (.lst b) => .ok ⟨pairs (fun a b => .tup [a, b]) a b, [(l, .lst a), (m, .lst b)]⟩ st
    | _, _ => .no)
  | _, _ => .no
def wkRev (x : D) (st : Store) : R Wk := (wkSeq x st).bind fun v s => .ok ⟨v.its.reverse, v.wat⟩ s
/-- the pairs of a dict that is locked -/
def wkItm (x : D) (st : Store) : R Wk := match x with
  | .ref l => (match st[l]? with
    | some (.dlk false kvs) => .ok ⟨kvs.map fun p => .tup [p.1, p.2], [(l, .dlk false kvs)]⟩ st
    | _ => .no)
  | _ => .no
/-- something done while a dict is locked -/
def lckR {α : Type} (x : R D) (st : Store) (g : Store → R α) : R α := match x with
  | .ok (.ref l) _ => (match st[l]? with
    | some (.dct t kvs) => (g (st.set l (.dlk t kvs))).bind fun r s => (match s[l]? with
      | some (.dlk u ps) => .ok r (s.set l (.dct u ps))
      | _ => .no)
    | _ => .no)
  | _ => .no
mutual
def T.asg : T → D → Env → Option Env
  | .nm i, d, ρ => some (ρ.set i (some d))
  | .tp ts, d, ρ => (match d with
    | .tup ds => T.asgs ts ds ρ
    | .wt ds => T.asgs ts ds ρ
    | _ => none)
def T.asgs : List T → List D → Env → Option Env
  | [], [], ρ => some ρ
  | t :: ts, d :: ds, ρ => (match T.asg t d ρ with
    | some ρ' => T.asgs ts ds ρ'
    | none => none)
  | _, _, _ => none
end
/-- behind a turn: places made within it are forgotten, if nothing names them -/
def cutB (c : Bool) (st₀ : Store) (o : Option D) (s : Store) : Bool := c && (pfx st₀.length st₀ s && (match o with
  | some x => D.cl st₀.length x
  | none => true))
def cutT (b : Bool) (st₀ s : Store) : Store := match b with
  | true => s.take st₀.length
  | false => s
def envCl (n : Nat) (ρ : Env) : Bool := ρ.all fun o => match o with
  | some d => D.cl n d
  | none => true
def cutE (st₀ : Store) (ρ : Env) (s : Store) : Store := cutT (pfx st₀.length st₀ s && envCl st₀.length ρ) st₀ s
def compLoop (step : D → Store → R (Option D)) (wat : List (Nat × O)) (st₀ : Store) : Bool → List D → Store → R (List D)
  | _, [], st => R.grd (watOk wat st) (.ok [] st)
  | c, d :: ds, st => R.grd (watOk wat st) ((step d st).bind fun o s => (compLoop step wat st₀ (cutB c st₀ o s) ds (cutT (cutB c st₀ o s) st₀ s)).bind fun r s' => .ok (match o with
    | some x => x :: r
    | none => r) s')
/-- a walk whose turns change the store alone -/
def lpU (step : D → Store → R D) (wat : List (Nat × O)) : List D → Store → R D
  | [], st => R.grd (watOk wat st) (.ok .non st)
  | d :: ds, st => R.grd (watOk wat st) ((step d st).bind fun _ s => lpU step wat ds s)
def forget (ρ : Env) : List Nat → Env
  | [] => ρ
  | v :: vs => (forget ρ vs).set v none
/-- names that had no value ahead of a loop are forgotten behind each turn -/
def mask : Env → Env → Env
  | some _ :: a, x :: b => x :: mask a b
  | none :: a, _ :: b => none :: mask a b
  | [], _ :: b => none :: mask [] b
  | _, [] => []
def forLoop (body : Env → Store → R (Fl × Env)) (t : T) (ρ₀ : Env) (st₀ : Store) (wat : List (Nat × O)) : List D → Env → Store → R (Fl × Env)
  | [], ρ, st => R.grd (watOk wat st) (.ok (.nx, ρ) st)
  | d :: ds, ρ, st => R.grd (watOk wat st) (match T.asg t d ρ with
    | none => .no
    | some ρ1 => (body ρ1 st).bind fun p s => (match p.1 with
      | .nx => forLoop body t ρ₀ st₀ wat ds (mask ρ₀ p.2) (cutE st₀ (mask ρ₀ p.2) s)
      | .ct => forLoop body t ρ₀ st₀ wat ds (mask ρ₀ p.2) (cutE st₀ (mask ρ₀ p.2) s)
      | .bk => .ok (.nx, mask ρ₀ p.2) (cutE st₀ (mask ρ₀ p.2) s)
      | .ret v => .ok (.ret v, p.2) s))
def whlLoop (test : Env → Store → R Bool) (body : Env → Store → R (Fl × Env)) (ρ₀ : Env) (st₀ : Store) (n : Nat) : Env → Store → R (Fl × Env) :=
  Nat.rec (motive := fun _ => Env → Store → R (Fl × Env)) (fun _ _ => .no) (fun _ ih ρ st => (test ρ st).bind fun b s => (match b with
    | false => .ok (.nx, ρ) s
    | true => (body ρ s).bind fun p s => (match p.1 with
      | .nx => ih (mask ρ₀ p.2) (cutE st₀ (mask ρ₀ p.2) s)
      | .ct => ih (mask ρ₀ p.2) (cutE st₀ (mask ρ₀ p.2) s)
      | .bk => .ok (.nx, mask ρ₀ p.2) (cutE st₀ (mask ρ₀ p.2) s)
      | .ret v => .ok (.ret v, p.2) s))) n
def WF : Nat := 1099511627776
structure Ctx where
  meth : List (List (Nat × Nat))
  prop : List (List (Nat × Nat))
  init : List (Option Nat)
/-- by a class, what a name stands for -/
def atOf (l : List (List (Nat × Nat))) (m c : Nat) : Option Nat := match l[m]? with
  | some r => r.lookup c
  | none => none
def R.ofO (o : Option D) (st : Store) : R D := match o with | some k => .ok k st | none => .no
def R.asB (d : D) (st : Store) : R Bool := match tru d st with | some b => .ok b st | none => .no
/-- the function that a value's class has -/
def methF (l : List (List (Nat × Nat))) (m : Nat) (x : D) (st : Store) : Option Nat := match clsOf x st with
  | some c => atOf l m c
  | none => none
def propR (G : Ctx) (call : Nat → List D → Store → R D) (m : Nat) (x : D) (st : Store) : R D := match methF G.prop m x st with
  | some f => call f [x] st
  | none => .no
def mkR (G : Ctx) (call : Nat → List D → Store → R D) (c : Nat) (ds : List D) (st : Store) : R D := match G.init[c]? with
  | some (some f) => (call f (.ref st.length :: ds) (st ++ [.ins c []])).bind fun d s => (match d with
    | .non => .ok (.ref st.length) s
    | _ => .no)
  | _ => .no
mutual
def ev (G : Ctx) (call : Nat → List D → Store → R D) : E → Env → Store → R D
  | .con d, _, st => .ok d st
  | .var i, ρ, st => R.ofO (ρ[i]?.join) st
  | .bin o a b, ρ, st => (ev G call a ρ st).bind fun x s => (ev G call b ρ s).bind fun y s => binop o x y s
  | .neg a, ρ, st => (ev G call a ρ st).bind fun x s => (match x with
    | .int i => .ok (.int (-i)) s
    | _ => .no)
  | .cmp o a b, ρ, st => (ev G call a ρ st).bind fun x s => (ev G call b ρ s).bind fun y s => cmpop o x y s
  | .chn o p a b c, ρ, st => (ev G call a ρ st).bind fun x s => (ev G call b ρ s).bind fun y s => (cmpop o x y s).bind fun k s => (match k with
    | .bl true => (ev G call c ρ s).bind fun z s => cmpop p y z s
    | .bl false => .ok (.bl false) s
    | _ => .no)
  | .and a b, ρ, st => (ev G call a ρ st).bind fun x s => (match x with
    | .bl true => ev G call b ρ s
    | .bl false => .ok (.bl false) s
    | _ => .no)
  | .or a b, ρ, st => (ev G call a ρ st).bind fun x s => (match x with
    | .bl true => .ok (.bl true) s
    | .bl false => ev G call b ρ s
    | _ => .no)
  | .not a, ρ, st => (ev G call a ρ st).bind fun x s => (match x with
    | .bl b => .ok (.bl (!b)) s
    | _ => .no)
  | .ite c a b, ρ, st => (evC G call c ρ st).bind fun k s => (match k with
    | true => ev G call a ρ s
    | false => ev G call b ρ s)
  | .tup es, ρ, st => (evs G call es ρ st).bind fun ds s => newT ds s
  | .lst es, ρ, st => (evs G call es ρ st).bind fun ds s => newL ds s
  | .idx a i, ρ, st => (ev G call a ρ st).bind fun x s => (ev G call i ρ s).bind fun y s => index x y s
  | .slc a lo hi, ρ, st => (ev G call a ρ st).bind fun x s => (evO G call lo ρ s).bind fun l s => (evO G call hi ρ s).bind fun h s => slice x l h s
  | .rev a, ρ, st => (ev G call a ρ st).bind fun x s => (match x with
    | .tup ds => .ok (.tup ds.reverse) s
    | x => (match lstOf x s with
      | some ds => newL ds.reverse s
      | none => .no))
  | .call f es, ρ, st => (evs G call es ρ st).bind fun ds s => call f ds s
  | .bi b es, ρ, st => (evs G call es ρ st).bind fun ds s => builtin b ds s
  | .isi a ks, ρ, st => (ev G call a ρ st).bind fun x s => R.ofB (isAny x s ks) s
  | .fld a f, ρ, st => (ev G call a ρ st).bind fun x s => field x f s
  | .meth a m es, ρ, st => (ev G call a ρ st).bind fun x s => (match methF G.meth m x s with
    | some f => (evs G call es ρ s).bind fun ds s => call f (x :: ds) s
    | none => .no)
  | .prop a m, ρ, st => (ev G call a ρ st).bind fun x s => propR G call m x s
  | .mk c es, ρ, st => (evs G call es ρ st).bind fun ds s => mkR G call c ds s
  | .app a e, ρ, st => (ev G call a ρ st).bind fun x s => R.grd (lstOf x s).isSome ((ev G call e ρ s).bind fun y s => append x y s)
  | .lrng i, ρ, st => (evi G call i ρ st).bind fun w s => newL w.its s
  | .dnew t, _, st => .ok (.ref st.length) (st ++ [.dct t []])
  | .dget a k d, ρ, st => (ev G call a ρ st).bind fun x s => R.grd (dctOf x s).isSome ((ev G call k ρ s).bind fun y s => (ev G call d ρ s).bind fun z s => dGet2 x y z s)
  | .dcomp tt own k v t i c, ρ, st => (evi G call i ρ st).bind fun w s => (lpU (fun d s1 => (match T.asg t d (forget ρ own) with
      | none => .no
      | some ρ1 => (evOc G call c ρ1 s1).bind fun b s2 => (match b with
        | true => (ev G call k ρ1 s2).bind fun x s3 => (ev G call v ρ1 s3).bind fun y s4 => dPutR s.length tt x y s4
        | false => .ok .non s2))) w.wat w.its (s ++ [.dct tt []])).bind fun _ s' => .ok (.ref s.length) s'
  | .lck a e, ρ, st => lckR (ev G call a ρ st) st fun s => ev G call e ρ s
  | .lm m a es, ρ, st => (ev G call a ρ st).bind fun x s => R.grd (lstOf x s).isSome ((evs G call es ρ s).bind fun ds s => lmR m x ds s)
  | .cnt a b, ρ, st => (ev G call a ρ st).bind fun x s => R.grd (lstOf x s).isSome ((ev G call b ρ s).bind fun y s => cntR x y s)
  | .popi a b, ρ, st => (ev G call a ρ st).bind fun x s => R.grd (lstOf x s).isSome ((ev G call b ρ s).bind fun y s => popR x y s)
  | .disp ks es, ρ, st => (evs G call es ρ (st ++ [.dct false []])).bind fun ds s => dispR ks st.length ds s
  | .comp own e t i c, ρ, st => (evi G call i ρ st).bind fun w s => (compLoop (fun d s => (match T.asg t d (forget ρ own) with
      | none => .no
      | some ρ1 => (evOc G call c ρ1 s).bind fun k s => (match k with
        | true => (ev G call e ρ1 s).bind fun x s => .ok (some x) s
        | false => .ok none s))) w.wat s true w.its s).bind fun ds s => newL ds s
  | .comp2 own vs e t i t2 i2 c, ρ, st => (evi G call i ρ st).bind fun w s => (lpU (fun d s1 => (match T.asg t d (forget ρ own) with
      | none => .no
      | some ρ1 => (evi G call i2 ρ1 s1).bind fun w1 s2 => lpU (fun d s3 => (match T.asg t2 d (forget ρ1 vs) with
        | none => .no
        | some ρ2 => (evOc G call c ρ2 s3).bind fun k s4 => (match k with
          | true => (ev G call e ρ2 s4).bind fun x s5 => append (.ref s.length) x s5
          | false => .ok .non s4))) w1.wat w1.its s2)) w.wat w.its (s ++ [.lst []])).bind fun _ s' => .ok (.ref s.length) s'
def evC (G : Ctx) (call : Nat → List D → Store → R D) : C → Env → Store → R Bool
  | .val e, ρ, st => (ev G call e ρ st).bind fun d s => R.asB d s
  | .not c, ρ, st => (evC G call c ρ st).bind fun b s => .ok (!b) s
  | .and a b, ρ, st => (evC G call a ρ st).bind fun k s => (match k with
    | true => evC G call b ρ s
    | false => .ok false s)
  | .or a b, ρ, st => (evC G call a ρ st).bind fun k s => (match k with
    | true => .ok true s
    | false => evC G call b ρ s)
def evOc (G : Ctx) (call : Nat → List D → Store → R D) : Oc → Env → Store → R Bool
  | .none, _, st => .ok true st
  | .some c, ρ, st => evC G call c ρ st
def evO (G : Ctx) (call : Nat → List D → Store → R D) : Oe → Env → Store → R (Option Int)
  | .none, _, st => .ok none st
  | .some e, ρ, st => (ev G call e ρ st).bind fun x s => (match x with
    | .int i => .ok (some i) s
    | _ => .no)
def evs (G : Ctx) (call : Nat → List D → Store → R D) : Es → Env → Store → R (List D)
  | .nil, _, st => .ok [] st
  | .cons e es, ρ, st => (ev G call e ρ st).bind fun x s => (evs G call es ρ s).bind fun xs s => .ok (x :: xs) s
  | .spl e es, ρ, st => (ev G call e ρ st).bind fun x s => (seqR x s).bind fun ds s => (evs G call es ρ s).bind fun xs s => .ok (ds ++ xs) s
def evi (G : Ctx) (call : Nat → List D → Store → R D) : Iw → Env → Store → R Wk
  | .seq e, ρ, st => (ev G call e ρ st).bind fun x s => wkSeq x s
  | .rng1 a, ρ, st => (ev G call a ρ st).bind fun x s => wkRng (.int 0) x s
  | .rng2 a b, ρ, st => (ev G call a ρ st).bind fun x s => (ev G call b ρ s).bind fun y s => wkRng x y s
  | .rng3 a b c, ρ, st => (ev G call a ρ st).bind fun x s => (ev G call b ρ s).bind fun y s => (ev G call c ρ s).bind fun z s => wkRng3 x y z s
  | .enum e, ρ, st => (ev G call e ρ st).bind fun x s => wkEnum x s
  | .zip2 a b, ρ, st => (ev G call a ρ st).bind fun x s => (ev G call b ρ s).bind fun y s => wkZip x y s
  | .rrng1 a, ρ, st => (ev G call a ρ st).bind fun x s => (wkRng (.int 0) x s).bind fun w s => .ok ⟨w.its.reverse, []⟩ s
  | .rseq e, ρ, st => (ev G call e ρ st).bind fun x s => wkRev x s
  | .ditm e, ρ, st => (ev G call e ρ st).bind fun x s => wkItm x s
end
mutual
def ex (G : Ctx) (call : Nat → List D → Store → R D) : S → Env → Store → R (Fl × Env)
  | .set t e, ρ, st => (ev G call e ρ st).bind fun d s => (match T.asg t d ρ with
    | some ρ' => .ok (.nx, ρ') s
    | none => .no)
  | .par i j a b, ρ, st => (ev G call a ρ st).bind fun x s => (ev G call b ρ s).bind fun y s => .ok (.nx, (ρ.set i (some x)).set j (some y)) s
  | .aug i o e, ρ, st => (R.ofO (ρ[i]?.join) st).bind fun x s => (ev G call e ρ s).bind fun y s => (match x, y with
    | .int _, .int _ => (binop o x y s).bind fun d s => .ok (.nx, ρ.set i (some d)) s
    | _, _ => .no)
  | .sti a i e, ρ, st => (ev G call e ρ st).bind fun d s => (ev G call a ρ s).bind fun x s => (ev G call i ρ s).bind fun y s => (setAt x y d s).bind fun _ s => .ok (.nx, ρ) s
  | .augi a i o e, ρ, st => (ev G call a ρ st).bind fun x s => (ev G call i ρ s).bind fun y s => R.grd ((lstOf x s).isSome || (dctOf x s).isSome) ((index x y s).bind fun v s => (ev G call e ρ s).bind fun z s => (match v, z with
    | .int _, .int _ => (binop o v z s).bind fun d s => (setAt x y d s).bind fun _ s => .ok (.nx, ρ) s
    | _, _ => .no))
  | .stf a f e, ρ, st => (ev G call e ρ st).bind fun d s => (ev G call a ρ s).bind fun x s => (setField x f d s).bind fun _ s => .ok (.nx, ρ) s
  | .augf a f o e, ρ, st => (ev G call a ρ st).bind fun x s0 => (field x f s0).bind fun v s => (ev G call e ρ s).bind fun z s => R.grd (clsOf x s0 == clsOf x s) (match v, z with
    | .int _, .int _ => (binop o v z s).bind fun d s => (setField x f d s).bind fun _ s => .ok (.nx, ρ) s
    | _, _ => .no)
  | .ex e, ρ, st => (ev G call e ρ st).bind fun _ s => .ok (.nx, ρ) s
  | .ret e, ρ, st => (ev G call e ρ st).bind fun d s => .ok (.ret d, ρ) s
  | .retn, ρ, st => .ok (.ret .non, ρ) st
  | .ifs c a b, ρ, st => (evC G call c ρ st).bind fun k s => (match k with
    | true => exs G call a ρ s
    | false => exs G call b ρ s)
  | .for_ t i b, ρ, st => (evi G call i ρ st).bind fun w s => forLoop (fun ρ s => exs G call b ρ s) t ρ s w.wat w.its ρ s
  | .whl c b, ρ, st => whlLoop (fun ρ s => evC G call c ρ s) (fun ρ s => exs G call b ρ s) ρ st WF ρ st
  | .brk, ρ, st => .ok (.bk, ρ) st
  | .cont, ρ, st => .ok (.ct, ρ) st
  | .pass, ρ, st => .ok (.nx, ρ) st
  | .raise, _, _ => .no
  | .lck a b, ρ, st => lckR (ev G call a ρ st) st fun s => ex G call b ρ s
  | .unp ts r e, ρ, st => (ev G call e ρ st).bind fun d s => (match d with
    | .tup ds => R.grd (decide (ts.length ≤ ds.length) && decide (ds.length ≤ 1000)) (match T.asgs ts (ds.take ts.length) ρ with
      | some ρ1 => (match T.asg r (.ref s.length) ρ1 with
        | some ρ2 => .ok (.nx, ρ2) (s ++ [.lst (ds.drop ts.length)])
        | none => .no)
      | none => .no)
    | _ => .no)
def exs (G : Ctx) (call : Nat → List D → Store → R D) : Ss → Env → Store → R (Fl × Env)
  | .nil, ρ, st => .ok (.nx, ρ) st
  | .cons s ss, ρ, st => (ex G call s ρ st).bind fun p s => (match p.1 with
    | .nx => exs G call ss p.2 s
    | f => .ok (f, p.2) s)
end
structure Df where
  np : Nat
  ns : Nat
  body : Ss
structure Prog where
  defs : List (Nat × Df)
  G : Ctx
def fin (p : Fl × Env) (s : Store) : R D := match p.1 with
  | .ret d => .ok d s
  | .nx => .ok .non s
  | _ => .no
def run (P : Prog) : Nat → Nat → List D → Store → R D
  | 0, _, _, _ => .no
  | k + 1, f, ds, st => (match P.defs.lookup f with
    | some d => R.grd (ds.length == d.np) (gc st ((exs P.G (run P k) d.body (ds.map some ++ List.replicate (d.ns - d.np) none) st).bind fin))
    | none => .no)
end Nz
namespace Nz
open PySem (Expr Stmt Scope NameKind Comprehension)
/-- what the names of a def stand for -/
structure Tab where
  N : List Str
  fns : List (Str × Nat)
  cls : List (Str × Nat)
  cons : List (Str × D)
  fld : List Str
  mth : List Str
  prp : List Str
  free : List Str
  kfs : List (Str × Nat × Str × Option D) := []
  dts : List (Nat × Nat) := []
/-- a def with one keyword-only parameter -/
def isKw (K : Tab) (i : Nat) : Bool := K.kfs.any fun p => p.2.1 == i
/-- an argument behind the others -/
def Es.snoc : Es → E → Es
  | .nil, e => .cons e .nil
  | .cons a r, e => .cons a (Es.snoc r e)
  | .spl a r, e => .spl a (Es.snoc r e)
def kindIn (sc : Scope) (x : Str) : Option NameKind := sc.names.lookup x
def isVis (sc : Scope) (x : Str) : Bool := match sc.names.lookup x with
  | some .local => true
  | some .cell => true
  | some .free => true
  | _ => false
def isLoc (sc : Scope) (x : Str) : Bool := match sc.names.lookup x with
  | some .local => true
  | some .cell => true
  | _ => false
def isGl (sc : Scope) (x : Str) : Bool := match sc.names.lookup x with
  | some .globalImplicit => !decide (x = "__debug__")
  | _ => false
/-- the place of a name in a list -/
def ixOf (x : Str) : List Str → Option Nat
  | [] => none
  | y :: ys => if x = y then some 0 else (match ixOf x ys with
    | some i => some (i + 1)
    | none => none)
/-- a name that holds a value -/
def trVar (K : Tab) (sc : Scope) (x : Str) : Option Nat :=
  if isVis sc x && !(decide (x = "__debug__") || decide (x = "__classdict__")) then ixOf x K.N else none
def trLoc (K : Tab) (sc : Scope) (x : Str) : Option Nat := if isLoc sc x then ixOf x K.N else none
def trBin : PySem.Operator → Option BinO
  | .Add => some .add | .Sub => some .sub | .Mult => some .mul | .FloorDiv => some .fdiv | .Mod => some .mod | .Pow => some .pow
  | .LShift => some .shl | .RShift => some .shr | .BitAnd => some .band | .BitOr => some .bor | .BitXor => some .bxor
  | _ => none
def trCmp : PySem.CmpOp → CmpO
  | .Eq => .eq | .NotEq => .ne | .Lt => .lt | .LtE => .le | .Gt => .gt | .GtE => .ge | .Is => .is_ | .IsNot => .isn | .In => .in_ | .NotIn => .nin
def isFree (K : Tab) (sc : Scope) (x : Str) : Bool := isGl sc x && K.free.any fun y => decide (y = x)
def bi1 : List (Str × Bi) := [("len", .len), ("abs", .abs), ("int", .int), ("tuple", .mkt), ("sum", .sum), ("all", .all), ("any", .any), ("max", .max1), ("min", .min1), ("sorted", .sorted), ("dict", .mkd)]
def trTy (K : Tab) (sc : Scope) (x : Str) : Option Ty :=
  if isFree K sc x then
    (if x = "int" then some .int else if x = "bool" then some .bool else if x = "str" then some .str else if x = "tuple" then some .tuple else if x = "list" then some .list else none)
  else if isGl sc x then (match K.cls.lookup x with
    | some c => some (.cls c)
    | none => none) else none
def trTys (K : Tab) (sc : Scope) : List Expr → Option (List Ty)
  | [] => some []
  | .Name x _ :: es => (match trTy K sc x with
    | some k => (match trTys K sc es with
      | some ks => some (k :: ks)
      | none => none)
    | none => none)
  | _ => none
def trIsi (K : Tab) (sc : Scope) : Expr → Option (List Ty)
  | .Name x _ => (match trTy K sc x with
    | some k => some [k]
    | none => none)
  | .Tuple es _ _ => (match trTys K sc es with
    | some ks => if ks.isEmpty || !decide (ks.length ≤ 16) then none else some ks
    | none => none)
  | _ => none
def trT (K : Tab) (sc : Scope) : Nat → Expr → Option T
  | 0, _ => none
  | n + 1, e => (match e with
    | .Name x _ => (match trLoc K sc x with
      | some i => some (.nm i)
      | none => none)
    | .Tuple es _ _ => (match es.mapM (trT K sc n) with
      | some ts => some (.tp ts)
      | none => none)
    | _ => none)
mutual
def T.slots : T → List Nat
  | .nm i => [i]
  | .tp ts => T.slotss ts
def T.slotss : List T → List Nat
  | [] => []
  | t :: ts => T.slots t ++ T.slotss ts
end
/-- a comprehension's scope, where it stands -/
abbrev blkSc (scope sc : Scope) : Scope := L2.relS scope sc
def trOwn (K : Tab) : List (Str × NameKind) → Option (List (Str × Nat))
  | [] => some []
  | (x, k) :: r => (match trOwn K r with
    | some o => (match k with
      | .local => (match ixOf x K.N with
        | some i => some ((x, i) :: o)
        | none => some o)
      | .cell => (match ixOf x K.N with
        | some i => some ((x, i) :: o)
        | none => some o)
      | _ => some o)
    | none => none)
/-- what L2.BlkOk asks, by a test -/
def blkB (N : List Str) (sc scope : Scope) (own : List (Str × Nat)) : Bool :=
  scope.kind == .function && (scope.names.all fun y => scope.names.lookup y.1 == some y.2) && (own.all fun p => N[p.2]? == some p.1) &&
    (scope.names.all fun y => !(y.2 == .free) || (sc.names.lookup y.1 == some .cell || sc.names.lookup y.1 == some .free)) &&
    (scope.names.all fun y => !(y.2 == .local || y.2 == .cell) || ((own.map (·.1)).contains y.1 || !N.contains y.1))
def isStar : Expr → Bool
  | .Starred _ _ => true
  | _ => false
/-- a call like super() -/
def isCall : Expr → Bool
  | .Call (.Name _ _) [] [] _ => true
  | _ => false
def isSet : Expr → Bool
  | .Set _ _ _ => true
  | _ => false
/-- a comprehension dropped or stored is told apart by the model -/
def isComp : Expr → Bool
  | .ListComp _ _ _ _ => true
  | .SetComp _ _ _ _ => true
  | .DictComp _ _ _ _ _ => true
  | _ => false
/-- a comprehension of two walks, or of a dict -/
def isComp2 : Expr → Bool
  | .ListComp _ (_ :: _ :: _) _ _ => true
  | .DictComp _ _ _ _ _ => true
  | _ => false
/-- d.items() of a plain d -/
def itmOf : Expr → Option Expr
  | .Call (.Attribute a m ap) [] [] p => if m = "items" then (if (ap.endLine == p.line) && !isCall a then some a else none) else none
  | _ => none
/-- a walk over a dict locks it -/
def wrapC : Iw → E → E
  | .ditm a, e => .lck a e
  | _, e => e
def wrapS : Iw → S → S
  | .ditm a, e => .lck a e
  | _, e => e
def isItmC : Expr → Bool
  | .ListComp _ [⟨_, it, _, _⟩] _ _ => (itmOf it).isSome
  | _ => false
/-- targets, the last one with a star -/
def starLast : List Expr → Option (List Expr × Expr)
  | [.Starred r _] => some ([], r)
  | .Starred _ _ :: _ => none
  | e :: es => (match starLast es with
    | some (fs, r) => some (e :: fs, r)
    | none => none)
  | [] => none
def lmOf (m : Str) : Option Lm := if m = "extend" then some .ext else if m = "insert" then some .ins else if m = "index" then some .idx else if m = "remove" then some .rem else none
def isTup : Expr → Bool
  | .Tuple _ _ _ => true
  | _ => false
/-- a builtin's call: its arguments -/
def isCallOf (K : Tab) (sc : Scope) (y : Str) : Expr → Option (List Expr)
  | .Call (.Name x _) as [] _ => if x = y ∧ isFree K sc x = true then some as else none
  | _ => none
/-- a display's keys: texts, each once -/
def trKs : List (Option Expr) → Option (List Str)
  | [] => some []
  | some (.Constant (.str s) _ _) :: r => (match trKs r with
    | some ks => some (s :: ks)
    | none => none)
  | _ => none
def Es.ofL : List E → Es
  | [] => .nil
  | e :: r => .cons e (Es.ofL r)
/-- range(..): its arguments -/
def isRng (K : Tab) (sc : Scope) : Expr → Option (List Expr)
  | .Call (.Name x _) as [] _ => if x = "range" ∧ isFree K sc x = true then some as else none
  | _ => none
mutual
def trE (K : Tab) : Nat → Scope → Expr → Option E
  | 0, _, _ => none
  | n + 1, sc, e => (match e with
    | .Constant c _ _ => (match c with
      | .none => some (.con .non)
      | .bool b => some (.con (.bl b))
      | .int i => some (.con (.int i))
      | .str s => some (.con (.str s))
      | _ => none)
    | .Name x _ => (match trVar K sc x with
      | some i => some (.var i)
      | none => if isGl sc x then (match K.cons.lookup x with
        | some d => some (.con d)
        | none => none) else none)
    | .BinOp a o b _ => (match trBin o, trE K n sc a, trE K n sc b with
      | some o, some a, some b => some (.bin o a b)
      | _, _, _ => none)
    | .UnaryOp o a _ => (match o, trE K n sc a with
      | .USub, some a => some (.neg a)
      | .Not, some a => some (.not a)
      | _, _ => none)
    | .BoolOp o es _ => (match o with
      | .And => trAnd K n sc es
      | .Or => trOr K n sc es)
    | .Compare a ops bs _ => (match ops, bs with
      | [o], [b] => if isSet b then none else (match trE K n sc a, trE K n sc b with
        | some a, some b => some (.cmp (trCmp o) a b)
        | _, _ => none)
      | [o, p], [b, c] => if isSet c then none else (match trE K n sc a, trE K n sc b, trE K n sc c with
        | some a, some b, some c => some (.chn (trCmp o) (trCmp p) a b c)
        | _, _, _ => none)
      | _, _ => none)
    | .IfExp c a b _ => (match trC K n sc c, trE K n sc a, trE K n sc b with
      | some c, some a, some b => some (.ite c a b)
      | _, _, _ => none)
    | .Tuple es _ _ => (match trEd K n sc es with
      | some es => some (.tup es)
      | none => none)
    | .List es _ => (match trEd K n sc es with
      | some es => some (.lst es)
      | none => none)
    | .Subscript a i _ => (match trE K n sc a with
      | some a => (match i with
        | .Slice lo hi st _ => (match st with
          | none => (match trO K n sc lo, trO K n sc hi with
            | some lo, some hi => some (.slc a lo hi)
            | _, _ => none)
          | some (.UnaryOp .USub (.Constant (.int 1) _ _) _) => (match lo, hi with
            | none, none => some (.rev a)
            | _, _ => none)
          | some _ => none)
        | i => (match trIx K n sc i with
          | some i => some (.idx a i)
          | none => none))
      | none => none)
    | .Attribute a f _ => if isCall a then none else (match trE K n sc a with
        | some a => (match ixOf f K.fld with
          | some i => some (.fld a i)
          | none => (match ixOf f K.prp with
            | some i => some (.prop a i)
            | none => none))
        | none => none)
    | .Dict ks vs p => (match ks, vs with
      | [], [] => some (.dnew (K.dts.contains (p.line, p.col)))
      | ks, vs => (match trKs ks with
        | some xs => if decide (ks.length = vs.length) && decide (ks.length ≤ 15) && !ks.isEmpty then (match vs.mapM (trE K n sc) with
          | some es => some (.disp xs (Es.ofL es))
          | none => none) else none
        | none => none))
    | .DictComp kx vx gs scope p => (match gs with
      | [g] => (match g with
        | ⟨tg, it, ifs, as⟩ => if as != 0 || isSet it then none else (match trOwn K scope.names with
          | some own => if blkB K.N sc scope own then (match trI K n sc (isTup tg) it, trT K scope n tg, trE K n (blkSc scope sc) kx, trE K n (blkSc scope sc) vx with
            | some i, some t, some k, some v => if t.slots.all fun i => (own.map (·.2)).contains i then (match ifs with
              | [] => some (wrapC i (.dcomp (K.dts.contains (p.line, p.col)) (own.map (·.2)) k v t i .none))
              | [c] => (match trC K n (blkSc scope sc) c with
                | some c => some (wrapC i (.dcomp (K.dts.contains (p.line, p.col)) (own.map (·.2)) k v t i (.some c)))
                | none => none)
              | _ => none) else none
            | _, _, _, _ => none) else none
          | none => none))
      | _ => none)
    | .ListComp elt gs scope _ => (match gs with
      | [g] => (match g with
        | ⟨tg, it, ifs, as⟩ => if as != 0 || isSet it then none else (match trOwn K scope.names with
          | some own => if blkB K.N sc scope own then (match trI K n sc (isTup tg) it, trT K scope n tg, trE K n (blkSc scope sc) elt with
            | some i, some t, some e => if t.slots.all fun i => (own.map (·.2)).contains i then (match ifs with
              | [] => some (wrapC i (.comp (own.map (·.2)) e t i .none))
              | [c] => (match trC K n (blkSc scope sc) c with
                | some c => some (wrapC i (.comp (own.map (·.2)) e t i (.some c)))
                | none => none)
              | _ => none) else none
            | _, _, _ => none) else none
          | none => none))
      | [g1, g2] => (match g1, g2 with
        | ⟨tg, it, ifs, as⟩, ⟨tg2, it2, ifs2, as2⟩ => if as != 0 || as2 != 0 || isSet it || isSet it2 || !ifs.isEmpty then none else (match trOwn K scope.names with
          | some own => if blkB K.N sc scope own then (match trI K n sc (isTup tg) it, trT K scope n tg, trI K n (blkSc scope sc) (isTup tg2) it2, trT K scope n tg2, trE K n (blkSc scope sc) elt with
            | some i, some t, some i2, some t2, some e => if (t.slots.all fun i => (own.map (·.2)).contains i) && (t2.slots.all fun i => (own.map (·.2)).contains i) then (match ifs2 with
              | [] => some (.comp2 (own.map (·.2)) t2.slots e t i t2 i2 .none)
              | [c] => (match trC K n (blkSc scope sc) c with
                | some c => some (.comp2 (own.map (·.2)) t2.slots e t i t2 i2 (.some c))
                | none => none)
              | _ => none) else none
            | _, _, _, _, _ => none) else none
          | none => none))
      | _ => none)
    | .Call f as kws p => (match f with
      | .Name x _ => (match K.kfs.lookup x with
        | some (i, kn, dd) => if isGl sc x && !as.isEmpty then (match trEs K n sc as with
          | some es => (match kws with
            | [] => (match dd with
              | some d => some (.call i (es.snoc (.con d)))
              | none => none)
            | [⟨nm, b, _⟩] => if nm = some kn then (match trE K n sc b with
              | some b => some (.call i (es.snoc b))
              | none => none) else none
            | _ => none)
          | none => none) else none
        | none => (match kws with
        | [] => if isGl sc x then (match K.fns.lookup x with
          | some i => (match trEs K n sc as with
            | some es => some (.call i es)
            | none => none)
          | none => (match K.cls.lookup x with
            | some c => (match trEs K n sc as with
              | some es => some (.mk c es)
              | none => none)
            | none => if isFree K sc x then trBi K n sc x as else none)) else none
        | _ => none))
      | .Attribute a m ap => (match kws with
        | [] => if isCall a || !(ap.endLine == p.line) || !decide (as.length < 20) then none else (match trE K n sc a with
          | some o => (match ixOf m K.mth with
            | some i => (match trEs K n sc as with
              | some es => some (.meth o i es)
              | none => none)
            | none => if m = "append" then (match as with
              | [b] => if isStar b then none else (match trE K n sc b with
                | some b => some (.app o b)
                | none => none)
              | _ => none) else if m = "get" then (match as with
              | [b, c] => if isStar b || isStar c then none else (match trE K n sc b, trE K n sc c with
                | some b, some c => some (.dget o b c)
                | _, _ => none)
              | _ => none) else if m = "count" then (match as with
              | [b] => if isStar b then none else (match trE K n sc b with
                | some b => some (.cnt o b)
                | none => none)
              | _ => none) else if m = "pop" then (match as with
              | [b] => if isStar b then none else (match trE K n sc b with
                | some b => some (.popi o b)
                | none => none)
              | _ => none) else (match lmOf m with
              | some k => (match trEs K n sc as with
                | some es => if as.isEmpty then none else some (.lm k o es)
                | none => none)
              | none => if m = "bit_length" && as.isEmpty then some (.bi .bits (.cons o .nil)) else none))
          | none => none)
        | _ => none)
      | _ => none)
    | _ => none)
def trAnd (K : Tab) : Nat → Scope → List Expr → Option E
  | 0, _, _ => none
  | n + 1, sc, es => (match es with
    | [a] => trE K n sc a
    | a :: b :: r => (match trE K n sc a, trAnd K n sc (b :: r) with
      | some a, some b => some (.and a b)
      | _, _ => none)
    | [] => none)
def trOr (K : Tab) : Nat → Scope → List Expr → Option E
  | 0, _, _ => none
  | n + 1, sc, es => (match es with
    | [a] => trE K n sc a
    | a :: b :: r => (match trE K n sc a, trOr K n sc (b :: r) with
      | some a, some b => some (.or a b)
      | _, _ => none)
    | [] => none)
/-- an index of a plain subscript -/
def trIx (K : Tab) : Nat → Scope → Expr → Option E
  | 0, _, _ => none
  | n + 1, sc, e => (match e with
    | .Constant _ _ _ => trE K n sc e
    | .Name _ _ => trE K n sc e
    | .BinOp _ _ _ _ => trE K n sc e
    | .UnaryOp _ _ _ => trE K n sc e
    | .Call _ _ _ _ => trE K n sc e
    | .Subscript _ _ _ => trE K n sc e
    | .Attribute _ _ _ => trE K n sc e
    | .IfExp _ _ _ _ => trE K n sc e
    | _ => none)
def trBi (K : Tab) : Nat → Scope → Str → List Expr → Option E
  | 0, _, _, _ => none
  | n + 1, sc, x, as => (match as with
    | [a] => if isStar a then none else if x = "list" then (match isRng K sc a with
        | some [b] => if isStar b then none else (match trE K n sc b with
          | some e => some (.lrng (.rng1 e))
          | none => none)
        | some [b, c] => if isStar b || isStar c then none else (match trE K n sc b, trE K n sc c with
          | some e, some f => some (.lrng (.rng2 e f))
          | _, _ => none)
        | some _ => none
        | none => (match trE K n sc a with
          | some a => some (.bi .mkl (.cons a .nil))
          | none => none))
      else (match bi1.lookup x with
        | some b => (match trE K n sc a with
          | some a => some (.bi b (.cons a .nil))
          | none => none)
        | none => none)
    | [a, b] => if isStar a || isStar b then none else if x = "isinstance" then (match trE K n sc a, trIsi K sc b with
        | some a, some ks => some (.isi a ks)
        | _, _ => none)
      else if x = "min" then (match trEs K n sc as with
        | some es => some (.bi .min2 es)
        | none => none)
      else if x = "max" then (match trEs K n sc as with
        | some es => some (.bi .max2 es)
        | none => none)
      else none
    | _ => none)
def trEs (K : Tab) : Nat → Scope → List Expr → Option Es
  | 0, _, _ => none
  | n + 1, sc, es => (match es with
    | [] => some .nil
    | e :: es => if isStar e then none else (match trE K n sc e, trEs K n sc es with
        | some e, some es => some (.cons e es)
        | _, _ => none))
def trEd (K : Tab) : Nat → Scope → List Expr → Option Es
  | 0, _, _ => none
  | n + 1, sc, es => (match es with
    | [] => some .nil
    | .Starred e _ :: es => (match trE K n sc e, trEd K n sc es with
        | some e, some es => some (.spl e es)
        | _, _ => none)
    | e :: es => if isStar e then none else (match trE K n sc e, trEd K n sc es with
        | some e, some es => some (.cons e es)
        | _, _ => none))
def trO (K : Tab) : Nat → Scope → Option Expr → Option Oe
  | 0, _, _ => none
  | n + 1, sc, o => (match o with
    | none => some .none
    | some e => (match trE K n sc e with
      | some e => some (.some e)
      | none => none))
def trC (K : Tab) : Nat → Scope → Expr → Option C
  | 0, _, _ => none
  | n + 1, sc, e => (match e with
    | .UnaryOp o a _ => (match o with
      | .Not => (match trC K n sc a with
        | some c => some (.not c)
        | none => none)
      | _ => (match trE K n sc e with
        | some e => some (.val e)
        | none => none))
    | .BoolOp o es _ => (match o with
      | .And => trCAnd K n sc es
      | .Or => trCOr K n sc es)
    | .NamedExpr _ _ _ => none
    | .IfExp _ _ _ _ => none
    | e => (match trE K n sc e with
      | some e => some (.val e)
      | none => none))
def trCAnd (K : Tab) : Nat → Scope → List Expr → Option C
  | 0, _, _ => none
  | n + 1, sc, es => (match es with
    | [a] => trC K n sc a
    | a :: b :: r => (match trC K n sc a, trCAnd K n sc (b :: r) with
      | some a, some b => some (.and a b)
      | _, _ => none)
    | [] => none)
def trCOr (K : Tab) : Nat → Scope → List Expr → Option C
  | 0, _, _ => none
  | n + 1, sc, es => (match es with
    | [a] => trC K n sc a
    | a :: b :: r => (match trC K n sc a, trCOr K n sc (b :: r) with
      | some a, some b => some (.or a b)
      | _, _ => none)
    | [] => none)
/-- what a for or a comprehension walks -/
def trI (K : Tab) : Nat → Scope → Bool → Expr → Option Iw
  | 0, _, _, _ => none
  | n + 1, sc, tt, e => (match isRng K sc e with
    | some [a] => if isStar a then none else (match trE K n sc a with
      | some a => some (.rng1 a)
      | none => none)
    | some [a, b] => if isStar a || isStar b then none else (match trE K n sc a, trE K n sc b with
      | some a, some b => some (.rng2 a b)
      | _, _ => none)
    | some [a, b, c] => if isStar a || isStar b || isStar c then none else (match trE K n sc a, trE K n sc b, trE K n sc c with
      | some a, some b, some c => some (.rng3 a b c)
      | _, _, _ => none)
    | some _ => none
    | none => (match isCallOf K sc "enumerate" e with
      | some [a] => if isStar a || !tt then none else (match trE K n sc a with
        | some a => some (.enum a)
        | none => none)
      | some _ => none
      | none => (match isCallOf K sc "reversed" e with
        | some [b] => (match isRng K sc b with
          | some [a] => if isStar a then none else (match trE K n sc a with
            | some a => some (.rrng1 a)
            | none => none)
          | _ => none)
        | some _ => none
        | none => (match isCallOf K sc "zip" e with
          | some [a, b] => if isStar a || isStar b || !tt then none else (match trE K n sc a, trE K n sc b with
            | some a, some b => some (.zip2 a b)
            | _, _ => none)
          | some _ => none
          | none => (match itmOf e with
            | some a => if !tt then none else (match trE K n sc a with
              | some a => some (.ditm a)
              | none => none)
            | none => if isSet e then none else (match trE K n sc e with
              | some e => some (.seq e)
              | none => none))))))
end
mutual
def trS (K : Tab) (sc : Scope) : Nat → Stmt → Option S
  | 0, _ => none
  | n + 1, s => (match s with
    | .Pass _ => some .pass
    | .Break _ => some .brk
    | .Continue _ => some .cont
    | .Raise _ _ _ => some .raise
    | .Return o _ => (match o with
      | none => some .retn
      | some e => (match trE K n sc e with
        | some e => some (.ret e)
        | none => none))
    | .Expr e _ => if isComp e then none else (match trE K n sc e with
      | some e => some (.ex e)
      | none => none)
    | .Assign ts e _ => (match ts with
      | [t] => (match t with
        | .Name x _ => if isComp2 e || isItmC e then none else (match trLoc K sc x, trE K n sc e with
          | some i, some e => some (.set (.nm i) e)
          | _, _ => none)
        | .Tuple es _ _ => (match es, e with
          | [.Name x _, .Name y _], .Tuple [a, b] _ _ => if isStar a || isStar b || ([a, b].all (PySem.constantsAlone 8) && !([a, b].all (PySem.foldedForSure 8))) then none else (match trLoc K sc x, trLoc K sc y, trE K n sc a, trE K n sc b with
            | some i, some j, some a, some b => some (.par i j a b)
            | _, _, _, _ => none)
          | [.Name x _, .Name y _, .Name z _], .Tuple [a, b, c] k p2 => if isStar a || isStar b || isStar c || ([a, b, c].all (PySem.constantsAlone 8) && !([a, b, c].all (PySem.foldedForSure 8))) then none else (match trLoc K sc x, trLoc K sc y, trLoc K sc z, trE K n sc (.Tuple [a, b, c] k p2) with
            | some i, some j, some l, some e => some (.set (.tp [.nm i, .nm j, .nm l]) e)
            | _, _, _, _ => none)
          | _, e => if isComp e || (isTup e && decide (es.length < 4)) then none else (match starLast es with
            | some (fs, r) => if isTup e then none else (match fs.mapM (trT K sc n), trT K sc n r, trE K n sc e with
              | some ts, some r, some e => some (.unp ts r e)
              | _, _, _ => none)
            | none => (match trT K sc n t, trE K n sc e with
              | some t, some e => some (.set t e)
              | _, _ => none)))
        | .Subscript a i _ => (match trE K n sc a, trIx K n sc i, trE K n sc e with
          | some a, some i, some e => some (.sti a i e)
          | _, _, _ => none)
        | .Attribute a f _ => (match trE K n sc a, ixOf f K.fld, trE K n sc e with
          | some a, some i, some e => some (.stf a i e)
          | _, _, _ => none)
        | _ => none)
      | _ => none)
    | .AugAssign t o e _ => (match trBin o, trE K n sc e with
      | some o, some e => if o = .pow then none else (match t with
        | .Name x _ => (match trLoc K sc x with
          | some i => some (.aug i o e)
          | none => none)
        | .Subscript a i _ => (match trE K n sc a, trIx K n sc i with
          | some a, some i => some (.augi a i o e)
          | _, _ => none)
        | .Attribute a f _ => (match trE K n sc a, ixOf f K.fld with
          | some a, some i => some (.augf a i o e)
          | _, _ => none)
        | _ => none)
      | _, _ => none)
    | .If c a b _ => (match trC K n sc c, trSs K sc n a, trSs K sc n b with
      | some c, some a, some b => some (.ifs c a b)
      | _, _, _ => none)
    | .For t i b e _ => if !e.isEmpty then none else (match trT K sc n t, trI K n sc (isTup t) i, trSs K sc n b with
      | some t, some i, some b => some (wrapS i (.for_ t i b))
      | _, _, _ => none)
    | .While c b e _ => if !e.isEmpty then none else (match trC K n sc c, trSs K sc n b with
      | some c, some b => some (.whl c b)
      | _, _ => none)
    | _ => none)
def trSs (K : Tab) (sc : Scope) : Nat → List Stmt → Option Ss
  | 0, _ => none
  | n + 1, ss => (match ss with
    | [] => some .nil
    | s :: r => (match trS K sc n s with
      | some s => (match trSs K sc n r with
        | some r => some (.cons s r)
        | none => none)
      | none => some (.cons .raise .nil)))
end
end Nz
namespace Nz
open PySem L2
/-! ### data stand in the heap -/
/-- the places' addresses; true: an object of the written part -/
abbrev Mu := List (Addr × Bool)
mutual
inductive Rp (K : PySem.W.Frag) (μ : Mu) (H : Hp) : D → V → Prop
  | non : Rp K μ H .non .non
  | bl (b : Bool) : Rp K μ H (.bl b) (.bl b)
  | int (i : Int) : Rp K μ H (.int i) (.int i)
  | str (s : Str) : Rp K μ H (.str s) (.str s)
  | tup {ds : List D} {a : Addr} {vs : List V} (h : H a = some (.tup vs)) (r : Rps K μ H ds vs) : Rp K μ H (.tup ds) (.ref a)
  | wt {ds : List D} {a : Addr} {vs : List V} (h : SqT K H a vs) (r : Rps K μ H ds vs) : Rp K μ H (.wt ds) (.ref a)
  | ref {l : Nat} {a : Addr} {b : Bool} (h : μ[l]? = some (a, b)) : Rp K μ H (.ref l) (.ref a)
inductive Rps (K : PySem.W.Frag) (μ : Mu) (H : Hp) : List D → List V → Prop
  | nil : Rps K μ H [] []
  | cons {d : D} {v : V} {ds : List D} {vs : List V} (h : Rp K μ H d v) (t : Rps K μ H ds vs) : Rps K μ H (d :: ds) (v :: vs)
end
/-- the classes' addresses and the fields' names -/
structure Nm where
  cls : Nat → Option Addr
  fld : List Str
/-- fields -/
def RpF (K : PySem.W.Frag) (F : Nm) (μ : Mu) (H : Hp) : List (Nat × D) → List (Str × V) → Prop := Paired fun p q => F.fld[p.1]? = some q.1 ∧ Rp K μ H p.2 q.2
/-- a key as data -/
def keyD : L2.Key → D
  | .inl i => .int i
  | .inr x => .str x
def keysD (ks : List L2.Key) : D := .tup (ks.map keyD)
/-- the pairs of a dict -/
def RpD {κ : Type} (kd : κ → D) (K : PySem.W.Frag) (μ : Mu) (H : Hp) : List (D × D) → List (κ × V) → Prop := Paired fun p q => p.1 = kd q.1 ∧ Rp K μ H p.2 q.2
/-- an object of the store, by the heap -/
def RpH (K : PySem.W.Frag) (F : Nm) (μ : Mu) (H : Hp) (a : Addr) : O → Prop
  | .lst ds => ∃ vs, H a = some (.lst vs) ∧ Rps K μ H ds vs
  | .frz ds => ∃ ob vs, H a = some (.frz ob (.lst vs)) ∧ Rps K μ H ds vs
  | .ins c fs => ∃ C dx fv, F.cls c = some C ∧ H a = some (.ins C dx fv) ∧ RpF K F μ H fs fv
  | .dct false kvs => ∃ kv : List (L2.Key × V), H a = some (.dK kv) ∧ RpD keyD K μ H kvs kv
  | .dct true kvs => ∃ kv : List (List L2.Key × V), H a = some (.dT kv) ∧ RpD keysD K μ H kvs kv
  | .dlk false kvs => ∃ (od : Obj) (kv : List (L2.Key × V)), H a = some (.frz od (.dK kv)) ∧ RpD keyD K μ H kvs kv
  | .dlk true kvs => ∃ (od : Obj) (kv : List (List L2.Key × V)), H a = some (.frz od (.dT kv)) ∧ RpD keysD K μ H kvs kv
/-- a list of the written part -/
def RpK (K : PySem.W.Frag) (μ : Mu) (H : Hp) (a : Addr) : O → Prop
  | .frz ds => ∃ (vs : List V) (o : Obj) (its : Array Value) (n : Nat), K.lookup a = some o ∧ o.cls = .type "list" ∧ o.dict = none ∧ o.data = .seq its n ∧ its.size ≤ sizeLine ∧ Vals vs its.toList ∧ Rps K μ H ds vs
  | _ => False
def O.fz : O → Bool
  | .frz _ => true
  | _ => false
structure Sto (K : PySem.W.Frag) (F : Nm) (μ : Mu) (st : Store) (H : Hp) : Prop where
  len : μ.length = st.length
  at_ : ∀ (l : Nat) (o : O) (a : Addr), st[l]? = some o → μ[l]? = some (a, false) → RpH K F μ H a o
  atk : ∀ (l : Nat) (o : O) (a : Addr), st[l]? = some o → μ[l]? = some (a, true) → RpK K μ H a o
  inj : ∀ (l m : Nat) (a : Addr), μ[l]? = some (a, false) → μ[m]? = some (a, false) → l = m
/-- may be changed -/
def Mutl : HO → Prop
  | .lst _ => True
  | .ins _ _ _ => True
  | .dK _ => True
  | .dT _ => True
  | _ => False
/-- what a step leaves as it was -/
structure Post (K : PySem.W.Frag) (F : Nm) (μ : Mu) (H : Hp) (st : Store) (μ' : Mu) (H' : Hp) : Prop where
  pre : μ <+: μ'
  frm : ∀ a o, H a = some o → ((a, false) ∉ μ ∨ ¬ Mutl o) → H' a = some o
  new : ∀ a, (a, false) ∈ μ' → (a, false) ∉ μ → H a = none
  sto : Sto K F μ' st H'
structure Sim (K : PySem.W.Frag) (F : Nm) (μ : Mu) (ρ : Env) (st : Store) (σ : St) (H : Hp) : Prop where
  len : ρ.length = σ.length
  env : ∀ (i : Nat) (d : D), ρ[i]? = some (some d) → ∃ v, σ[i]? = some (some v) ∧ Rp K μ H d v
  sto : Sto K F μ st H
section
variable {K : PySem.W.Frag} {F : Nm} {μ μ' μ'' : Mu} {H H' H'' : Hp} {st st' st'' : Store} {ρ : Env} {σ : St}
theorem pre_get {l : Nat} {a : Addr × Bool} (p : μ <+: μ') (h : μ[l]? = some a) : μ'[l]? = some a := by
  obtain ⟨t, rfl⟩ := p
  rw [List.getElem?_append_left (List.getElem?_eq_some_iff.mp h).1]
  exact h
/-- tuples are never in μ, so they stay -/
theorem tup_monoT {a : Addr} {vs : List V} (k : ∀ a xs, H a = some (.tup xs) → H' a = some (.tup xs)) (kf : ∀ a o xs, H a = some (.frz o (.tup xs)) → H' a = some (.frz o (.tup xs))) (h : SqT K H a vs) : SqT K H' a vs := by
  rcases h with (h | ⟨o, h⟩) | h
  · exact .inl (.inl (k _ _ h))
  · exact .inl (.inr ⟨o, kf _ _ _ h⟩)
  · exact .inr h
theorem tup_mono {a : Addr} {vs : List V} (k : ∀ a xs, H a = some (.tup xs) → H' a = some (.tup xs)) (kf : ∀ a o u, H a = some (.frz o u) → H' a = some (.frz o u)) (h : SqT K H a vs) : SqT K H' a vs := tup_monoT k (fun a o xs => kf a o _) h
mutual
theorem Rp.monoT (p : μ <+: μ') (k : ∀ a xs, H a = some (.tup xs) → H' a = some (.tup xs)) (kf : ∀ a o xs, H a = some (.frz o (.tup xs)) → H' a = some (.frz o (.tup xs))) : ∀ {d : D} {v : V}, Rp K μ H d v → Rp K μ' H' d v
  | _, _, .non => .non
  | _, _, .bl b => .bl b
  | _, _, .int i => .int i
  | _, _, .str s => .str s
  | _, _, .tup h r => .tup (k _ _ h) (Rps.monoT p k kf r)
  | _, _, .wt h r => .wt (tup_monoT k kf h) (Rps.monoT p k kf r)
  | _, _, .ref h => .ref (pre_get p h)
theorem Rps.monoT (p : μ <+: μ') (k : ∀ a xs, H a = some (.tup xs) → H' a = some (.tup xs)) (kf : ∀ a o xs, H a = some (.frz o (.tup xs)) → H' a = some (.frz o (.tup xs))) : ∀ {ds : List D} {vs : List V}, Rps K μ H ds vs → Rps K μ' H' ds vs
  | _, _, .nil => .nil
  | _, _, .cons h t => .cons (Rp.monoT p k kf h) (Rps.monoT p k kf t)
end
theorem Rp.mono (p : μ <+: μ') (k : ∀ a xs, H a = some (.tup xs) → H' a = some (.tup xs)) (kf : ∀ a o u, H a = some (.frz o u) → H' a = some (.frz o u)) {d : D} {v : V} (r : Rp K μ H d v) : Rp K μ' H' d v := r.monoT p k fun a o xs => kf a o _
theorem Rps.mono (p : μ <+: μ') (k : ∀ a xs, H a = some (.tup xs) → H' a = some (.tup xs)) (kf : ∀ a o u, H a = some (.frz o u) → H' a = some (.frz o u)) {ds : List D} {vs : List V} (r : Rps K μ H ds vs) : Rps K μ' H' ds vs := r.monoT p k fun a o xs => kf a o _
theorem Rps.length : ∀ {ds : List D} {vs : List V}, Rps K μ H ds vs → ds.length = vs.length
  | _, _, .nil => rfl
  | _, _, .cons _ t => congrArg Nat.succ (Rps.length t)
theorem Rps.get : ∀ {ds : List D} {vs : List V} {i : Nat} {d : D}, Rps K μ H ds vs → ds[i]? = some d → ∃ v, vs[i]? = some v ∧ Rp K μ H d v
  | _, _, _, _, .nil, e => by simp at e
  | _, _, 0, _, .cons h _, e => by simp at e; subst e; exact ⟨_, rfl, h⟩
  | _, _, i + 1, _, .cons _ t, e => by
    obtain ⟨v, h1, h2⟩ := Rps.get (i := i) t (by simpa using e)
    exact ⟨v, by simpa using h1, h2⟩
theorem Rps.append : ∀ {ds es : List D} {vs ws : List V}, Rps K μ H ds vs → Rps K μ H es ws → Rps K μ H (ds ++ es) (vs ++ ws)
  | _, _, _, _, .nil, s => s
  | _, _, _, _, .cons h t, s => .cons h (Rps.append t s)
theorem Rps.take : ∀ {ds : List D} {vs : List V} (n : Nat), Rps K μ H ds vs → Rps K μ H (ds.take n) (vs.take n)
  | _, _, 0, _ => by simp only [List.take_zero]; exact .nil
  | _, _, _ + 1, .nil => .nil
  | _, _, n + 1, .cons h t => .cons h (Rps.take n t)
theorem Rps.drop : ∀ {ds : List D} {vs : List V} (n : Nat), Rps K μ H ds vs → Rps K μ H (ds.drop n) (vs.drop n)
  | _, _, 0, r => r
  | _, _, _ + 1, .nil => .nil
  | _, _, n + 1, .cons _ t => Rps.drop n t
theorem Rps.set {d : D} {v : V} (h : Rp K μ H d v) : ∀ {ds : List D} {vs : List V} (i : Nat), Rps K μ H ds vs → Rps K μ H (ds.set i d) (vs.set i v)
  | _, _, _, .nil => .nil
  | _, _, 0, .cons _ t => .cons h t
  | _, _, i + 1, .cons q t => .cons q (Rps.set h i t)
theorem Rps.rev : ∀ {ds : List D} {vs : List V}, Rps K μ H ds vs → Rps K μ H ds.reverse vs.reverse
  | _, _, .nil => .nil
  | _, _, .cons h t => by rw [List.reverse_cons, List.reverse_cons]; exact (Rps.rev t).append (.cons h .nil)
theorem Rps.flat (k : Nat) {ds : List D} {vs : List V} (r : Rps K μ H ds vs) : Rps K μ H (reps k ds) (List.replicate k vs).flatten := by
  induction k with
  | zero => exact .nil
  | succ k ih =>
    show Rps K μ H (List.replicate (k + 1) ds).flatten _
    rw [List.replicate_succ, List.replicate_succ, List.flatten_cons, List.flatten_cons]
    exact r.append ih
theorem Rps.nil_iff {ds : List D} {vs : List V} (r : Rps K μ H ds vs) : vs = [] ↔ ds = [] := by cases r <;> simp
theorem Rps.empty {ds : List D} {vs : List V} (r : Rps K μ H ds vs) : ds.isEmpty = vs.isEmpty := by cases r <;> rfl
/-! ### heaps that grow, stores that change -/
theorem Sto.addr (s : Sto K F μ st H) {l : Nat} {o : O} (h : st[l]? = some o) : ∃ a b, μ[l]? = some (a, b) ∧ (RpH K F μ H a o ∨ RpK K μ H a o) := by
  have hl : l < μ.length := by rw [s.len]; exact (List.getElem?_eq_some_iff.mp h).1
  have e : μ[l]? = some μ[l] := by simp [hl]
  cases q : μ[l] with
  | mk a b =>
    rw [q] at e
    refine ⟨a, b, e, ?_⟩
    cases b with
    | false => exact .inl (s.at_ l o a h e)
    | true => exact .inr (s.atk l o a h e)
theorem Post.tups (p : Post K F μ H st μ' H') : ∀ a xs, H a = some (.tup xs) → H' a = some (.tup xs) := fun a xs h => p.frm a _ h (.inr fun z => z)
theorem Post.frzs (p : Post K F μ H st μ' H') : ∀ a o u, H a = some (.frz o u) → H' a = some (.frz o u) := fun a o u h => p.frm a _ h (.inr fun z => z)
theorem Rp.post {d : D} {v : V} (r : Rp K μ H d v) (p : Post K F μ H st μ' H') : Rp K μ' H' d v := r.mono p.pre p.tups p.frzs
theorem Rps.post {d : List D} {v : List V} (r : Rps K μ H d v) (p : Post K F μ H st μ' H') : Rps K μ' H' d v := r.mono p.pre p.tups p.frzs
theorem Post.refl (s : Sto K F μ st H) : Post K F μ H st μ H := ⟨List.prefix_refl _, fun _ _ h _ => h, fun _ h n => absurd h n, s⟩
theorem Post.trans (p : Post K F μ H st' μ' H') (q : Post K F μ' H' st'' μ'' H'') : Post K F μ H st'' μ'' H'' := by
  refine ⟨p.pre.trans q.pre, fun a o h n => q.frm a o (p.frm a o h n) ?_, fun a h n => ?_, q.sto⟩
  · rcases n with n | n
    · refine .inl fun m => ?_
      have z := p.new a m n
      rw [h] at z; cases z
    · exact .inr n
  · cases e : H a with
    | none => rfl
    | some o =>
      have h1 := p.frm a o e (.inl n)
      by_cases m : (a, false) ∈ μ'
      · have := p.new a m n
        rw [e] at this; exact this
      · have := q.new a h m
        rw [h1] at this; cases this
theorem Sim.post (s : Sim K F μ ρ st σ H) (p : Post K F μ H st' μ' H') : Sim K F μ' ρ st' σ H' :=
  ⟨s.len, fun i d e => let ⟨v, h, r⟩ := s.env i d e; ⟨v, h, r.post p⟩, p.sto⟩
/-! ### the wish of a result -/
def WP {α : Type} (K : PySem.W.Frag) (F : Nm) (μ : Mu) (H : Hp) (r : R α) (Φ : α → Store → Mu → Hp → Prop) : Prop := match r with
  | .ok a s => ∀ μ' H', Post K F μ H s μ' H' → Φ a s μ' H'
  | .no => False
/-- of a value -/
def VQ (K : PySem.W.Frag) (Q : VK) : D → Store → Mu → Hp → Prop := fun d _ μ' H' => ∀ v, Rp K μ' H' d v → Q v H'
theorem WP.bind {α β : Type} {r : R α} {f : α → Store → R β} {Φ : β → Store → Mu → Hp → Prop} (h : WP K F μ H (r.bind f) Φ) : WP K F μ H r fun a s μ1 H1 => WP K F μ1 H1 (f a s) Φ := by
  cases r with
  | no => exact h
  | ok a s =>
    intro μ1 H1 p1
    have h' : WP K F μ H (f a s) Φ := h
    revert h'
    cases f a s with
    | no => exact id
    | ok b t => exact fun h' μ2 H2 p2 => h' μ2 H2 (p1.trans p2)
theorem WP.ok {α : Type} {a : α} {Φ : α → Store → Mu → Hp → Prop} (s : Sto K F μ st H) (h : WP K F μ H (.ok a st) Φ) : Φ a st μ H := h μ H (.refl s)
theorem WP.mono {α : Type} {r : R α} {Φ Ψ : α → Store → Mu → Hp → Prop} (h : WP K F μ H r Φ) (k : ∀ a s μ' H', Post K F μ H s μ' H' → Φ a s μ' H' → Ψ a s μ' H') : WP K F μ H r Ψ := by
  cases r with
  | no => exact h
  | ok a s => exact fun μ' H' p => k a s μ' H' p (h μ' H' p)
theorem WP.grd {α : Type} {b : Bool} {r : R α} {Φ : α → Store → Mu → Hp → Prop} (h : WP K F μ H (R.grd b r) Φ) : b = true ∧ WP K F μ H r Φ := by
  cases b with
  | true => exact ⟨rfl, h⟩
  | false => exact h.elim
/-! ### the steps upon the store -/
theorem RpF.monoT {fs : List (Nat × D)} {fv : List (Str × V)} (p : μ <+: μ') (k : ∀ a xs, H a = some (.tup xs) → H' a = some (.tup xs)) (kf : ∀ a o xs, H a = some (.frz o (.tup xs)) → H' a = some (.frz o (.tup xs))) (r : RpF K F μ H fs fv) : RpF K F μ' H' fs fv :=
  Paired.mapP r fun _ _ h => ⟨h.1, h.2.monoT p k kf⟩
theorem RpD.monoT {κ : Type} {kd : κ → D} {fs : List (D × D)} {fv : List (κ × V)} (p : μ <+: μ') (k : ∀ a xs, H a = some (.tup xs) → H' a = some (.tup xs)) (kf : ∀ a o xs, H a = some (.frz o (.tup xs)) → H' a = some (.frz o (.tup xs))) (r : RpD kd K μ H fs fv) : RpD kd K μ' H' fs fv :=
  Paired.mapP r fun _ _ h => ⟨h.1, h.2.monoT p k kf⟩
theorem RpH.keepT {a : Addr} {o : O} (p : μ <+: μ') (k : ∀ a xs, H a = some (.tup xs) → H' a = some (.tup xs)) (kf : ∀ a o xs, H a = some (.frz o (.tup xs)) → H' a = some (.frz o (.tup xs))) (ha : H' a = H a) (r : RpH K F μ H a o) : RpH K F μ' H' a o := by
  cases o with
  | lst ds => obtain ⟨vs, h, r⟩ := r; exact ⟨vs, ha.trans h, r.monoT p k kf⟩
  | frz ds => obtain ⟨ob, vs, h, r⟩ := r; exact ⟨ob, vs, ha.trans h, r.monoT p k kf⟩
  | ins c fs => obtain ⟨C, dx, fv, hc, h, r⟩ := r; exact ⟨C, dx, fv, hc, ha.trans h, r.monoT p k kf⟩
  | dct t kvs =>
    cases t with
    | false => obtain ⟨kv, h, r⟩ := r; exact ⟨kv, ha.trans h, r.monoT p k kf⟩
    | true => obtain ⟨kv, h, r⟩ := r; exact ⟨kv, ha.trans h, r.monoT p k kf⟩
  | dlk t kvs =>
    cases t with
    | false => obtain ⟨od, kv, h, r⟩ := r; exact ⟨od, kv, ha.trans h, r.monoT p k kf⟩
    | true => obtain ⟨od, kv, h, r⟩ := r; exact ⟨od, kv, ha.trans h, r.monoT p k kf⟩
theorem RpK.keepT {a : Addr} {o : O} (p : μ <+: μ') (k : ∀ a xs, H a = some (.tup xs) → H' a = some (.tup xs)) (kf : ∀ a o xs, H a = some (.frz o (.tup xs)) → H' a = some (.frz o (.tup xs))) (r : RpK K μ H a o) : RpK K μ' H' a o := by
  cases o with
  | frz ds => obtain ⟨vs, o, its, n, h1, h2, h3, h4, h5, h6, r⟩ := r; exact ⟨vs, o, its, n, h1, h2, h3, h4, h5, h6, r.monoT p k kf⟩
  | _ => exact r
theorem RpF.mono {fs : List (Nat × D)} {fv : List (Str × V)} (p : μ <+: μ') (k : ∀ a xs, H a = some (.tup xs) → H' a = some (.tup xs)) (kf : ∀ a o u, H a = some (.frz o u) → H' a = some (.frz o u)) (r : RpF K F μ H fs fv) : RpF K F μ' H' fs fv := r.monoT p k fun a o xs => kf a o _
theorem RpD.mono {κ : Type} {kd : κ → D} {fs : List (D × D)} {fv : List (κ × V)} (p : μ <+: μ') (k : ∀ a xs, H a = some (.tup xs) → H' a = some (.tup xs)) (kf : ∀ a o u, H a = some (.frz o u) → H' a = some (.frz o u)) (r : RpD kd K μ H fs fv) : RpD kd K μ' H' fs fv := r.monoT p k fun a o xs => kf a o _
theorem RpH.keep {a : Addr} {o : O} (p : μ <+: μ') (k : ∀ a xs, H a = some (.tup xs) → H' a = some (.tup xs)) (kf : ∀ a o u, H a = some (.frz o u) → H' a = some (.frz o u)) (ha : H' a = H a) (r : RpH K F μ H a o) : RpH K F μ' H' a o := r.keepT p k (fun a o xs => kf a o _) ha
theorem RpK.keep {a : Addr} {o : O} (p : μ <+: μ') (k : ∀ a xs, H a = some (.tup xs) → H' a = some (.tup xs)) (kf : ∀ a o u, H a = some (.frz o u) → H' a = some (.frz o u)) (r : RpK K μ H a o) : RpK K μ' H' a o := r.keepT p k fun a o xs => kf a o _
theorem RpH.some_ {a : Addr} {o : O} (r : RpH K F μ H a o) : ∃ u, H a = some u := by
  cases o with
  | lst ds => obtain ⟨vs, h, _⟩ := r; exact ⟨_, h⟩
  | frz ds => obtain ⟨ob, vs, h, _⟩ := r; exact ⟨_, h⟩
  | ins c fs => obtain ⟨C, dx, fv, _, h, _⟩ := r; exact ⟨_, h⟩
  | dct t kvs =>
    cases t with
    | false => obtain ⟨kv, h, _⟩ := r; exact ⟨_, h⟩
    | true => obtain ⟨kv, h, _⟩ := r; exact ⟨_, h⟩
  | dlk t kvs =>
    cases t with
    | false => obtain ⟨od, kv, h, _⟩ := r; exact ⟨_, h⟩
    | true => obtain ⟨od, kv, h, _⟩ := r; exact ⟨_, h⟩
theorem RpK.fz {a : Addr} {o : O} (r : RpK K μ H a o) : o.fz = true := by
  cases o with
  | frz ds => rfl
  | _ => exact r.elim
theorem Sto.back (s : Sto K F μ st H) {l : Nat} {o : O} {a : Addr} {b : Bool} (h1 : st[l]? = some o) (h2 : μ[l]? = some (a, b)) (hf : o.fz = false) : RpH K F μ H a o := by
  cases b with
  | false => exact s.at_ l o a h1 h2
  | true =>
    have r := s.atk l o a h1 h2
    rw [r.fz] at hf; cases hf
theorem Sto.flag (s : Sto K F μ st H) {l : Nat} {o : O} {a : Addr} {b : Bool} (h1 : st[l]? = some o) (h2 : μ[l]? = some (a, b)) (hf : o.fz = false) : b = false := by
  cases b with
  | false => rfl
  | true =>
    have r := s.atk l o a h1 h2
    rw [r.fz] at hf; cases hf
/-- a new object at a free address, not of the store -/
theorem Post.fresh {p : Addr} {u : HO} (s : Sto K F μ st H) (hp : H p = none) : Post K F μ H st μ (upd H p u) := by
  have ne : ∀ a o, H a = some o → a ≠ p := fun a o h e => by subst e; rw [hp] at h; cases h
  have kt : ∀ a xs, H a = some (.tup xs) → upd H p u a = some (.tup xs) := fun a xs h => by rw [upd_ne (ne a _ h)]; exact h
  have kf : ∀ a o w, H a = some (.frz o w) → upd H p u a = some (.frz o w) := fun a o w h => by rw [upd_ne (ne a _ h)]; exact h
  refine ⟨List.prefix_refl _, fun a o h _ => by rw [upd_ne (ne a o h)]; exact h, fun a h n => absurd h n, ⟨s.len, fun l o a h1 h2 => ?_, fun l o a h1 h2 => (s.atk l o a h1 h2).keep (List.prefix_refl _) kt kf, s.inj⟩⟩
  have r := s.at_ l o a h1 h2
  obtain ⟨w, hw⟩ := r.some_
  exact r.keep (List.prefix_refl _) kt kf (upd_ne (ne a w hw))
/-- an object of the heap is taken as a new place of the store -/
theorem Post.adopt {p : Addr} {o : O} {st' : Store} {H' : Hp} {μ' : Mu} (P : Post K F μ H st' μ' H') (hp : H p = none) (hn : (p, false) ∉ μ') (r : RpH K F (μ' ++ [(p, false)]) H' p o) : Post K F μ H (st' ++ [o]) (μ' ++ [(p, false)]) H' := by
  have pr : μ' <+: μ' ++ [(p, false)] := List.prefix_append _ _
  have old : ∀ (l : Nat) (q : O) (a : Addr × Bool), st'[l]? = some q → (μ' ++ [(p, false)])[l]? = some a → μ'[l]? = some a := fun l q a h1 h2 => by
    have hl : l < μ'.length := by rw [P.sto.len]; exact (List.getElem?_eq_some_iff.mp h1).1
    rw [List.getElem?_append_left hl] at h2
    exact h2
  have cs : ∀ (l : Nat) (q : O), (st' ++ [o])[l]? = some q → st'[l]? = some q ∨ (l = st'.length ∧ q = o) := fun l q h => by
    by_cases hl : l < st'.length
    · rw [List.getElem?_append_left hl] at h; exact .inl h
    · have hl' := (List.getElem?_eq_some_iff.mp h).1
      rw [List.length_append, List.length_singleton] at hl'
      have e : l = st'.length := by omega
      subst e
      rw [List.getElem?_append_right (Nat.le_refl _)] at h
      exact .inr ⟨rfl, by simpa using h.symm⟩
  have at0 : ∀ (a : Addr × Bool), (μ' ++ [(p, false)])[st'.length]? = some a → a = (p, false) := fun a h => by
    rw [← P.sto.len] at h
    simpa using h.symm
  have cm : ∀ (l : Nat) (a : Addr), (μ' ++ [(p, false)])[l]? = some (a, false) → μ'[l]? = some (a, false) ∨ (l = μ'.length ∧ a = p) := fun l a h => by
    by_cases hl : l < μ'.length
    · rw [List.getElem?_append_left hl] at h; exact .inl h
    · have hl' := (List.getElem?_eq_some_iff.mp h).1
      rw [List.length_append, List.length_singleton] at hl'
      have e : l = μ'.length := by omega
      subst e
      rw [List.getElem?_append_right (Nat.le_refl _)] at h
      exact .inr ⟨rfl, by simpa using h.symm⟩
  refine ⟨P.pre.trans pr, P.frm, fun a h n => ?_, ⟨by simp [P.sto.len], fun l q a h1 h2 => ?_, fun l q a h1 h2 => ?_, fun l m a h1 h2 => ?_⟩⟩
  · rcases List.mem_append.mp h with h | h
    · exact P.new a h n
    · have e := List.mem_singleton.mp h
      cases e; exact hp
  · rcases cs l q h1 with h | ⟨rfl, rfl⟩
    · exact (P.sto.at_ l q a h (old l q _ h h2)).keep pr (fun _ _ h => h) (fun _ _ _ h => h) rfl
    · have e := at0 _ h2
      cases e; exact r
  · rcases cs l q h1 with h | ⟨rfl, rfl⟩
    · exact (P.sto.atk l q a h (old l q _ h h2)).keep pr (fun _ _ h => h) (fun _ _ _ h => h)
    · have e := at0 _ h2
      cases e
  · rcases cm l a h1 with e1 | ⟨k1, k1'⟩ <;> rcases cm m a h2 with e2 | ⟨k2, k2'⟩
    · exact P.sto.inj l m a e1 e2
    · subst k2'
      exact absurd (List.mem_iff_getElem?.mpr ⟨l, e1⟩) hn
    · subst k1'
      exact absurd (List.mem_iff_getElem?.mpr ⟨m, e2⟩) hn
    · omega
theorem Sto.free (s : Sto K F μ st H) {p : Addr} (hp : H p = none) : (p, false) ∉ μ := fun m => by
  obtain ⟨l, e⟩ := List.mem_iff_getElem?.mp m
  have hl : l < st.length := by rw [← s.len]; exact (List.getElem?_eq_some_iff.mp e).1
  obtain ⟨w, hw⟩ := (s.at_ l st[l] p (by simp [hl]) e).some_
  rw [hp] at hw; cases hw
/-- a new object of the store -/
theorem Post.push {p : Addr} {u : HO} {o : O} (s : Sto K F μ st H) (hp : H p = none) (r : RpH K F (μ ++ [(p, false)]) (upd H p u) p o) : Post K F μ H (st ++ [o]) (μ ++ [(p, false)]) (upd H p u) :=
  Post.adopt (Post.fresh (u := u) s hp) hp (s.free hp) r
/-- an object of the store is changed -/
theorem Post.write {l : Nat} {a : Addr} {b : Bool} {u w : HO} {o o' : O} (s : Sto K F μ st H) (h1 : st[l]? = some o) (h2 : μ[l]? = some (a, b)) (hf : o.fz = false) (hw : H a = some w) (mw : Mutl w)
    (r : RpH K F μ (upd H a u) a o') : Post K F μ H (st.set l o') μ (upd H a u) := by
  have hb := s.flag h1 h2 hf
  subst hb
  have hne : ∀ b v, H b = some v → ¬ Mutl v → b ≠ a := fun b v h n e => by subst e; rw [hw] at h; cases h; exact n mw
  have kt : ∀ b xs, H b = some (.tup xs) → upd H a u b = some (.tup xs) := fun b xs h => by rw [upd_ne (hne b _ h fun z => z)]; exact h
  have kf : ∀ b o w, H b = some (.frz o w) → upd H a u b = some (.frz o w) := fun b o w h => by rw [upd_ne (hne b _ h fun z => z)]; exact h
  have am : (a, false) ∈ μ := List.mem_iff_getElem?.mpr ⟨l, h2⟩
  have hl : l < st.length := (List.getElem?_eq_some_iff.mp h1).1
  have cs : ∀ (m : Nat) (q : O), (st.set l o')[m]? = some q → (m = l ∧ q = o') ∨ (m ≠ l ∧ st[m]? = some q) := fun m q h => by
    by_cases e : m = l
    · subst e
      rw [List.getElem?_set_self hl] at h
      exact .inl ⟨rfl, (Option.some.inj h).symm⟩
    · rw [List.getElem?_set_ne (Ne.symm e)] at h
      exact .inr ⟨e, h⟩
  refine ⟨List.prefix_refl _, fun b v h n => ?_, fun b h n => absurd h n, ⟨by rw [List.length_set]; exact s.len, fun m q b e1 e2 => ?_, fun m q b e1 e2 => ?_, s.inj⟩⟩
  · rw [upd_ne]
    · exact h
    · rcases n with n | n
      · exact fun e => n (e ▸ am)
      · exact hne b v h n
  · rcases cs m q e1 with ⟨rfl, rfl⟩ | ⟨ne, e⟩
    · rw [h2] at e2; cases e2
      exact r
    · refine (s.at_ m q b e e2).keep (List.prefix_refl _) kt kf (upd_ne fun hb => ?_)
      subst hb
      exact ne (s.inj m l b e2 h2)
  · rcases cs m q e1 with ⟨rfl, rfl⟩ | ⟨ne, e⟩
    · rw [h2] at e2; cases e2
    · exact (s.atk m q b e e2).keep (List.prefix_refl _) kt kf
/-- the list that a place holds -/
theorem Sto.list (s : Sto K F μ st H) {l : Nat} {a : Addr} {b : Bool} {ds : List D} (h1 : st[l]? = some (.lst ds) ∨ st[l]? = some (.frz ds)) (h2 : μ[l]? = some (a, b)) : ∃ vs, SqL K H a vs ∧ Rps K μ H ds vs := by
  rcases h1 with h1 | h1
  · obtain ⟨vs, h, r⟩ := s.back h1 h2 rfl
    exact ⟨vs, .of h, r⟩
  · cases b with
    | false =>
      obtain ⟨ob, vs, h, r⟩ := s.at_ l _ a h1 h2
      exact ⟨vs, .inl (.inr ⟨ob, h⟩), r⟩
    | true =>
      obtain ⟨vs, o, its, n, q1, q2, q3, q4, q5, q6, r⟩ := s.atk l _ a h1 h2
      exact ⟨vs, .inr ⟨o, its, n, q1, q2, q3, q4, q5, q6⟩, r⟩
/-- a dict is locked -/
theorem Post.lock {l : Nat} {a : Addr} {b : Bool} {w : HO} {od : Obj} {o o' : O} (s : Sto K F μ st H) (h1 : st[l]? = some o) (h2 : μ[l]? = some (a, b)) (hf : o.fz = false) (hw : H a = some w) (mw : Mutl w)
    (r : RpH K F μ (upd H a (.frz od w)) a o') : Post K F μ H (st.set l o') μ (upd H a (.frz od w)) := Post.write s h1 h2 hf hw mw r
/-- .. and unlocked: what stood ahead of the lock counts -/
theorem Post.unlock {l : Nat} {a : Addr} {od : Obj} {u : HO} {s' : Store} {o' o'' : O} (am : (a, false) ∈ μ) (hu : H a = some u) (mu : Mutl u) (nt : ∀ xs, u ≠ .tup xs) (P : Post K F μ (upd H a (.frz od u)) s' μ' H') (h1 : s'[l]? = some o'') (h2 : μ'[l]? = some (a, false))
    (r : RpH K F μ' (upd H' a u) a o') : Post K F μ H (s'.set l o') μ' (upd H' a u) ∧ (∀ d v, Rp K μ' H' d v → Rp K μ' (upd H' a u) d v) := by
  have hz : H' a = some (.frz od u) := P.frm a _ upd_same (.inr fun z => z)
  have kt : ∀ b xs, H' b = some (.tup xs) → upd H' a u b = some (.tup xs) := fun b xs h => by rw [upd_ne (fun e => by subst e; rw [hz] at h; cases h)]; exact h
  have kf : ∀ b o xs, H' b = some (.frz o (.tup xs)) → upd H' a u b = some (.frz o (.tup xs)) := fun b o xs h => by
    rw [upd_ne (fun e => by subst e; rw [hz] at h; injection h with h; injection h with _ h; exact nt _ h)]; exact h
  have hl : l < s'.length := (List.getElem?_eq_some_iff.mp h1).1
  have cs : ∀ (m : Nat) (q : O), (s'.set l o')[m]? = some q → (m = l ∧ q = o') ∨ (m ≠ l ∧ s'[m]? = some q) := fun m q h => by
    by_cases e : m = l
    · subst e
      rw [List.getElem?_set_self hl] at h
      exact .inl ⟨rfl, (Option.some.inj h).symm⟩
    · rw [List.getElem?_set_ne (Ne.symm e)] at h
      exact .inr ⟨e, h⟩
  refine ⟨⟨P.pre, fun b v h n => ?_, fun b h n => ?_, ⟨by rw [List.length_set]; exact P.sto.len, fun m q b e1 e2 => ?_, fun m q b e1 e2 => ?_, P.sto.inj⟩⟩, fun d v q => q.monoT (List.prefix_refl _) kt kf⟩
  · have hb : b ≠ a := fun e => by
      subst e
      rcases n with n | n
      · exact n am
      · rw [hu] at h; cases h; exact n mu
    rw [upd_ne hb]
    exact P.frm b v (by rw [upd_ne hb]; exact h) n
  · have hb : b ≠ a := fun e => by subst e; exact n am
    have := P.new b h n
    rwa [upd_ne hb] at this
  · rcases cs m q e1 with ⟨rfl, rfl⟩ | ⟨ne, e⟩
    · rw [h2] at e2; cases e2
      exact r
    · refine (P.sto.at_ m q b e e2).keepT (List.prefix_refl _) kt kf (upd_ne fun hb => ?_)
      subst hb
      exact ne (P.sto.inj m l b e2 h2)
  · rcases cs m q e1 with ⟨rfl, rfl⟩ | ⟨ne, e⟩
    · rw [h2] at e2; cases e2
    · exact (P.sto.atk m q b e e2).keepT (List.prefix_refl _) kt kf
end
end Nz
namespace Nz
open PySem L2 PyProof.Rows
/-! ### tuple * int, of any count -/
theorem tuple_mulSame (l : Addr) (items : Array Value) (n : Nat) (dd : Option Addr) (sl : Array (Option Value)) (x : Int) (u : Tok) (c0 : (decide (x < -(2 ^ 63)) || decide (x ≥ 2 ^ 63)) = false) (c1 : (items.isEmpty || x == 1) = true) :
    Meets (Builtin.«tuple.__mul__» ⟨[.ref l, .int x u], []⟩) (fun _ R s => s.heap.get? l = some { cls := .type "tuple", dict := dd, data := .seq items n, slots := sl } ∧ R (.ok (.ret (Value.ref l))) s) :=
  .of_wp fun prog w A R s h => by
    obtain ⟨hp, g, d, tk, os⟩ := s
    obtain ⟨hl, h⟩ := h
    have f1 := AutoSeq1.idx_int
    wp_walk using wpAny_loadPart' hl
    repeat (first
      | (refine wpAny_ite_false (decide_eq_false (by rw [c0]; exact Bool.false_ne_true)) ?_; wp_walk using wpAny_loadPart' hl)
      | (refine wpAny_ite_true (decide_eq_true c1) ?_; wp_walk using wpAny_loadPart' hl))
    exact ⟨_, rfl, h⟩
theorem tuple_mulNone (l : Addr) (items : Array Value) (n : Nat) (dd : Option Addr) (sl : Array (Option Value)) (x : Int) (u : Tok) (c0 : (decide (x < -(2 ^ 63)) || decide (x ≥ 2 ^ 63)) = false) (c1 : (items.isEmpty || x == 1) = false) (c2 : (decide (x ≤ 0) || items.isEmpty) = true) :
    Meets (Builtin.«tuple.__mul__» ⟨[.ref l, .int x u], []⟩) (fun _ R s => s.heap.get? l = some { cls := .type "tuple", dict := dd, data := .seq items n, slots := sl } ∧
      R (.ok (.ret (Value.ref s.heap.objs.size))) { s with heap := s.heap.push { cls := Value.type "tuple", data := Data.seq #[] }, toks := s.toks }) :=
  .of_wp fun prog w A R s h => by
    obtain ⟨hp, g, d, tk, os⟩ := s
    obtain ⟨hl, h⟩ := h
    have f1 := AutoSeq1.idx_int
    wp_walk using wpAny_loadPart' hl
    repeat (first
      | (refine wpAny_ite_false (decide_eq_false (by rw [c0]; exact Bool.false_ne_true)) ?_; wp_walk using wpAny_loadPart' hl)
      | (refine wpAny_ite_false (decide_eq_false (by rw [c1]; exact Bool.false_ne_true)) ?_; wp_walk using wpAny_loadPart' hl)
      | (refine wpAny_ite_true (decide_eq_true c2) ?_; wp_walk using wpAny_loadPart' hl))
    exact ⟨_, rfl, h⟩
def rRepA (K : PySem.W.Frag) : R2 := fun x y H Q => ∃ l k xs, x = .ref l ∧ y = .int k ∧ SqT K H l xs ∧ -9223372036854775808 ≤ k ∧ k < 9223372036854775808 ∧ k.toNat * xs.length ≤ 16777216 ∧ (xs = [] ∨ k = 1 → Q (.ref l) H) ∧ (xs ≠ [] → k ≠ 1 → ∀ p, H p = none → Q (.ref p) (upd H p (.tup (List.replicate k.toNat xs).flatten)))
section
variable {X : Cx}
theorem op_repA : OpR X (binaryOp .Mult) (rRepA X.K) := by
  intro pins s σ H x y v u Q I rx ry h
  obtain ⟨l, k, xs, rfl, rfl, hT, b1, b2, hz, q1, q2⟩ := h
  cases rx
  obtain ⟨t, rfl⟩ := ry
  obtain ⟨its, r, ⟨⟨cls, dd, data, sl⟩, ho, hc, n, hd⟩, hs⟩ := I.tuple hT
  simp only at hc hd
  subst hc hd
  have hle : its.length = xs.length := r.length.symm
  have hsz0 : its.toArray.size = xs.length := by rw [List.size_toArray, hle]
  have c0 : (decide (k < -(2 ^ 63)) || decide (k ≥ 2 ^ 63)) = false := by
    rw [decide_eq_false (show ¬ k < -(2 ^ 63) by omega), decide_eq_false (show ¬ k ≥ 2 ^ 63 by omega)]; rfl
  have he : its.toArray.isEmpty = decide (xs = []) := by
    cases its with
    | nil => rw [decide_eq_true (List.eq_nil_of_length_eq_zero hle.symm)]; rfl
    | cons a b => rw [decide_eq_false (fun e => by rw [e] at hle; cases hle)]; rfl
  by_cases c : xs = [] ∨ k = 1
  · have c1 : (its.toArray.isEmpty || k == 1) = true := by
      rw [he, Bool.or_eq_true]
      rcases c with c | c
      · exact .inl (decide_eq_true c)
      · exact .inr (beq_iff_eq.mpr c)
    exact wpAny_binaryOp_repeat_ref (T := "tuple") (U := "int") (by decide) ⟨_, ho, rfl⟩ (fun s' => typeIs_int s' k t) noFill_tuple_mul F.fills_int_mul F.slot_int_rmul repeat_tuple F.slot_int_index.lookup
      (call_meets F.slot_int_rmul (typeIs_int s k t) F.entry_int_rmul (F.args_int_rmul_2 _ _) (int_rmul_tuple k t l its.toArray n dd sl)
        ⟨ho, rfl, ⟨_, ho, rfl⟩, call_meets F.slot_tuple_mul ⟨_, ho, rfl⟩ F.entry_tuple_mul (F.args_tuple_mul_2 _ _) (tuple_mulSame l its.toArray n dd sl k t c0 c1) ⟨ho, ⟨.ref l, H, I, rfl, q1 c⟩⟩⟩)
  · have n1 : xs ≠ [] := fun e => c (.inl e)
    have n2 : k ≠ 1 := fun e => c (.inr e)
    have q := q2 n1 n2
    have c1 : (its.toArray.isEmpty || k == 1) = false := by
      rw [he, decide_eq_false n1, Bool.false_or]
      exact beq_eq_false_iff_ne.mpr n2
    by_cases d : k ≤ 0
    · have c2 : (decide (k ≤ 0) || its.toArray.isEmpty) = true := by rw [decide_eq_true d]; rfl
      have e0 : k.toNat = 0 := by omega
      rw [e0] at q
      refine wpAny_binaryOp_repeat_ref (T := "tuple") (U := "int") (by decide) ⟨_, ho, rfl⟩ (fun s' => typeIs_int s' k t) noFill_tuple_mul F.fills_int_mul F.slot_int_rmul repeat_tuple F.slot_int_index.lookup
        (call_meets F.slot_int_rmul (typeIs_int s k t) F.entry_int_rmul (F.args_int_rmul_2 _ _) (int_rmul_tuple k t l its.toArray n dd sl)
          ⟨ho, rfl, ⟨_, ho, rfl⟩, call_meets F.slot_tuple_mul ⟨_, ho, rfl⟩ F.entry_tuple_mul (F.args_tuple_mul_2 _ _) (tuple_mulNone l its.toArray n dd sl k t c0 c1 c2) ⟨ho, ?_⟩⟩)
      refine ⟨.ref s.heap.objs.size, _, I.laid (t' := s.toks) (o := .tup []) (fun b ob q => Heap.get?_push_of_some _ q) (Nat.le_refl _) ?_, rfl, q _ (I.hok.fresh (Nat.le_refl _))⟩
      exact ⟨Nat.zero_le _, [], .nil, IsTup.new _ _⟩
    · have c2 : (decide (k ≤ 0) || its.toArray.isEmpty) = false := by
        rw [decide_eq_false d, he, decide_eq_false n1]; rfl
      have hk : (k.toNat : Int) = k := by omega
      have hm : ((its.toArray.size : Nat) : Int) * k ≤ 16777216 := by
        rw [hsz0, ← hk, ← Int.natCast_mul, Nat.mul_comm]
        exact Int.ofNat_le.mpr hz
      have flen : (List.replicate k.toNat its).flatten.length ≤ sizeLine := by
        rw [PyProof.Rows.lm_len_rep_flat, hle, sizeLine_eq]
        exact hz
      have c4 : Builtin.Tuple.tupleTooMany (((its.toArray.size : Nat) : Int) * k) = false := by
        unfold Builtin.Tuple.tupleTooMany
        rw [sizeLine_eq]
        exact decide_eq_false (by omega)
      refine wpAny_binaryOp_repeat_ref (T := "tuple") (U := "int") (by decide) ⟨_, ho, rfl⟩ (fun s' => typeIs_int s' k t) noFill_tuple_mul F.fills_int_mul F.slot_int_rmul repeat_tuple F.slot_int_index.lookup
        (call_meets F.slot_int_rmul (typeIs_int s k t) F.entry_int_rmul (F.args_int_rmul_2 _ _) (int_rmul_tuple k t l its.toArray n dd sl)
          ⟨ho, rfl, ⟨_, ho, rfl⟩, call_meets F.slot_tuple_mul ⟨_, ho, rfl⟩ F.entry_tuple_mul (F.args_tuple_mul_2 _ _) (tuple_mulW l its.toArray n dd sl k t c0 c1 c2 (by omega) c4 (by rw [size_rep, List.size_toArray]; exact flen)) ⟨ho, ?_⟩⟩)
      rw [size_rep]
      refine ⟨.ref s.heap.objs.size, _, I.laid (t' := s.toks) (o := .tup (List.replicate k.toNat xs).flatten) (fun b ob q => Heap.get?_push_of_some _ q) (Nat.le_refl _) ?_, rfl, q _ (I.hok.fresh (Nat.le_refl _))⟩
      exact ⟨by rw [PyProof.Rows.lm_len_rep_flat, sizeLine_eq]; exact hz, _, r.rep k.toNat, IsTup.new _ _⟩
end
end Nz
namespace Nz
open PySem L2 PyProof.Rows
/-! ### ints -/
theorem mulOk_ok {i j : Int} (h : mulOk i j = true) : IntMulOk i j := by
  unfold mulOk at h
  rcases Bool.or_eq_true _ _ |>.mp h with h | h
  · have h := of_decide_eq_true h
    exact CMul.ok (i := i) (j := j) h
  · have h := of_decide_eq_true h
    exact CMulW.ok (i := i) (j := j) h
theorem divOk_ok {i j : Int} (h : divOk j = true) : 0 < j ∧ (Builtin.divisionGoesByPylong i j = false) := by
  unfold divOk at h
  simp only [Bool.and_eq_true, Bool.or_eq_true, decide_eq_true_eq] at h
  refine ⟨h.1, ?_⟩
  rcases h.2 with h2 | h2
  · exact PyProof.noPylong_small (by omega)
  · exact PyProof.noPylong_of_log2 h2
theorem shlOk_ok {i j : Int} (h0 : 0 ≤ j) (h1 : j ≤ 1000000) (h2 : i.natAbs.log2 + j.toNat < 100000000) : (Builtin.Int.intBits i : Int) + j ≤ 2 ^ 27 := by
  have b : Builtin.Int.intBits i ≤ i.natAbs.log2 + 1 := by
    unfold Builtin.Int.intBits
    split <;> omega
  have e : (2 : Int) ^ 27 = 134217728 := by decide
  rw [e]; omega
section
variable {prog : Program} {w : World} {A : Around} {E : Value → Shared → Prop} {s : Shared} {Q : Value → Shared → Prop} {i j k : Int} {t u : Tok}
theorem ar_bin {op : Operator} {o : BinO} (ho : trBin op = some o) (hk : arith o i j = some k) (h : Q (.int k s.toks) { s with toks := s.toks + 1 }) : wpAny (model prog w) A (binaryOp op (.int i t) (.int j u)) Q E s := by
  cases op <;> simp only [trBin, Option.some.injEq, reduceCtorEq] at ho <;> subst ho <;> simp only [arith] at hk
  · cases hk; exact add_int h
  · cases hk; exact sub_int h
  · split at hk
    · cases hk; rename_i hm; exact mul_int h (mulOk_ok hm)
    · cases hk
  · split at hk
    · cases hk; exact mod_int' (by omega) (by rw [Int.fmod_eq_emod_of_nonneg i (by omega)]; exact h)
    · split at hk
      · cases hk; exact mod_int' (by omega) h
      · cases hk
  · split at hk
    · cases hk; rename_i hm; exact pow_int_small hm.1 hm.2.1 hm.2.2 h
    · cases hk
  · split at hk
    · cases hk; rename_i hm; exact lshift_int hm.1 (shlOk_ok hm.1 hm.2.1 hm.2.2) h
    · cases hk
  · split at hk
    · cases hk; rename_i hm; exact rshift_int hm (by rw [Int.fdiv_eq_ediv_of_nonneg i (two_pow_nn _)]; exact h)
    · cases hk
  · cases hk; exact or_int h
  · cases hk; exact xor_int h
  · cases hk; exact and_int h
  · split at hk
    · cases hk; rename_i hm
      obtain ⟨h1, h2⟩ := divOk_ok (i := i) hm
      exact floordiv_int (by omega) (by rw [Int.fdiv_eq_ediv_of_nonneg i (by omega)]; exact h) (.inl h2)
    · split at hk
      · cases hk; rename_i hm; exact floordiv_int hm.1 h (.inl (hm.2.elim PyProof.noPylong_small PyProof.noPylong_of_log2))
      · cases hk
theorem ar_in {op : Operator} {o : BinO} (ho : trBin op = some o) (hp : o ≠ .pow) (hk : arith o i j = some k) (h : Q (.int k s.toks) { s with toks := s.toks + 1 }) : wpAny (model prog w) A (inplaceOp op (.int i t) (.int j u)) Q E s := by
  cases op <;> simp only [trBin, Option.some.injEq, reduceCtorEq] at ho <;> subst ho <;> simp only [arith] at hk
  · cases hk; exact iadd_int h
  · cases hk; exact isub_int h
  · split at hk
    · cases hk; rename_i hm; exact imul_int h (mulOk_ok hm)
    · cases hk
  · split at hk
    · cases hk; exact imod_int (by omega) (by rw [Int.fmod_eq_emod_of_nonneg i (by omega)]; exact h)
    · split at hk
      · cases hk; exact imod_int (by omega) h
      · cases hk
  · exact absurd rfl hp
  · split at hk
    · cases hk; rename_i hm; exact ilshift_int hm.1 (shlOk_ok hm.1 hm.2.1 hm.2.2) h
    · cases hk
  · split at hk
    · cases hk; rename_i hm; exact irshift_int hm (by rw [Int.fdiv_eq_ediv_of_nonneg i (two_pow_nn _)]; exact h)
    · cases hk
  · cases hk; exact ior_int h
  · cases hk; exact ixor_int h
  · cases hk; exact iand_int h
  · split at hk
    · cases hk; rename_i hm
      obtain ⟨h1, h2⟩ := divOk_ok (i := i) hm
      exact ifloordiv_int (by omega) (by rw [Int.fdiv_eq_ediv_of_nonneg i (by omega)]; exact h) (.inl h2)
    · split at hk
      · cases hk; rename_i hm; exact ifloordiv_int hm.1 h (.inl (hm.2.elim PyProof.noPylong_small PyProof.noPylong_of_log2))
      · cases hk
end
/-! ### operators by values -/
def rD (K : PySem.W.Frag) (F : Nm) (f : D → D → Store → R D) : R2 := fun x y H Q => ∃ μ st d e, Sto K F μ st H ∧ Rp K μ H d x ∧ Rp K μ H e y ∧ WP K F μ H (f d e st) (VQ K Q)
section
variable {X : Cx} {F : Nm} {μ : Mu} {H : Hp} {st : Store} {ds : List D} {Q : VK}
theorem newL_ok {K : PySem.W.Frag} {vs : List V} (S : Sto K F μ st H) (r : Rps K μ H ds vs) (w : WP K F μ H (newL ds st) (VQ K Q)) : vs.length ≤ sizeLine ∧ ∀ p, H p = none → Q (.ref p) (upd H p (.lst vs)) := by
  obtain ⟨hl, w⟩ := w.grd
  have hl : ds.length ≤ 16777216 := of_decide_eq_true hl
  refine ⟨by rw [← r.length, sizeLine_eq]; exact hl, fun p hp => ?_⟩
  have P := Post.push (u := .lst vs) (o := .lst ds) S hp ⟨vs, upd_same, ?_⟩
  · exact w _ _ P _ (.ref (b := false) (by rw [← S.len]; simp))
  · have P0 := Post.fresh (u := .lst vs) S hp
    exact r.mono (List.prefix_append _ _) P0.tups P0.frzs
theorem newT_ok {K : PySem.W.Frag} {vs : List V} (S : Sto K F μ st H) (r : Rps K μ H ds vs) (w : WP K F μ H (newT ds st) (VQ K Q)) : vs.length ≤ sizeLine ∧ ∀ p, H p = none → Q (.ref p) (upd H p (.tup vs)) := by
  obtain ⟨hl, w⟩ := w.grd
  have hl : ds.length ≤ 16777216 := of_decide_eq_true hl
  refine ⟨by rw [← r.length, sizeLine_eq]; exact hl, fun p hp => ?_⟩
  have P := Post.fresh (u := .tup vs) S hp
  exact w _ _ P _ (.tup upd_same (r.post P))
theorem bin_ok {op : Operator} {o : BinO} (ho : trBin op = some o) : OpR X (binaryOp op) (rD X.K F (binop o)) := by
  intro pins s σ H x y v u Q I rx ry h
  obtain ⟨μ, st, d, e, S, r1, r2, w⟩ := h
  cases r1 with
  | int i =>
    cases r2 with
    | int j =>
      obtain ⟨t, rfl⟩ := rx
      obtain ⟨t', rfl⟩ := ry
      have w : WP X.K F μ H (R.ofI (arith o i j) st) (VQ X.K Q) := w
      cases hk : arith o i j with
      | none => rw [hk] at w; exact w.elim
      | some k =>
        rw [hk] at w
        exact ar_bin ho hk ⟨.int k, H, I.tok _, ⟨_, rfl⟩, w.ok S _ (.int k)⟩
    | _ => exact w.elim
  | @tup ds a vs hs rs =>
    cases r2 with
    | @tup es b ws ht rt =>
      cases o with
      | add =>
        have hop : op = .Add := by cases op <;> simp [trBin] at ho ⊢
        subst hop
        have w : WP X.K F μ H (newT (ds ++ es) st) (VQ X.K Q) := w
        obtain ⟨hz, hq⟩ := newT_ok S (rs.append rt) w
        obtain ⟨hl, w⟩ := w.grd
        refine op_catA pins s σ H _ _ v u Q I rx ry ⟨a, b, vs, ws, rfl, rfl, .of hs, .of ht, by rw [← List.length_append]; exact hz, fun e => ?_, fun _ e => ?_, fun _ _ => hq⟩
        · have e1 : ds = [] := by cases rs with | nil => rfl | cons _ _ => cases e
          exact w.ok S _ (by rw [e1]; exact .tup ht rt)
        · have e1 : es = [] := by cases rt with | nil => rfl | cons _ _ => cases e
          exact w.ok S _ (by rw [e1, List.append_nil]; exact .tup hs rs)
      | _ => exact w.elim
    | int k =>
      cases o with
      | mul =>
        have hop : op = .Mult := by cases op <;> simp [trBin] at ho ⊢
        subst hop
        have w : WP X.K F μ H (R.grd (decide (-9223372036854775808 ≤ k ∧ k < 9223372036854775808)) (newT (reps k.toNat ds) st)) (VQ X.K Q) := w
        obtain ⟨hb, w⟩ := w.grd
        have hb := of_decide_eq_true hb
        obtain ⟨hz, hq⟩ := newT_ok S (rs.flat k.toNat) w
        obtain ⟨_, w⟩ := w.grd
        refine op_repA pins s σ H _ _ v u Q I rx ry ⟨a, k, vs, rfl, rfl, .of hs, hb.1, hb.2, ?_, fun e => ?_, fun _ _ => hq⟩
        · rw [List.length_flatten, List.map_replicate, List.sum_replicate_nat, sizeLine_eq] at hz
          exact hz
        · refine w.ok S _ ?_
          rcases e with e | e
          · have e1 : ds = [] := by cases rs with | nil => rfl | cons _ _ => cases e
            have e2 : reps k.toNat ds = ds := by rw [e1]; simp [reps]
            rw [e2]; exact .tup hs rs
          · have e2 : reps k.toNat ds = ds := by rw [e]; simp [reps]
            rw [e2]; exact .tup hs rs
      | _ => exact w.elim
    | _ => exact w.elim
  | @ref l a _ hl =>
    cases r2 with
    | @ref m b _ hm =>
      have w : WP X.K F μ H (binR o l m st) (VQ X.K Q) := w
      obtain ⟨as, bs, c1, c2, ho', w2⟩ : ∃ as bs, st[l]? = some (.lst as) ∧ st[m]? = some (.lst bs) ∧ o = .add ∧ WP X.K F μ H (newL (as ++ bs) st) (VQ X.K Q) := by
        unfold binR at w
        split at w
        · rename_i c1 c2
          exact ⟨_, _, by assumption, by assumption, rfl, w⟩
        · exact w.elim
      subst ho'
      have hop : op = .Add := by cases op <;> simp [trBin] at ho ⊢
      subst hop
      obtain ⟨vs, h1, q1⟩ := S.back c1 hl rfl
      obtain ⟨ws, h2, q2⟩ := S.back c2 hm rfl
      obtain ⟨hz, hq⟩ := newL_ok S (q1.append q2) w2
      exact op_cat pins s σ H _ _ v u Q I rx ry ⟨a, b, vs, ws, rfl, rfl, h1, h2, by rw [← List.length_append]; exact hz, hq⟩
    | int k =>
      simp only [binop] at w
      split at w
      · rename_i c1
        have hop : op = .Mult := by cases op <;> simp [trBin] at ho ⊢
        subst hop
        obtain ⟨hb, w⟩ := w.grd
        have hb := of_decide_eq_true hb
        obtain ⟨vs, h1, q1⟩ := S.back c1 hl rfl
        obtain ⟨hz, hq⟩ := newL_ok S (q1.flat k.toNat) w
        refine op_rep pins s σ H _ _ v u Q I rx ry ⟨a, k, vs, rfl, rfl, h1, hb.1, hb.2, ?_, hq⟩
        rw [List.length_flatten, List.map_replicate, List.sum_replicate_nat] at hz
        rw [Nat.mul_comm]; exact hz
      · exact w.elim
    | _ => exact w.elim
  | _ => exact w.elim
end
end Nz
namespace Nz
open PySem L2 PyProof.Rows
/-! ### dicts -/
theorem keyD_inj {a b : L2.Key} (e : keyD a = keyD b) : a = b := by
  cases a <;> cases b <;> simp only [keyD, D.int.injEq, D.str.injEq, reduceCtorEq] at e <;> rw [e]
theorem keysD_inj {a b : List L2.Key} (e : keysD a = keysD b) : a = b := by
  simp only [keysD, D.tup.injEq] at e
  induction a generalizing b with
  | nil => cases b with
    | nil => rfl
    | cons _ _ => simp at e
  | cons x xs ih => cases b with
    | nil => simp at e
    | cons y ys =>
      simp only [List.map_cons, List.cons.injEq] at e
      rw [keyD_inj e.1, ih e.2]
section
variable {κ : Type} [DecidableEq κ] {kd : κ → D} {K : PySem.W.Frag} {F : Nm} {μ : Mu} {H : Hp} {st : Store}
theorem RpD.get (inj : ∀ a b, kd a = kd b → a = b) (k : κ) : ∀ {kvs : List (D × D)} {kv : List (κ × V)}, RpD kd K μ H kvs kv → (dGet kvs (kd k) = none ∧ valV kv k = none) ∨ ∃ d v, dGet kvs (kd k) = some d ∧ valV kv k = some v ∧ Rp K μ H d v
  | _, _, .nil => .inl ⟨rfl, rfl⟩
  | (x, d) :: kvs, (j, v) :: kv, .cons h t => by
    obtain ⟨h1, h2⟩ := h
    simp only at h1 h2
    by_cases c : j = k
    · refine .inr ⟨d, v, ?_, ?_, h2⟩
      · unfold dGet
        rw [List.find?_cons_of_pos (by simp [h1, c])]
        rfl
      · exact valV_pos (p := (j, v)) c
    · have c2 : ¬ x = kd k := fun e => c (inj _ _ (h1.symm.trans e))
      have e1 : dGet ((x, d) :: kvs) (kd k) = dGet kvs (kd k) := by
        unfold dGet
        rw [List.find?_cons_of_neg (by simp [c2])]
      rw [e1, valV_neg (p := (j, v)) c]
      exact RpD.get inj k t
theorem RpD.any (inj : ∀ a b, kd a = kd b → a = b) (k : κ) : ∀ {kvs : List (D × D)} {kv : List (κ × V)}, RpD kd K μ H kvs kv → (kvs.any fun p => decide (p.1 = kd k)) = kv.any fun p => decide (p.1 = k)
  | _, _, .nil => rfl
  | (x, d) :: kvs, (j, v) :: kv, .cons h t => by
    rw [List.any_cons, List.any_cons, RpD.any inj k t]
    have h1 : x = kd j := h.1
    congr 1
    by_cases c : j = k
    · simp [h1, c]
    · have c2 : ¬ x = kd k := fun e => c (inj _ _ (h1.symm.trans e))
      simp [c, c2]
theorem RpD.setv (inj : ∀ a b, kd a = kd b → a = b) (k : κ) {d : D} {v : V} (r : Rp K μ H d v) : ∀ {kvs : List (D × D)} {kv : List (κ × V)}, RpD kd K μ H kvs kv →
    RpD kd K μ H (kvs.map fun p => if p.1 = kd k then (p.1, d) else p) (kv.map fun p => if p.1 = k then (p.1, v) else p)
  | _, _, .nil => .nil
  | (x, e) :: kvs, (j, u) :: kv, .cons h t => by
    have h1 : x = kd j := h.1
    refine .cons ?_ (RpD.setv inj k r t)
    show (if x = kd k then (x, d) else (x, e)).1 = kd (if j = k then (j, v) else (j, u)).1 ∧ Rp K μ H (if x = kd k then (x, d) else (x, e)).2 (if j = k then (j, v) else (j, u)).2
    by_cases c : j = k
    · rw [if_pos (show (x, e).1 = kd k by rw [← c]; exact h1), if_pos (show (j, u).1 = k from c)]
      exact ⟨h1, r⟩
    · rw [if_neg (show ¬ (x, e).1 = kd k from fun e => c (inj _ _ (h1.symm.trans e))), if_neg (show ¬ (j, u).1 = k from c)]
      exact h
theorem RpD.snoc {d : D} {v : V} (k : κ) (r : Rp K μ H d v) : ∀ {kvs : List (D × D)} {kv : List (κ × V)}, RpD kd K μ H kvs kv → RpD kd K μ H (kvs ++ [(kd k, d)]) (kv ++ [(k, v)])
  | _, _, .nil => .cons ⟨rfl, r⟩ .nil
  | _, _, .cons h t => .cons h (RpD.snoc k r t)
theorem RpD.put (inj : ∀ a b, kd a = kd b → a = b) (k : κ) {d : D} {v : V} {kvs : List (D × D)} {kv : List (κ × V)} (q : RpD kd K μ H kvs kv) (r : Rp K μ H d v) : RpD kd K μ H (dPut kvs (kd k) d) (putK kv k v) := by
  unfold dPut putK
  rw [q.any inj k]
  split
  · exact q.setv inj k r
  · exact q.snoc k r
theorem RpD.length {kvs : List (D × D)} {kv : List (κ × V)} (q : RpD kd K μ H kvs kv) : kvs.length = kv.length := Paired.length q
end
section
variable {X : Cx} {K : PySem.W.Frag} {F : Nm} {μ : Mu} {H : Hp} {st : Store}
theorem key0_ok {d : D} {y : V} (r : Rp K μ H d y) (h : d.key0 = true) : ∃ k : L2.Key, d = keyD k ∧ y = kV k := by
  cases r with
  | int i => exact ⟨.inl i, rfl, rfl⟩
  | str s => exact ⟨.inr s, rfl, rfl⟩
  | _ => cases h
theorem keys0_ok : ∀ {ds : List D} {vs : List V}, Rps K μ H ds vs → ds.all D.key0 = true → ∃ ks : List L2.Key, ds = ks.map keyD ∧ vs = ks.map kV
  | _, _, .nil, _ => ⟨[], rfl, rfl⟩
  | _, _, .cons r t, h => by
    simp only [List.all_cons, Bool.and_eq_true] at h
    obtain ⟨k, rfl, rfl⟩ := key0_ok r h.1
    obtain ⟨ks, rfl, rfl⟩ := keys0_ok t h.2
    exact ⟨k :: ks, rfl, rfl⟩
/-- a dict's place -/
theorem dctOf_ok {x : D} {v : V} {t : Bool} {kvs : List (D × D)} (S : Sto K F μ st H) (r : Rp K μ H x v) (h : dctOf x st = some (t, kvs)) : ∃ (l : Nat) (a : Addr), x = .ref l ∧ v = .ref a ∧ μ[l]? = some (a, false) ∧ st[l]? = some (.dct t kvs) ∧ RpH K F μ H a (.dct t kvs) := by
  cases r with
  | @ref l a b hl =>
    have hd : st[l]? = some (.dct t kvs) := by
      unfold dctOf at h
      simp only at h
      split at h
      · cases h; assumption
      · cases h
    have hb := S.flag hd hl rfl
    subst hb
    exact ⟨l, a, rfl, rfl, hl, hd, S.at_ l _ a hd hl⟩
  | _ => cases h
/-- what a dict has at a key -/
theorem dget_ok {a : Addr} {t : Bool} {kvs : List (D × D)} {k : D} {y : V} (R : RpH K F μ H a (.dct t kvs)) (r : Rp K μ H k y) (h : k.keyOk t = true) :
    (dGet kvs k = none ∧ DGet H a y none) ∨ ∃ d v, dGet kvs k = some d ∧ DGet H a y (some v) ∧ Rp K μ H d v := by
  cases t with
  | false =>
    obtain ⟨kv, h1, q⟩ := R
    obtain ⟨k, rfl, rfl⟩ := key0_ok r h
    have g := DGet.k (k := k) h1
    rcases q.get (fun _ _ => keyD_inj) k with ⟨e1, e2⟩ | ⟨d, v, e1, e2, e3⟩
    · rw [e2] at g; exact .inl ⟨e1, g⟩
    · rw [e2] at g; exact .inr ⟨d, v, e1, g, e3⟩
  | true =>
    obtain ⟨kv, h1, q⟩ := R
    cases r with
    | @tup ds b vs hb rs =>
      obtain ⟨ks, rfl, rfl⟩ := keys0_ok rs h
      have g := DGet.t (k := ks) h1 hb
      rcases q.get (fun _ _ => keysD_inj) ks with ⟨e1, e2⟩ | ⟨d, v, e1, e2, e3⟩
      · rw [e2] at g; exact .inl ⟨e1, g⟩
      · rw [e2] at g; exact .inr ⟨d, v, e1, g, e3⟩
    | _ => cases h
/-- d[k] = z -/
theorem dput_ok {l : Nat} {a : Addr} {t : Bool} {kvs : List (D × D)} {k d : D} {y z : V} (S : Sto K F μ st H) (hl : μ[l]? = some (a, false)) (hd : st[l]? = some (.dct t kvs)) (r : Rp K μ H k y) (rz : Rp K μ H d z) (h : k.keyOk t = true) (hz : kvs.length < 16777216) :
    ∃ H', DPut H a y z H' ∧ Post K F μ H (st.set l (.dct t (dPut kvs k d))) μ H' := by
  have R := S.at_ l _ a hd hl
  have no : ∀ u : HO, Mutl u → H a = some u → ∀ w, (∀ b xs, H b = some (.tup xs) → upd H a w b = some (.tup xs)) ∧ (∀ b o v, H b = some (.frz o v) → upd H a w b = some (.frz o v)) := fun u m e w =>
    ⟨fun b xs q => by rw [upd_ne (fun z => by subst z; rw [e] at q; cases q; exact m)]; exact q, fun b o v q => by rw [upd_ne (fun z => by subst z; rw [e] at q; cases q; exact m)]; exact q⟩
  cases t with
  | false =>
    obtain ⟨kv, h1, q⟩ := R
    obtain ⟨k, rfl, rfl⟩ := key0_ok r h
    refine ⟨_, DPut.k h1 (by rw [← q.length, sizeLine_eq]; exact hz), ?_⟩
    obtain ⟨kt, kf⟩ := no (.dK kv) True.intro h1 (.dK (putK kv k z))
    exact Post.write (o := .dct false kvs) S hd hl rfl h1 True.intro ⟨_, upd_same, (q.put (fun _ _ => keyD_inj) k rz).mono (List.prefix_refl _) kt kf⟩
  | true =>
    obtain ⟨kv, h1, q⟩ := R
    cases r with
    | @tup ds b vs hb rs =>
      obtain ⟨ks, rfl, rfl⟩ := keys0_ok rs h
      refine ⟨_, .inr ⟨kv, ks, b, h1, rfl, hb, by rw [← q.length, sizeLine_eq]; exact hz, rfl⟩, ?_⟩
      obtain ⟨kt, kf⟩ := no (.dT kv) True.intro h1 (.dT (putK kv ks z))
      exact Post.write (o := .dct true kvs) S hd hl rfl h1 True.intro ⟨_, upd_same, (q.put (fun _ _ => keysD_inj) ks rz).mono (List.prefix_refl _) kt kf⟩
    | _ => cases h
/-- d[k], by values -/
theorem ix_dct (hu : X.A.units + 64 < cLine) : IxR X (fun x y H Q => ∃ a v, x = .ref a ∧ DGet H a y (some v) ∧ Q v H) := by
  intro value slice pins s σ H x y v u Q I rx ry h hs
  obtain ⟨a, w, rfl, g, q⟩ := h
  cases rx
  have hT := dict_typeIs I g
  unfold subscriptTail
  refine wpAny_bind ?_
  rw [getitemInPython_of_ne hT.not_modules]
  refine wpAny_bind (wpAny_specialOf hT PySem.F.slot_dict_getitem.lookup ?_)
  have fin : wpAny (model X.prog X.w) X.A (subscripted slice false (.ref a) u) (fun r s₃ => wpAny (model X.prog X.w) X.A (letTemporaryGo value (.ref a) r >>= fun _ => pure r) (EP X pins σ Q) X.xe s₃) X.xe s := by
    rw [hs]
    refine wpAny_operating (wpAny_mono (d_getItem (Q := EP X pins σ Q) (by omega) I g ry fun w' s3 I3 rw' => ⟨w, H, I3, rw', q⟩) (fun r s₃ h₃ => wpAny_bind (wpAny_letTemporaryGo (wpAny_pure h₃))) fun _ _ x => x)
  first
    | exact wpAny_pure (wpAny_bind fin)
    | exact wpAny_bind (wpAny_pure (wpAny_bind fin))
    | exact wpAny_bind fin
end
end Nz
namespace Nz
open PySem L2 PyProof.Rows
section
variable {K : PySem.W.Frag} {F : Nm} {μ : Mu} {H : Hp} {st : Store}
/-! ### == of data -/
mutual
theorem toP_ok {lk : Nat → Option PyData} (hk : ∀ (l : Nat) (a : Addr) (b : Bool) (p : PyData), μ[l]? = some (a, b) → lk l = some p → Dp K H (.ref a) p) : ∀ {d : D} {v : V} {p : PyData}, Rp K μ H d v → toP lk d = some p → Dp K H v p
  | _, _, _, .non, e => by simp only [toP, Option.some.injEq] at e; subst e; exact .non
  | _, _, _, .bl b, e => by simp only [toP, Option.some.injEq] at e; subst e; exact .bl b
  | _, _, _, .int b, e => by simp only [toP, Option.some.injEq] at e; subst e; exact .int b
  | _, _, _, .str b, e => by simp only [toP, Option.some.injEq] at e; subst e; exact .str b
  | _, _, _, .ref h, e => hk _ _ _ _ h (by simpa only [toP] using e)
  | .tup ds, _, _, .tup h r, e => by
    simp only [toP] at e
    cases q : toPs lk ds with
    | none => rw [q] at e; cases e
    | some ps =>
      rw [q] at e
      simp only [Option.map_some, Option.some.injEq] at e
      subst e
      exact .tup (.of h) (toPs_ok hk r q)
  | .wt ds, _, _, .wt h r, e => by
    simp only [toP] at e
    cases q : toPs lk ds with
    | none => rw [q] at e; cases e
    | some ps =>
      rw [q] at e
      simp only [Option.map_some, Option.some.injEq] at e
      subst e
      exact .tup h (toPs_ok hk r q)
theorem toPs_ok {lk : Nat → Option PyData} (hk : ∀ (l : Nat) (a : Addr) (b : Bool) (p : PyData), μ[l]? = some (a, b) → lk l = some p → Dp K H (.ref a) p) : ∀ {ds : List D} {vs : List V} {ps : List PyData}, Rps K μ H ds vs → toPs lk ds = some ps → DpAll K H vs ps
  | _, _, _, .nil, e => by simp only [toPs, Option.some.injEq] at e; subst e; exact .nil
  | d :: ds, _, _, .cons h t, e => by
    simp only [toPs] at e
    cases q : toP lk d with
    | none => rw [q] at e; cases e
    | some p =>
      rw [q] at e
      cases q' : toPs lk ds with
      | none => rw [q'] at e; cases e
      | some ps =>
        rw [q'] at e
        simp only [Option.some.injEq] at e
        subst e
        exact .cons (toP_ok hk h q) (toPs_ok hk t q')
end
theorem lookP_ok (S : Sto K F μ st H) : ∀ (n l : Nat) (a : Addr) (b : Bool) (p : PyData), μ[l]? = some (a, b) → lookP st n l = some p → Dp K H (.ref a) p
  | 0, _, _, _, _, _, e => by simp only [lookP, reduceCtorEq] at e
  | n + 1, l, a, b, p, h, e => by
    obtain ⟨ds, hd, e⟩ : ∃ ds, (st[l]? = some (.lst ds) ∨ st[l]? = some (.frz ds)) ∧ (toPs (lookP st n) ds).map .list = some p := by
      simp only [lookP] at e
      split at e
      · exact ⟨_, .inl (by assumption), e⟩
      · exact ⟨_, .inr (by assumption), e⟩
      · cases e
    obtain ⟨vs, h1, r⟩ := S.list hd h
    cases q : toPs (lookP st n) ds with
    | none => rw [q] at e; cases e
    | some ps =>
      rw [q] at e
      simp only [Option.map_some, Option.some.injEq] at e
      subst e
      exact .lst h1 (toPs_ok (fun l a b p h e => lookP_ok S n l a b p h e) r q)
/-- what == answers -/
theorem eqP_ok {x y : D} {v u : V} {b : Bool} (S : Sto K F μ st H) (rx : Rp K μ H x v) (ry : Rp K μ H y u) (e : eqP x y st = some b) :
    ∃ p q, Dp K H v p ∧ Dp K H u q ∧ SeqAt.shaped p = true ∧ SeqAt.shaped q = true ∧ PyData.eqv p q = b := by
  unfold eqP at e
  cases h1 : toP (lookP st 8) x with
  | none => rw [h1] at e; cases e
  | some p =>
    cases h2 : toP (lookP st 8) y with
    | none => rw [h1, h2] at e; cases e
    | some q =>
      rw [h1, h2] at e
      simp only at e
      split at e
      · rename_i hs
        rw [Bool.and_eq_true] at hs
        exact ⟨p, q, toP_ok (fun l a b p h e => lookP_ok S 8 l a b p h e) rx h1, toP_ok (fun l a b p h e => lookP_ok S 8 l a b p h e) ry h2, hs.1, hs.2, Option.some.inj e⟩
      · cases e
theorem eqD_ok {x y : D} {v u : V} {b : Bool} (S : Sto K F μ st H) (rx : Rp K μ H x v) (ry : Rp K μ H y u) (e : eqD x y st = some b) :
    (scal v u = true ∧ decide (v = u) = b) ∨ ∃ p q, Dp K H v p ∧ Dp K H u q ∧ SeqAt.shaped p = true ∧ SeqAt.shaped q = true ∧ PyData.eqv p q = b := by
  by_cases h : eqP x y st = some b
  · exact .inr (eqP_ok S rx ry h)
  · refine .inl ?_
    cases rx <;> cases ry <;> simp only [eqD, Option.some.injEq] at e <;> first
      | exact absurd e h
      | (subst e; exact ⟨rfl, by simp⟩)
      | (subst e; exact ⟨rfl, by rfl⟩)
end
section
variable {X : Cx} {F : Nm}
theorem eq_ok (hu : X.A.units + 64 < cLine) : OpR X (compareOp .Eq) (rD X.K F (cmpop .eq)) := by
  intro pins s σ H x y v u Q I rx ry h
  obtain ⟨μ, st, d, e, S, r1, r2, w⟩ := h
  have w : WP X.K F μ H (R.ofB (eqD d e st) st) (VQ X.K Q) := w
  cases hk : eqD d e st with
  | none => rw [hk] at w; exact w.elim
  | some b =>
    rw [hk] at w
    have q : Q (.bl b) H := w.ok S _ (.bl b)
    rcases eqD_ok S r1 r2 hk with ⟨h1, h2⟩ | ⟨p, p', h1, h2, h3, h4, h5⟩
    · exact op_eq pins s σ H x y v u Q I rx ry ⟨h1, by rw [h2]; exact q⟩
    · exact op_eqD hu pins s σ H x y v u Q I rx ry ⟨p, p', h1, h2, h3, h4, by rw [h5]; exact q⟩
theorem ne_ok (hu : X.A.units + 64 < cLine) : OpR X (compareOp .NotEq) (rD X.K F (cmpop .ne)) := by
  intro pins s σ H x y v u Q I rx ry h
  obtain ⟨μ, st, d, e, S, r1, r2, w⟩ := h
  have w : WP X.K F μ H (R.ofB ((eqD d e st).map not) st) (VQ X.K Q) := w
  cases hk : eqD d e st with
  | none => rw [hk] at w; exact w.elim
  | some b =>
    rw [hk] at w
    have q : Q (.bl (!b)) H := w.ok S _ (.bl (!b))
    rcases eqD_ok S r1 r2 hk with ⟨h1, h2⟩ | ⟨p, p', h1, h2, h3, h4, h5⟩
    · exact op_ne pins s σ H x y v u Q I rx ry ⟨h1, by rw [h2]; exact q⟩
    · exact op_neD hu pins s σ H x y v u Q I rx ry ⟨p, p', h1, h2, h3, h4, by rw [h5]; exact q⟩
/-! ### in -/
theorem flat_ok {K : PySem.W.Frag} {μ : Mu} {H : Hp} {d : D} {v : V} (r : Rp K μ H d v) (h : d.flat = true) : flatV v = true := by cases r <;> first | rfl | cases h
theorem flats_ok {K : PySem.W.Frag} {μ : Mu} {H : Hp} : ∀ {ds : List D} {vs : List V}, Rps K μ H ds vs → ds.all D.flat = true → vs.all flatV = true
  | _, _, .nil, _ => rfl
  | _, _, .cons r t, h => by
    simp only [List.all_cons, Bool.and_eq_true] at h ⊢
    exact ⟨flat_ok r h.1, flats_ok t h.2⟩
theorem eqF_ok {K : PySem.W.Frag} {μ : Mu} {H : Hp} {d e : D} {v u : V} (r : Rp K μ H d v) (r' : Rp K μ H e u) (h : d.flat = true) (h' : e.flat = true) : eqV v u = D.eqF d e := by
  cases r <;> cases r' <;> first
    | (cases h; done)
    | (cases h'; done)
    | rfl
    | (simp [eqV, D.eqF, D.beq]; done)
    | (simp only [eqV, D.eqF, D.beq]; rw [Bool.eq_iff_iff]; simp; done)
theorem inV_ok {K : PySem.W.Frag} {μ : Mu} {H : Hp} {d : D} {v : V} (r : Rp K μ H d v) (h : d.flat = true) : ∀ {ds : List D} {vs : List V}, Rps K μ H ds vs → ds.all D.flat = true → inV v vs = ds.any fun e => D.eqF e d
  | _, _, .nil, _ => rfl
  | _, _, .cons r' t, h' => by
    simp only [List.all_cons, Bool.and_eq_true] at h'
    have ih := inV_ok r h t h'.2
    unfold inV at ih ⊢
    rw [List.any_cons, List.any_cons, ih, eqF_ok r' r h'.1 h]
theorem seqOf_ok {K : PySem.W.Frag} {F : Nm} {μ : Mu} {H : Hp} {st : Store} {x : D} {v : V} {ds : List D} (S : Sto K F μ st H) (r : Rp K μ H x v) (h : seqOf x st = some ds) : ∃ a vs, v = .ref a ∧ (SqL K H a vs ∨ SqT K H a vs) ∧ Rps K μ H ds vs := by
  cases r with
  | tup h1 rs =>
    simp only [seqOf, Option.some.injEq] at h
    subst h
    exact ⟨_, _, rfl, .inr (.of h1), rs⟩
  | @ref l a _ h1 =>
    obtain hd : st[l]? = some (.lst ds) ∨ st[l]? = some (.frz ds) := by
      simp only [seqOf] at h
      split at h
      · cases h; exact .inl (by assumption)
      · cases h; exact .inr (by assumption)
      · cases h
    obtain ⟨vs, h2, rs⟩ := S.list hd h1
    exact ⟨_, _, rfl, .inl h2, rs⟩
  | _ => cases h
theorem seqW_ok {K : PySem.W.Frag} {F : Nm} {μ : Mu} {H : Hp} {st : Store} {x : D} {v : V} {ds : List D} (S : Sto K F μ st H) (r : Rp K μ H x v) (h : seqW x st = some ds) : ∃ a vs, v = .ref a ∧ (SqL K H a vs ∨ SqT K H a vs) ∧ Rps K μ H ds vs := by
  cases r with
  | wt h1 rs =>
    simp only [seqW, Option.some.injEq] at h
    subst h
    exact ⟨_, _, rfl, .inr h1, rs⟩
  | tup h1 rs => exact seqOf_ok S (.tup h1 rs) h
  | ref h1 => exact seqOf_ok S (Rp.ref (K := K) (H := H) h1) h
  | _ => cases h
theorem isIn_ok {K : PySem.W.Frag} {F : Nm} {μ : Mu} {H : Hp} {st : Store} {x y : D} {v u : V} {b : Bool} (S : Sto K F μ st H) (rx : Rp K μ H x v) (ry : Rp K μ H y u) (hd : dctOf y st = none) (e : isIn x y st = some b) :
    ∃ p xs, u = .ref p ∧ (SqL K H p xs ∨ SqT K H p xs) ∧ flatV v = true ∧ xs.all flatV = true ∧ inV v xs = b := by
  unfold isIn at e
  rw [hd] at e
  simp only at e
  cases h : seqW y st with
  | none => rw [h] at e; cases e
  | some ds =>
    rw [h] at e
    simp only at e
    split at e
    · rename_i hf
      rw [Bool.and_eq_true] at hf
      obtain ⟨a, vs, e1, e2, rs⟩ := seqW_ok S ry h
      exact ⟨a, vs, e1, e2, flat_ok rx hf.1, flats_ok rs hf.2, (inV_ok rx hf.1 rs hf.2).trans (Option.some.inj e)⟩
    · cases e
theorem isInD_ok {K : PySem.W.Frag} {F : Nm} {μ : Mu} {H : Hp} {st : Store} {x y : D} {v u : V} {b t : Bool} {kvs : List (D × D)} (S : Sto K F μ st H) (rx : Rp K μ H x v) (ry : Rp K μ H y u) (hd : dctOf y st = some (t, kvs)) (e : isIn x y st = some b) :
    ∃ a o, u = .ref a ∧ DGet H a v o ∧ o.isSome = b := by
  unfold isIn at e
  rw [hd] at e
  simp only at e
  split at e
  · rename_i hk
    obtain ⟨l, a, rfl, rfl, h1, h2, h3⟩ := dctOf_ok S ry hd
    rcases dget_ok h3 rx hk with ⟨e1, g⟩ | ⟨d, w, e1, g, _⟩
    · rw [e1] at e; cases e; exact ⟨a, none, rfl, g, rfl⟩
    · rw [e1] at e; cases e; exact ⟨a, some w, rfl, g, rfl⟩
  · cases e
theorem intsOf_ok {K : PySem.W.Frag} {μ : Mu} {H : Hp} : ∀ {ds : List D} {vs : List V} {ns : List Int}, Rps K μ H ds vs → intsOf ds = some ns → vs = ns.map V.int
  | _, _, _, .nil, e => by simp only [intsOf, Option.some.injEq] at e; subst e; rfl
  | d :: ds, _, _, .cons h t, e => by
    cases h <;> simp only [intsOf, reduceCtorEq] at e
    rename_i i
    cases q : intsOf ds with
    | none => rw [q] at e; cases e
    | some is =>
      rw [q] at e
      simp only [Option.some.injEq] at e
      subst e
      rw [intsOf_ok t q]; rfl
theorem lexAt_gtI : ∀ (ns ms : List Int) (e r : Nat → Bool) (k : Nat), (∀ j, e (k + j) = decide (ns.getD j 0 = ms.getD j 0)) → (∀ j, r (k + j) = decide (ms.getD j 0 < ns.getD j 0)) → Ob.lexAt e r (decide (ns.length > ms.length)) k (min ns.length ms.length) = gtI ns ms
  | [], ms, e, r, k, _, _ => by simp [gtI, Ob.lexAt_zero]
  | n :: ns, [], e, r, k, _, _ => by simp [gtI, Ob.lexAt_zero]
  | n :: ns, m :: ms, e, r, k, he, hr => by
    have e0 := he 0
    have r0 := hr 0
    simp only [Nat.add_zero, List.getD_cons_zero] at e0 r0
    have ih := lexAt_gtI ns ms e r (k + 1) (fun j => by have := he (j + 1); rw [show k + (j + 1) = k + 1 + j by omega] at this; simpa using this) (fun j => by have := hr (j + 1); rw [show k + (j + 1) = k + 1 + j by omega] at this; simpa using this)
    rw [show min (n :: ns).length (m :: ms).length = min ns.length ms.length + 1 by simp only [List.length_cons]; omega, Ob.lexAt_succ, e0, r0]
    rw [show decide ((n :: ns).length > (m :: ms).length) = decide (ns.length > ms.length) from decide_eq_decide.mpr (by simp only [List.length_cons]; omega), ih]
    have g : gtI (n :: ns) (m :: ms) = if n = m then gtI ns ms else decide (m < n) := by rw [gtI]
    rw [g]
    by_cases q : n = m
    · rw [decide_eq_true q, if_pos rfl, if_pos q]
    · rw [decide_eq_false q, if_neg Bool.false_ne_true, if_neg q]
def rGtT (K : PySem.W.Frag) : R2 := fun x y H Q => ∃ (a b : Addr) (ns ms : List Int), x = .ref a ∧ y = .ref b ∧ SqT K H a (ns.map V.int) ∧ SqT K H b (ms.map V.int) ∧ Q (.bl (gtI ns ms)) H
theorem op_gtT {X : Cx} (hu : X.A.units < cLine) : OpR X (compareOp .Gt) (rGtT X.K) := by
  intro pins s σ H x y v u Q I rx ry h
  obtain ⟨a, b, ns, ms, rfl, rfl, ha, hb, q⟩ := h
  cases rx
  cases ry
  obtain ⟨its, r1, p1, _⟩ := I.tuple ha
  obtain ⟨its2, r2, p2, _⟩ := I.tuple hb
  have i1 : IntsAre its ns := Vals.ints r1
  have i2 : IntsAre its2 ms := Vals.ints r2
  have e1 : its.toArray.size = ns.length := by rw [List.size_toArray]; exact i1.length
  have e2 : its2.toArray.size = ms.length := by rw [List.size_toArray]; exact i2.length
  have at1 : ∀ j (h1 : j < its.toArray.size), ∃ t, its.toArray[j] = .int (ns.getD j 0) t := fun j h1 => PyProof.Rows.IntsAre.int_at i1 _ _ (by simp at h1; simp [h1])
  have at2 : ∀ j (h1 : j < its2.toArray.size), ∃ t, its2.toArray[j] = .int (ms.getD j 0) t := fun j h1 => PyProof.Rows.IntsAre.int_at i2 _ _ (by simp at h1; simp [h1])
  have R := Ob.RcOp.tuples_gt (A := X.A) (s := s) (e := fun j => decide (ns.getD j 0 = ms.getD j 0)) (r := fun j => decide (ms.getD j 0 < ns.getD j 0)) p1 p2 hu (fun j h1 h2 => by
    obtain ⟨t, et⟩ := at1 j h1
    obtain ⟨t', et'⟩ := at2 j h2
    rw [et, et']
    have z : (ns.getD j 0 == ms.getD j 0) = decide (ns.getD j 0 = ms.getD j 0) := by
      by_cases q : ns.getD j 0 = ms.getD j 0
      · rw [decide_eq_true q]; exact beq_iff_eq.mpr q
      · rw [decide_eq_false q]; exact beq_eq_false_iff_ne.mpr q
    rw [← z]
    exact SeqAt.EqAt.int_int _ _ _ _) (fun j h1 h2 _ => by
    obtain ⟨t, et⟩ := at1 j h1
    obtain ⟨t', et'⟩ := at2 j h2
    rw [et, et']
    exact Ob.RcOp.gt_int _ _ _ _)
  rw [e1, e2, lexAt_gtI ns ms _ _ 0 (fun j => by simp) (fun j => by simp)] at R
  have z : wpAny (model X.prog X.w) X.A (compareOp .Gt (.ref a) (.ref b)) (EP X pins σ Q) X.xe s := R X.prog X.w X.xe (EP X pins σ Q) ⟨.bl _, H, I, rfl, q⟩
  exact z
theorem cmp_ok (hu : X.A.units + 64 < cLine) (op : CmpOp) : OpR X (compareOp op) (rD X.K F (cmpop (trCmp op))) := by
  cases op with
  | Eq => exact eq_ok hu
  | NotEq => exact ne_ok hu
  | Is =>
    intro pins s σ H x y v u Q I rx ry h
    obtain ⟨μ, st, d, e, S, r1, r2, w⟩ := h
    cases r2 with
    | non =>
      have w : WP X.K F μ H (.ok (.bl (decide (d = .non))) st) (VQ X.K Q) := w
      refine op_isN pins s σ H x _ v u Q I rx ry ⟨rfl, ?_⟩
      have q := w.ok S _ (.bl _)
      cases r1 <;> exact q
    | bl b =>
      cases r1 with
      | bl a => exact op_isBl pins s σ H _ _ v u Q I rx ry ⟨a, b, rfl, rfl, WP.ok S (show WP X.K F μ H (.ok (.bl (decide (a = b))) st) (VQ X.K Q) from w) _ (.bl _)⟩
      | _ => exact w.elim
    | _ => exact w.elim
  | IsNot =>
    intro pins s σ H x y v u Q I rx ry h
    obtain ⟨μ, st, d, e, S, r1, r2, w⟩ := h
    cases r2 with
    | non =>
      have w : WP X.K F μ H (.ok (.bl (!decide (d = .non))) st) (VQ X.K Q) := w
      refine op_notN pins s σ H x _ v u Q I rx ry ⟨rfl, ?_⟩
      have q := w.ok S _ (.bl _)
      cases r1 <;> exact q
    | bl b =>
      cases r1 with
      | bl a => exact op_notBl pins s σ H _ _ v u Q I rx ry ⟨a, b, rfl, rfl, WP.ok S (show WP X.K F μ H (.ok (.bl (!decide (a = b))) st) (VQ X.K Q) from w) _ (.bl _)⟩
      | _ => exact w.elim
    | _ => exact w.elim
  | In =>
    intro pins s σ H x y v u Q I rx ry h
    obtain ⟨μ, st, d, e, S, r1, r2, w⟩ := h
    have w : WP X.K F μ H (R.ofB (isIn d e st) st) (VQ X.K Q) := w
    cases hk : isIn d e st with
    | none => rw [hk] at w; exact w.elim
    | some b =>
      rw [hk] at w
      have q : Q (.bl b) H := w.ok S _ (.bl b)
      cases hdc : dctOf e st with
      | some tk =>
        obtain ⟨a, o', rfl, g, ho⟩ := isInD_ok S r1 r2 hdc hk
        cases ry
        exact d_in (by omega) I g rx fun s' I' => ⟨.bl b, H, I', by rw [ho]; rfl, q⟩
      | none =>
      obtain ⟨p, xs, e1, e2, e3, e4, e5⟩ := isIn_ok S r1 r2 hdc hk
      exact op_in_seq pins s σ H x y v u Q I rx ry ⟨p, xs, e1, e2, e3, e4, by rw [if_neg Bool.false_ne_true, e5]; exact q⟩
  | NotIn =>
    intro pins s σ H x y v u Q I rx ry h
    obtain ⟨μ, st, d, e, S, r1, r2, w⟩ := h
    have w : WP X.K F μ H (R.ofB ((isIn d e st).map not) st) (VQ X.K Q) := w
    cases hk : isIn d e st with
    | none => rw [hk] at w; exact w.elim
    | some b =>
      rw [hk] at w
      have q : Q (.bl (!b)) H := w.ok S _ (.bl (!b))
      cases hdc : dctOf e st with
      | some tk =>
        obtain ⟨a, o', rfl, g, ho⟩ := isInD_ok S r1 r2 hdc hk
        cases ry
        exact d_notIn (by omega) I g rx fun s' I' => ⟨.bl (!b), H, I', by rw [ho]; rfl, q⟩
      | none =>
      obtain ⟨p, xs, e1, e2, e3, e4, e5⟩ := isIn_ok S r1 r2 hdc hk
      exact op_notIn_seq pins s σ H x y v u Q I rx ry ⟨p, xs, e1, e2, e3, e4, by rw [if_pos rfl, e5]; exact q⟩
  | Lt =>
    intro pins s σ H x y v u Q I rx ry h
    obtain ⟨μ, st, d, e, S, r1, r2, w⟩ := h
    cases r1 <;> cases r2 <;> first | exact w.elim | exact op_lt pins s σ H _ _ v u Q I rx ry ⟨_, _, rfl, rfl, WP.ok S w _ (.bl _)⟩
  | LtE =>
    intro pins s σ H x y v u Q I rx ry h
    obtain ⟨μ, st, d, e, S, r1, r2, w⟩ := h
    cases r1 <;> cases r2 <;> first | exact w.elim | exact op_le pins s σ H _ _ v u Q I rx ry ⟨_, _, rfl, rfl, WP.ok S w _ (.bl _)⟩
  | Gt =>
    intro pins s σ H x y v u Q I rx ry h
    obtain ⟨μ, st, d, e, S, r1, r2, w⟩ := h
    cases r1 with
    | int i =>
      cases r2 with
      | int j => exact op_gt pins s σ H _ _ v u Q I rx ry ⟨_, _, rfl, rfl, WP.ok S w _ (.bl _)⟩
      | _ => exact w.elim
    | @tup as a vs h1 t1 =>
      cases r2 with
      | @tup bs b us h2 t2 =>
        have w : WP X.K F μ H (R.ofB (gtT as bs) st) (VQ X.K Q) := w
        cases k1 : intsOf as with
        | none => unfold gtT at w; rw [k1] at w; exact w.elim
        | some is =>
          cases k2 : intsOf bs with
          | none => unfold gtT at w; rw [k1, k2] at w; exact w.elim
          | some js =>
            have kk : gtT as bs = some (gtI is js) := by unfold gtT; rw [k1, k2]
            rw [kk] at w
            have q : Q (.bl (gtI is js)) H := w.ok S _ (.bl _)
            have z1 := intsOf_ok t1 k1
            have z2 := intsOf_ok t2 k2
            subst z1 z2
            exact op_gtT (by omega) pins s σ H _ _ v u Q I rx ry ⟨a, b, is, js, rfl, rfl, .of h1, .of h2, q⟩
      | _ => exact w.elim
    | _ => cases r2 <;> exact w.elim
  | GtE =>
    intro pins s σ H x y v u Q I rx ry h
    obtain ⟨μ, st, d, e, S, r1, r2, w⟩ := h
    cases r1 <;> cases r2 <;> first | exact w.elim | exact op_ge pins s σ H _ _ v u Q I rx ry ⟨_, _, rfl, rfl, WP.ok S w _ (.bl _)⟩
end
end Nz
namespace Nz
open PySem L2 PyProof.Rows
section
variable {X : Cx} {F : Nm}
/-! ### subscripts -/
theorem getAt_ok {K : PySem.W.Frag} {μ : Mu} {H : Hp} {ds : List D} {vs : List V} {i : Int} {d : D} (r : Rps K μ H ds vs) (h : getAt ds i = some d) : ∃ v, atI vs i = some v ∧ Rp K μ H d v := by
  unfold getAt at h
  have e : place ds.length i = ixN vs.length i := by rw [r.length]; rfl
  rw [e] at h
  unfold atI
  cases hj : ixN vs.length i with
  | none => rw [hj] at h; cases h
  | some j =>
    rw [hj] at h
    exact r.get h
theorem index_ok (hu : X.A.units + 64 < cLine) : IxR X (rD X.K F index) := by
  intro value slice pins s σ H x y v u Q I rx ry h hs
  obtain ⟨μ, st, d, e, S, r1, r2, w⟩ := h
  unfold index at w
  cases hdc : dctOf d st with
  | some tk =>
    obtain ⟨t, kvs⟩ := tk
    obtain ⟨l, a, rfl, rfl, h1, h2, h3⟩ := dctOf_ok S r1 hdc
    rw [hdc] at w
    obtain ⟨hk, w⟩ := WP.grd w
    rcases dget_ok h3 r2 hk with ⟨e1, g⟩ | ⟨z, zv, e1, g, rz⟩
    · rw [e1] at w; exact w.elim
    · rw [e1] at w
      exact ix_dct hu value slice pins s σ H _ _ v u Q I rx ry ⟨a, zv, rfl, g, w.ok S _ rz⟩ hs
  | none =>
  rw [hdc] at w
  cases r2 with
  | int i =>
    have w : WP X.K F μ H (match seqW d st with
      | some ds => (match getAt ds i with
        | some d => .ok d st
        | none => .no)
      | none => .no) (VQ X.K Q) := w
    cases h1 : seqW d st with
    | none => rw [h1] at w; exact w.elim
    | some ds =>
      rw [h1] at w
      obtain ⟨a, vs, rfl, hq, rs⟩ := seqW_ok S r1 h1
      cases h2 : getAt ds i with
      | none => simp only [h2] at w; exact w.elim
      | some z =>
        simp only [h2] at w
        obtain ⟨zv, e1, rz⟩ := getAt_ok rs h2
        have q := w.ok S _ rz
        rcases hq with hq | hq
        · exact ix_list value slice pins s σ H _ _ v u Q I rx ry ⟨a, vs, i, zv, rfl, rfl, hq, e1, q⟩ hs
        · exact ix_tup value slice pins s σ H _ _ v u Q I rx ry ⟨a, vs, i, zv, rfl, rfl, hq, e1, q⟩ hs
  | _ => exact w.elim
theorem cut_ok {K : PySem.W.Frag} {μ : Mu} {H : Hp} {ds : List D} {vs : List V} (r : Rps K μ H ds vs) (lo hi : Option Int) : Rps K μ H (cut ds lo hi) (cutV vs lo hi) := by
  unfold cut cutV
  rw [r.length]
  exact (r.drop _).take _
def rSlD (K : PySem.W.Frag) (F : Nm) : V → Option Int → Option Int → Hp → VK → Prop := fun x lo hi H Q => ∃ μ st d, Sto K F μ st H ∧ Rp K μ H d x ∧ WP K F μ H (slice d lo hi st) (VQ K Q)
theorem slice_ok : SlR X (rSlD X.K F) := by
  intro pins s σ H x v vl vu lo hi sl Q I rx hs pl pu h
  obtain ⟨μ, st, d, S, r, w⟩ := h
  cases r with
  | @tup ds a vs h1 rs =>
    have w : WP X.K F μ H (.ok (.tup (cut ds lo hi)) st) (VQ X.K Q) := w
    refine sl_tupA pins s σ H _ v vl vu lo hi sl Q I rx hs pl pu ⟨a, vs, rfl, .of h1, fun hw => ?_, fun hw p hp => ?_⟩
    · have hw' : bnd ds.length 0 lo = 0 ∧ bnd ds.length ds.length hi = ds.length := by
        rw [rs.length]; exact hw
      have e : cut ds lo hi = ds := by
        unfold cut
        rw [hw'.1, hw'.2]; simp
      rw [e] at w
      exact w.ok S _ (.tup h1 rs)
    · have P := Post.fresh (u := .tup (cutV vs lo hi)) S hp
      exact w _ _ P _ (.tup upd_same ((cut_ok rs lo hi).post P))
  | @ref l a _ hl =>
    obtain ⟨ds, hd, w2⟩ : ∃ ds, (st[l]? = some (.lst ds) ∨ st[l]? = some (.frz ds)) ∧ WP X.K F μ H (newL (cut ds lo hi) st) (VQ X.K Q) := by
      simp only [slice] at w
      split at w
      · exact ⟨_, .inl (by assumption), w⟩
      · exact ⟨_, .inr (by assumption), w⟩
      · exact w.elim
    obtain ⟨vs, h1, rs⟩ := S.list hd hl
    exact sl_list pins s σ H _ v vl vu lo hi sl Q I rx hs pl pu ⟨a, vs, rfl, h1, (newL_ok S (cut_ok rs lo hi) w2).2⟩
  | @wt ds a vs h1 rs =>
    simp only [slice] at w
    refine sl_tupA pins s σ H _ v vl vu lo hi sl Q I rx hs pl pu ⟨a, vs, rfl, h1, fun hw => ?_, fun hw p hp => ?_⟩
    · have hw' : bnd ds.length 0 lo = 0 ∧ bnd ds.length ds.length hi = ds.length := by
        rw [rs.length]; exact hw
      rw [if_pos hw'] at w
      exact w.ok S _ (.wt h1 rs)
    · have hw' : ¬ (bnd ds.length 0 lo = 0 ∧ bnd ds.length ds.length hi = ds.length) := by
        rw [rs.length]; exact hw
      rw [if_neg hw'] at w
      have P := Post.fresh (u := .tup (cutV vs lo hi)) S hp
      exact w _ _ P _ (.tup upd_same ((cut_ok rs lo hi).post P))
  | _ => exact w.elim
/-! ### truth -/
theorem tru_ok' {K : PySem.W.Frag} {μ : Mu} {H : Hp} {st : Store} {d : D} {v : V} {b : Bool} (S : Sto K F μ st H) (r : Rp K μ H d v) (h : tru d st = some b) : TruV K v H b := by
  cases r with
  | non => simp only [tru, Option.some.injEq] at h; exact h.symm
  | bl b' => simp only [tru, Option.some.injEq] at h; exact h.symm
  | int i => simp only [tru, Option.some.injEq] at h; exact h.symm
  | str s => cases h
  | @tup ds a vs h1 rs =>
    simp only [tru, Option.some.injEq] at h
    exact .inr (.inl ⟨vs, .of h1, by rw [← h, rs.empty]⟩)
  | @wt ds a vs h1 rs =>
    simp only [tru, Option.some.injEq] at h
    exact .inr (.inl ⟨vs, h1, by rw [← h, rs.empty]⟩)
  | @ref l a _ hl =>
    obtain ⟨ds, hd, e⟩ : ∃ ds, (st[l]? = some (.lst ds) ∨ st[l]? = some (.frz ds)) ∧ (!ds.isEmpty) = b := by
      simp only [tru] at h
      split at h
      · exact ⟨_, .inl (by assumption), Option.some.inj h⟩
      · exact ⟨_, .inr (by assumption), Option.some.inj h⟩
      · cases h
    obtain ⟨vs, h1, rs⟩ := S.list hd hl
    exact .inl ⟨vs, h1, by rw [← e, rs.empty]⟩
/-! ### built-in functions -/
def rB (K : PySem.W.Frag) (F : Nm) (f : List D → Store → R D) : List V → Hp → VK → Prop := fun xs H Q => ∃ μ st ds, Sto K F μ st H ∧ Rps K μ H ds xs ∧ WP K F μ H (f ds st) (VQ K Q)
theorem b1_ok {K : PySem.W.Frag} {μ : Mu} {H : Hp} {st : Store} {f : D → Store → R D} {ds : List D} {vs : List V} {Q : VK} (r : Rps K μ H ds vs) (w : WP K F μ H (b1 f ds st) (VQ K Q)) : ∃ d v, vs = [v] ∧ Rp K μ H d v ∧ WP K F μ H (f d st) (VQ K Q) := by
  cases r with
  | nil => exact w.elim
  | cons h t =>
    cases t with
    | nil => exact ⟨_, _, rfl, h, w⟩
    | cons _ _ => exact w.elim
theorem len_ok : CallR X (.builtin "len") (rB X.K F (b1 biLen)) := by
  intro pins s σ H xs us Q I r h
  obtain ⟨μ, st, ds, S, rs, w⟩ := h
  obtain ⟨d, v, rfl, rd, w⟩ := b1_ok rs w
  unfold biLen at w
  cases h1 : seqW d st with
  | none => rw [h1] at w; exact w.elim
  | some es =>
    rw [h1] at w
    obtain ⟨a, vs, rfl, hq, re⟩ := seqW_ok S rd h1
    have q := w.ok S _ (.int _)
    rw [re.length] at q
    rcases hq with hq | hq
    · exact call_len pins s σ H _ us Q I r ⟨_, vs.length, rfl, .inl ⟨vs, hq, rfl⟩, q⟩
    · exact call_len pins s σ H _ us Q I r ⟨_, vs.length, rfl, .inr ⟨vs, hq, rfl⟩, q⟩
theorem abs_ok : CallR X (.builtin "abs") (rB X.K F (b1 biAbs)) := by
  intro pins s σ H xs us Q I r h
  obtain ⟨μ, st, ds, S, rs, w⟩ := h
  obtain ⟨d, v, rfl, rd, w⟩ := b1_ok rs w
  cases rd <;> first
    | exact w.elim
    | exact call_abs pins s σ H _ us Q I r ⟨_, rfl, w.ok S _ (.int _)⟩
theorem int_ok : CallR X (.type "int") (rB X.K F (b1 biInt)) := by
  intro pins s σ H xs us Q I r h
  obtain ⟨μ, st, ds, S, rs, w⟩ := h
  obtain ⟨d, v, rfl, rd, w⟩ := b1_ok rs w
  cases rd with
  | int i => exact call_int1 pins s σ H _ us Q I r (.inl ⟨_, rfl, w.ok S _ (.int _)⟩)
  | bl b => exact call_int1 pins s σ H _ us Q I r (.inr ⟨_, rfl, w.ok S _ (.int _)⟩)
  | _ => exact w.elim
theorem RpD.keys {K : PySem.W.Frag} {μ : Mu} {H : Hp} : ∀ {kvs : List (D × D)} {kv : List (L2.Key × V)}, RpD keyD K μ H kvs kv → Rps K μ H (kvs.map (·.1)) (kv.map fun p => L2.kV p.1)
  | _, _, .nil => .nil
  | _, _, .cons (a := a) (b := b) h t => by
    refine .cons ?_ (RpD.keys t)
    show Rp K μ H a.1 (L2.kV b.1)
    rw [h.1]
    cases b.1 with
    | inl i => exact .int i
    | inr x => exact .str x
theorem mkd_ok : CallR X (.type "dict") (rB X.K F (b1 biMkd)) := by
  intro pins s σ H xs us Q I r h
  obtain ⟨μ, st, ds, S, rs, w⟩ := h
  obtain ⟨d, v, rfl, rd, w⟩ := b1_ok rs w
  unfold biMkd at w
  split at w
  · rename_i kvs hd
    obtain ⟨l, a, rfl, rfl, hl, hs, kv, h, q⟩ := dctOf_ok S rd hd
    refine call_dictD pins s σ H _ us Q I r ⟨a, kv, rfl, .of h, fun p hp => ?_⟩
    have kt : ∀ b xs, H b = some (.tup xs) → upd H p (.dK kv) b = some (.tup xs) := fun b xs e => by
      rw [upd_ne (fun z => by subst z; rw [hp] at e; cases e)]; exact e
    have kf : ∀ b o w, H b = some (.frz o w) → upd H p (.dK kv) b = some (.frz o w) := fun b o w e => by
      rw [upd_ne (fun z => by subst z; rw [hp] at e; cases e)]; exact e
    have P := Post.push (u := .dK kv) (o := .dct false kvs) S hp ⟨kv, upd_same, q.mono (List.prefix_append _ _) kt kf⟩
    exact w _ _ P _ (.ref (b := false) (by rw [← S.len]; simp))
  · exact w.elim
theorem mkl_ok (hc : X.calm = true) : CallR X (.type "list") (rB X.K F (b1 biMkl)) := by
  intro pins s σ H xs us Q I r h
  obtain ⟨μ, st, ds, S, rs, w⟩ := h
  obtain ⟨d, v, rfl, rd, w⟩ := b1_ok rs w
  unfold biMkl at w
  cases h1 : seqOf d st with
  | none =>
    rw [h1] at w
    simp only at w
    split at w
    · rename_i kvs hd
      obtain ⟨l, a, rfl, rfl, hl, hs, kv, h, q⟩ := dctOf_ok S rd hd
      exact call_list_dK hc pins s σ H _ us Q I r ⟨a, kv, rfl, h, (newL_ok S q.keys w).2⟩
    · exact w.elim
  | some es =>
    rw [h1] at w
    obtain ⟨a, vs, rfl, hq, re⟩ := seqOf_ok S rd h1
    exact call_list_of pins s σ H _ us Q I r ⟨a, vs, rfl, hq, (newL_ok S re w).2⟩
theorem mkt_ok : CallR X (.type "tuple") (rB X.K F (b1 biMkt)) := by
  intro pins s σ H xs us Q I r h
  obtain ⟨μ, st, ds, S, rs, w⟩ := h
  obtain ⟨d, v, rfl, rd, w⟩ := b1_ok rs w
  cases rd with
  | @wt es a vs hq re => exact call_tuple_of pins s σ H _ us Q I r ⟨a, vs, rfl, .inr ⟨hq, WP.ok S (show WP X.K F μ H (.ok (.wt es) st) (VQ X.K Q) from w) _ (.wt hq re)⟩⟩
  | @tup es a vs hq re =>
    have w : WP X.K F μ H (newT es st) (VQ X.K Q) := w
    exact call_tuple_of pins s σ H _ us Q I r ⟨a, vs, rfl, .inr ⟨.of hq, (w.grd.2).ok S _ (.tup hq re)⟩⟩
  | @ref l a b hl =>
    have w : WP X.K F μ H (match seqOf (.ref l) st with
      | some ds => newT ds st
      | none => .no) (VQ X.K Q) := w
    cases h1 : seqOf (.ref l) st with
    | none => rw [h1] at w; exact w.elim
    | some es =>
      rw [h1] at w
      have hd : st[l]? = some (.lst es) ∨ st[l]? = some (.frz es) := by
        simp only [seqOf] at h1
        split at h1
        · cases h1; exact .inl (by assumption)
        · cases h1; exact .inr (by assumption)
        · cases h1
      obtain ⟨vs, hq, re⟩ := S.list hd hl
      exact call_tuple_of pins s σ H _ us Q I r ⟨a, vs, rfl, .inl ⟨hq, (newT_ok S re w).2⟩⟩
  | _ => exact w.elim
theorem boolsOf_ok {K : PySem.W.Frag} {μ : Mu} {H : Hp} : ∀ {ds : List D} {vs : List V} {ns : List Bool}, Rps K μ H ds vs → boolsOf ds = some ns → vs = ns.map V.bl
  | _, _, _, .nil, e => by simp only [boolsOf, Option.some.injEq] at e; subst e; rfl
  | d :: ds, _, _, .cons h t, e => by
    cases h <;> simp only [boolsOf, reduceCtorEq] at e
    rename_i i
    cases q : boolsOf ds with
    | none => rw [q] at e; cases e
    | some is =>
      rw [q] at e
      simp only [Option.some.injEq] at e
      subst e
      rw [boolsOf_ok t q]; rfl
theorem lstOf_ok {K : PySem.W.Frag} {μ : Mu} {H : Hp} {st : Store} {x : D} {v : V} {ds : List D} (S : Sto K F μ st H) (r : Rp K μ H x v) (h : lstOf x st = some ds) : ∃ a vs, v = .ref a ∧ SqL K H a vs ∧ Rps K μ H ds vs := by
  cases r with
  | @ref l a _ h1 =>
    obtain hd : st[l]? = some (.lst ds) ∨ st[l]? = some (.frz ds) := by
      simp only [lstOf] at h
      split at h
      · cases h; exact .inl (by assumption)
      · cases h; exact .inr (by assumption)
      · cases h
    obtain ⟨vs, h2, rs⟩ := S.list hd h1
    exact ⟨_, _, rfl, h2, rs⟩
  | _ => cases h
theorem sum_ok (hc : X.calm = true) : CallR X (.builtin "sum") (rB X.K F (b1 biSum)) := by
  intro pins s σ H xs us Q I r h
  obtain ⟨μ, st, ds, S, rs, w⟩ := h
  obtain ⟨d, v, rfl, rd, w⟩ := b1_ok rs w
  unfold biSum at w
  cases h1 : lstOf d st with
  | none => rw [h1] at w; exact w.elim
  | some es =>
    rw [h1] at w
    obtain ⟨a, vs, rfl, hq, re⟩ := lstOf_ok S rd h1
    cases h2 : intsOf es with
    | none => simp only [h2] at w; exact w.elim
    | some ns =>
      simp only [h2] at w
      have e := intsOf_ok re h2
      subst e
      exact cr_sum hc pins s σ H _ us Q I r ⟨a, ns, rfl, hq, w.ok S _ (.int _)⟩
theorem max1_ok (hc : X.calm = true) : CallR X (.builtin "max") (rB X.K F (b1 biMax1)) := by
  intro pins s σ H xs us Q I r h
  obtain ⟨μ, st, ds, S, rs, w⟩ := h
  obtain ⟨d, v, rfl, rd, w⟩ := b1_ok rs w
  unfold biMax1 at w
  cases h1 : lstOf d st with
  | none => rw [h1] at w; exact w.elim
  | some es =>
    rw [h1] at w
    obtain ⟨a, vs, rfl, hq, re⟩ := lstOf_ok S rd h1
    cases h2 : intsOf es with
    | none => simp only [h2] at w; exact w.elim
    | some ns =>
      simp only [h2] at w
      cases h3 : ns.max? with
      | none => simp only [h3] at w; exact w.elim
      | some k =>
        simp only [h3] at w
        have e := intsOf_ok re h2
        subst e
        obtain ⟨k1, k2⟩ := List.max?_eq_some_iff.mp h3
        refine cr_max hc pins s σ H _ us Q I r ⟨a, ns, rfl, hq, List.length_pos_of_mem k1, fun m m1 m2 => ?_⟩
        have : m = k := Int.le_antisymm (k2 m m1) (m2 k k1)
        subst this
        exact w.ok S _ (.int _)
theorem minOf_fold : ∀ (xs : List Int) (x : Int), PySem.W.minOf x xs = xs.foldl min x
  | [], _ => rfl
  | y :: ys, x => by
    have e : (if PySem.W.DatumOrd.lt y x = true then y else x) = min x y := by
      show (if decide (y < x) = true then y else x) = min x y
      by_cases h : y < x
      · rw [if_pos (decide_eq_true h)]; omega
      · rw [if_neg (by simpa using h)]; omega
    have := minOf_fold ys (min x y)
    unfold PySem.W.minOf at this ⊢
    rw [List.foldl_cons, List.foldl_cons, e, this]
theorem min1_ok (hu : X.A.units + 64 < cLine) (hc : X.calm = true) : CallR X (.builtin "min") (rB X.K F (b1 biMin1)) := by
  intro pins s σ H xs us Q I r h
  obtain ⟨μ, st, ds, S, rs, w⟩ := h
  obtain ⟨d, v, rfl, rd, w⟩ := b1_ok rs w
  unfold biMin1 at w
  cases h1 : tlOf d st with
  | none => rw [h1] at w; exact w.elim
  | some es =>
    rw [h1] at w
    cases h2 : intsOf es with
    | none => simp only [h2] at w; exact w.elim
    | some ns =>
      simp only [h2] at w
      cases h3 : ns.min? with
      | none => simp only [h3] at w; exact w.elim
      | some k =>
        simp only [h3] at w
        by_cases ht : ∃ ts, d = .tup ts
        · obtain ⟨ts, rfl⟩ := ht
          have e0 : ts = es := by unfold tlOf at h1; exact Option.some.inj h1
          subst e0
          cases rd with
          | @tup _ a vs g1 g2 =>
            have e := intsOf_ok g2 h2
            subst e
            obtain ⟨its, r1, p1, _⟩ := I.tuple (.of g1)
            have i1 : IntsAre its ns := Vals.ints r1
            rw [Vals.ref1 r]
            cases ns with
            | nil => cases h3
            | cons x xs =>
              rw [List.min?_cons', Option.some.injEq] at h3
              refine PySem.W.min_tuple_datum (α := Int) (x := x) (xs := xs) (I.ok.hd hc) p1 (PySem.W.HoldAll.of_ints i1) ?_ fun i v h' tk hi Hv hk => ?_
              · have : PySem.W.Datum.depth Int ≤ 1 := by decide
                omega
              · rw [minOf_fold] at Hv
                have hv := PySem.W.HoldAll.toInts (PySem.W.HoldAll.cons Hv PySem.W.HoldAll.nil)
                cases hv with
                | cons n t _ =>
                  refine ⟨.int _, H, I.kept hk, ⟨_, rfl⟩, ?_⟩
                  have e9 : xs.foldl min x = k := h3
                  rw [e9]
                  exact w.ok S _ (.int _)
        · have h1 : lstOf d st = some es := by
            cases d <;> first | exact h1 | exact absurd ⟨_, rfl⟩ ht
          obtain ⟨a, vs, rfl, hq, re⟩ := lstOf_ok S rd h1
          have e := intsOf_ok re h2
          subst e
          obtain ⟨k1, k2⟩ := List.min?_eq_some_iff.mp h3
          refine cr_min hc pins s σ H _ us Q I r ⟨a, ns, rfl, hq, List.length_pos_of_mem k1, fun m m1 m2 => ?_⟩
          have : m = k := Int.le_antisymm (m2 k k1) (k2 m m1)
          subst this
          exact w.ok S _ (.int _)
theorem sortI_perm {is : List Int} : (sortI is).Perm is := List.mergeSort_perm ..
theorem sortI_sorted {is : List Int} : (sortI is).Pairwise (· ≤ ·) := by
  have := List.pairwise_mergeSort (le := fun a b : Int => decide (a ≤ b)) (by intro a b c; simp; omega) (by intro a b; simp; omega) is
  exact this.imp (by intro a b h; simpa using h)
theorem leP_anti {a b : Int × Int} (h1 : leP a b = true) (h2 : leP b a = true) : a = b := by
  unfold leP at h1 h2
  have h1 := of_decide_eq_true h1
  have h2 := of_decide_eq_true h2
  obtain ⟨a1, a2⟩ := a
  obtain ⟨b1, b2⟩ := b
  simp only at h1 h2
  have e1 : a1 = b1 := by omega
  have e2 : a2 = b2 := by omega
  rw [e1, e2]
theorem sortP_perm {ps : List (Int × Int)} : (sortP ps).Perm ps := List.mergeSort_perm ..
theorem sortP_sorted {ps : List (Int × Int)} : (sortP ps).Pairwise fun a b => leP a b = true := by
  refine List.pairwise_mergeSort (le := leP) (fun a b c h1 h2 => ?_) (fun a b => ?_) ps
  · unfold leP at *
    have h1 := of_decide_eq_true h1
    have h2 := of_decide_eq_true h2
    exact decide_eq_true (by omega)
  · unfold leP
    rw [Bool.or_eq_true, decide_eq_true_eq, decide_eq_true_eq]
    omega
/-- the ints of a pair -/
def keyP (H : Hp) (v : V) : Int × Int := match v with
  | .ref t => (match H t with
    | some (.tup [.int a, .int b]) => (a, b)
    | _ => (0, 0))
  | _ => (0, 0)
theorem prsOf_ok {K : PySem.W.Frag} {μ : Mu} {H : Hp} : ∀ {ds : List D} {vs : List V} {ps : List (Int × Int)}, Rps K μ H ds vs → prsOf ds = some ps → (∀ v ∈ vs, ∃ t, v = V.ref t ∧ H t = some (.tup [.int (keyP H v).1, .int (keyP H v).2])) ∧ vs.map (keyP H) = ps
  | _, _, _, .nil, e => by simp only [prsOf, Option.some.injEq] at e; subst e; exact ⟨fun _ h => by simp at h, rfl⟩
  | _, _, ps, .cons (d := d) (v := v) (ds := ds) (vs := vs) h t, e => by
    unfold prsOf at e
    split at e
    · cases e_ : ds <;> simp_all
    · rename_i a b ds' hd
      cases hd
      split at e
      · rename_i qs hqs
        cases e
        obtain ⟨i1, i2⟩ := prsOf_ok t hqs
        cases h with
        | @tup _ t0 _ h1 r1 =>
          cases r1 with
          | cons x1 r2 =>
            cases r2 with
            | cons x2 r3 =>
              cases r3
              cases x1
              cases x2
              have kk : keyP H (.ref t0) = (a, b) := by unfold keyP; simp only [h1]
              refine ⟨fun u hu => ?_, by rw [List.map_cons, i2, kk]⟩
              rcases List.mem_cons.mp hu with rfl | hu
              · exact ⟨_, rfl, by rw [kk]; exact h1⟩
              · exact i1 u hu
      · cases e
    · cases e
/-- the ints of a triple -/
def keyT (H : Hp) (v : V) : T3 := match v with
  | .ref t => (match H t with
    | some (.tup [.int a, .int b, .int c]) => (a, b, c)
    | _ => (0, 0, 0))
  | _ => (0, 0, 0)
theorem sortT3_perm {ps : List T3} : (sortT3 ps).Perm ps := List.mergeSort_perm ..
theorem sortT3_sorted {ps : List T3} : (sortT3 ps).Pairwise fun a b => code3 a ≤ code3 b := by
  have := List.pairwise_mergeSort (le := fun a b : T3 => decide (code3 a ≤ code3 b)) (by intro a b c; simp; omega) (by intro a b; simp; omega) ps
  exact this.imp (by intro a b h; simpa using h)
theorem trsOf_ok {K : PySem.W.Frag} {μ : Mu} {H : Hp} : ∀ {ds : List D} {vs : List V} {ps : List T3}, Rps K μ H ds vs → trsOf ds = some ps →
    (∀ v ∈ vs, ∃ t, v = V.ref t ∧ H t = some (.tup [.int (keyT H v).1, .int (keyT H v).2.1, .int (keyT H v).2.2]) ∧ (0 ≤ (keyT H v).1 ∧ (keyT H v).1 < 1048576) ∧ (0 ≤ (keyT H v).2.1 ∧ (keyT H v).2.1 < 1048576) ∧ (0 ≤ (keyT H v).2.2 ∧ (keyT H v).2.2 < 1048576)) ∧ vs.map (keyT H) = ps ∧ True
  | _, _, _, .nil, e => by simp only [trsOf, Option.some.injEq] at e; subst e; exact ⟨fun _ h => by simp at h, rfl, trivial⟩
  | _, _, ps, .cons (d := d) (v := v) (ds := ds) (vs := vs) h t, e => by
    unfold trsOf at e
    split at e
    · cases e_ : ds <;> simp_all
    · rename_i a b c ds' hd
      cases hd
      split at e
      · rename_i qs hqs
        split at e
        · rename_i hsm
          cases e
          simp only [Bool.and_eq_true, sm3, decide_eq_true_eq] at hsm
          obtain ⟨i1, i2, _⟩ := trsOf_ok t hqs
          cases h with
          | @tup _ t0 _ h1 r1 =>
            cases r1 with
            | cons x1 r2 =>
              cases r2 with
              | cons x2 r3 =>
                cases r3 with
                | cons x3 r4 =>
                  cases r4
                  cases x1
                  cases x2
                  cases x3
                  have kk : keyT H (.ref t0) = (a, b, c) := by unfold keyT; simp only [h1]
                  refine ⟨fun u hu => ?_, by rw [List.map_cons, i2, kk], trivial⟩
                  rcases List.mem_cons.mp hu with rfl | hu
                  · exact ⟨_, rfl, by rw [kk]; exact h1, by rw [kk]; exact hsm⟩
                  · exact i1 u hu
        · cases e
      · cases e
    · cases e
theorem sorted_ok : CallR X (.builtin "sorted") (rB X.K F (b1 biSorted)) := by
  intro pins s σ H xs us Q I r h
  obtain ⟨μ, st, ds, S, rs, w⟩ := h
  obtain ⟨d, v, rfl, rd, w⟩ := b1_ok rs w
  unfold biSorted at w
  cases h1 : lstOf d st with
  | none => rw [h1] at w; exact w.elim
  | some es =>
    rw [h1] at w
    obtain ⟨a, vs, rfl, hq, re⟩ := lstOf_ok S rd h1
    cases h2 : intsOf es with
    | none =>
      simp only [h2] at w
      cases h3 : prsOf es with
      | none =>
        simp only [h3] at w
        cases h4 : trsOf es with
        | none => simp only [h4] at w; exact w.elim
        | some ps =>
          simp only [h4] at w
          obtain ⟨h64, w⟩ := w.grd
          have h64 := of_decide_eq_true h64
          obtain ⟨k1, k2, k3⟩ := trsOf_ok re h4
          refine cr_sortT (d := 3) (B := 1048576) (by decide) pins s σ H _ us Q I r ⟨a, vs, rfl, hq, by rw [← List.length_map (f := keyT H), k2]; exact h64, fun x hx => ?_, fun ys p h5 h6 hp => ?_⟩
          · obtain ⟨t, e1, e2, e3, e4, e5⟩ := k1 x hx
            exact ⟨[(keyT H x).1, (keyT H x).2.1, (keyT H x).2.2], ⟨t, e1, .of e2⟩, rfl, fun m hm => by
              simp only [List.mem_cons, List.not_mem_nil, or_false] at hm
              rcases hm with rfl | rfl | rfl
              · exact e3
              · exact e4
              · exact e5⟩
          have k4 : ∀ y ∈ ys, y ∈ vs := fun y hy => h5.mem_iff.mp hy
          have cd : ∀ y, TS.code 1048576 [(keyT H y).1, (keyT H y).2.1, (keyT H y).2.2] = code3 (keyT H y) := fun y => by
            show (keyT H y).1 * 1048576 ^ 2 + ((keyT H y).2.1 * 1048576 ^ 1 + ((keyT H y).2.2 * 1048576 ^ 0 + 0)) = _
            unfold code3
            have p2 : (1048576 : Int) ^ 2 = 1099511627776 := by decide
            have p1 : (1048576 : Int) ^ 1 = 1048576 := by decide
            have p0 : (1048576 : Int) ^ 0 = 1 := by decide
            rw [p2, p1, p0]; omega
          have bd : ∀ q ∈ ps, (0 ≤ q.1 ∧ q.1 < 1048576) ∧ (0 ≤ q.2.1 ∧ q.2.1 < 1048576) ∧ (0 ≤ q.2.2 ∧ q.2.2 < 1048576) := fun q hq => by
            rw [← k2] at hq
            obtain ⟨x, hx, rfl⟩ := List.mem_map.mp hq
            obtain ⟨t, e1, e2, e3, e4, e5⟩ := k1 x hx
            exact ⟨e3, e4, e5⟩
          have e : ys.map (keyT H) = sortT3 ps := by
            have q1 : (ys.map (keyT H)).Perm ps := by rw [← k2]; exact h5.map _
            have q2 : (ys.map (keyT H)).Pairwise fun a b => code3 a ≤ code3 b := by
              refine List.pairwise_map.mpr (h6.imp_of_mem fun {x y} hx hy hxy => ?_)
              obtain ⟨t, e1, e2, _⟩ := k1 x (k4 x hx)
              obtain ⟨t', e1', e2', _⟩ := k1 y (k4 y hy)
              have := hxy [(keyT H x).1, (keyT H x).2.1, (keyT H x).2.2] [(keyT H y).1, (keyT H y).2.1, (keyT H y).2.2] ⟨t, e1, .of e2⟩ ⟨t', e1', .of e2'⟩
              rw [cd, cd] at this
              exact this
            refine (q1.trans sortT3_perm.symm).eq_of_pairwise (fun a b ha hb h1 h2 => ?_) q2 sortT3_sorted
            have ba := bd a (q1.mem_iff.mp ha)
            have bb := bd b (sortT3_perm.mem_iff.mp hb)
            obtain ⟨a1, a2, a3⟩ := a
            obtain ⟨b1, b2, b3⟩ := b
            simp only at ba bb
            unfold code3 at h1 h2
            simp only at h1 h2
            have g1 : a1 = b1 := by omega
            subst g1
            have g2 : a2 = b2 := by omega
            subst g2
            have g3 : a3 = b3 := by omega
            rw [g3]
          have rr : Rps X.K μ H ((sortT3 ps).map td3) ys := by
            rw [← e]
            have k5 := k4
            clear h5 h6 e k4
            induction ys with
            | nil => exact .nil
            | cons y ys ih =>
              obtain ⟨t, e1, e2, _⟩ := k1 y (k5 y (List.mem_cons_self ..))
              refine .cons ?_ (ih fun z hz => k5 z (List.mem_cons_of_mem _ hz))
              obtain ⟨q, hq⟩ : ∃ q, q = keyT H y := ⟨_, rfl⟩
              rw [← hq] at e2 ⊢
              subst e1
              exact .tup e2 (.cons (.int _) (.cons (.int _) (.cons (.int _) .nil)))
          exact (newL_ok S rr w).2 p hp
      | some ps =>
        simp only [h3] at w
        obtain ⟨k1, k2⟩ := prsOf_ok re h3
        refine cr_sortedPO pins s σ H _ us Q I r ⟨a, vs, keyP H, rfl, hq, k1, fun ys p h4 h5 hp => ?_⟩
        have k3 : ∀ y ∈ ys, ∃ t, y = V.ref t ∧ H t = some (.tup [.int (keyP H y).1, .int (keyP H y).2]) := fun y hy => k1 y (h5.perm.mem_iff.mp hy)
        have e : ys.map (keyP H) = sortP ps := by
          have q1 : (ys.map (keyP H)).Perm ps := by rw [← k2]; exact h5.perm.map _
          have q2 : (ys.map (keyP H)).Pairwise fun a b => leP a b = true := by
            refine List.pairwise_map.mpr (h4.imp fun {x y} hxy => ?_)
            have := SrtO.lexB_no.mp hxy
            unfold leP
            refine decide_eq_true ?_
            omega
          exact (q1.trans sortP_perm.symm).eq_of_pairwise (fun a b _ _ h1 h2 => leP_anti h1 h2) q2 sortP_sorted
        have rr : Rps X.K μ H ((sortP ps).map pd2) ys := by
          rw [← e]
          clear h4 h5 e
          induction ys with
          | nil => exact .nil
          | cons y ys ih =>
            obtain ⟨t, e1, e2⟩ := k3 y (List.mem_cons_self ..)
            refine .cons ?_ (ih fun z hz => k3 z (List.mem_cons_of_mem _ hz))
            obtain ⟨q, hq⟩ : ∃ q, q = keyP H y := ⟨_, rfl⟩
            rw [← hq] at e2 ⊢
            subst e1
            exact .tup e2 (.cons (.int _) (.cons (.int _) .nil))
        exact (newL_ok S rr w).2 p hp
    | some ns =>
      simp only [h2] at w
      have e := intsOf_ok re h2
      subst e
      refine cr_sortedI pins s σ H _ us Q I r ⟨a, ns, rfl, hq, fun ns' p h1 h2 hp => ?_⟩
      have e : ns' = sortI ns := (h1.trans sortI_perm.symm).eq_of_pairwise (fun a b _ _ h1 h2 => Int.le_antisymm h1 h2) h2 sortI_sorted
      subst e
      have rr : Rps X.K μ H ((sortI ns).map .int) ((sortI ns).map V.int) := by
        generalize sortI ns = l
        induction l with
        | nil => exact .nil
        | cons i l ih => exact .cons (.int _) ih
      exact (newL_ok S rr w).2 p hp
theorem all_ok (hc : X.calm = true) : CallR X (.builtin "all") (rB X.K F (b1 biAll)) := by
  intro pins s σ H xs us Q I r h
  obtain ⟨μ, st, ds, S, rs, w⟩ := h
  obtain ⟨d, v, rfl, rd, w⟩ := b1_ok rs w
  unfold biAll at w
  cases h1 : lstOf d st with
  | none => rw [h1] at w; exact w.elim
  | some es =>
    rw [h1] at w
    obtain ⟨a, vs, rfl, hq, re⟩ := lstOf_ok S rd h1
    cases h2 : boolsOf es with
    | none => simp only [h2] at w; exact w.elim
    | some ns =>
      simp only [h2] at w
      have e := boolsOf_ok re h2
      subst e
      exact cr_all hc pins s σ H _ us Q I r ⟨a, ns, rfl, hq, w.ok S _ (.bl _)⟩
theorem any_ok (hc : X.calm = true) : CallR X (.builtin "any") (rB X.K F (b1 biAny)) := by
  intro pins s σ H xs us Q I r h
  obtain ⟨μ, st, ds, S, rs, w⟩ := h
  obtain ⟨d, v, rfl, rd, w⟩ := b1_ok rs w
  unfold biAny at w
  cases h1 : lstOf d st with
  | none => rw [h1] at w; exact w.elim
  | some es =>
    rw [h1] at w
    obtain ⟨a, vs, rfl, hq, re⟩ := lstOf_ok S rd h1
    cases h2 : boolsOf es with
    | none => simp only [h2] at w; exact w.elim
    | some ns =>
      simp only [h2] at w
      have e := boolsOf_ok re h2
      subst e
      exact cr_any hc pins s σ H _ us Q I r ⟨a, ns, rfl, hq, w.ok S _ (.bl _)⟩
theorem bi2_ok {K : PySem.W.Frag} {μ : Mu} {H : Hp} {st : Store} {f : Int → Int → Int} {ds : List D} {vs : List V} {Q : VK} (S : Sto K F μ st H) (r : Rps K μ H ds vs) (w : WP K F μ H (bi2 f ds st) (VQ K Q)) : ∃ i j, vs = [.int i, .int j] ∧ Q (.int (f i j)) H := by
  obtain ⟨i, j, rfl, w2⟩ : ∃ i j, ds = [.int i, .int j] ∧ WP K F μ H (.ok (.int (f i j)) st) (VQ K Q) := by
    unfold bi2 at w
    split at w
    · exact ⟨_, _, rfl, w⟩
    · exact w.elim
  cases r with
  | cons h t =>
    cases t with
    | cons h' t' =>
      cases t'
      cases h
      cases h'
      exact ⟨i, j, rfl, w2.ok S _ (.int _)⟩
theorem max2_ok (hc : X.calm = true) : CallR X (.builtin "max") (rB X.K F (bi2 fun i j => if j > i then j else i)) := by
  intro pins s σ H xs us Q I r h
  obtain ⟨μ, st, ds, S, rs, w⟩ := h
  obtain ⟨i, j, rfl, q⟩ := bi2_ok S rs w
  exact call_max2 hc pins s σ H _ us Q I r ⟨i, j, rfl, q⟩
theorem min2_ok (hc : X.calm = true) : CallR X (.builtin "min") (rB X.K F (bi2 fun i j => if j < i then j else i)) := by
  intro pins s σ H xs us Q I r h
  obtain ⟨μ, st, ds, S, rs, w⟩ := h
  obtain ⟨i, j, rfl, q⟩ := bi2_ok S rs w
  exact call_min2 hc pins s σ H _ us Q I r ⟨i, j, rfl, q⟩
end
/-! ### isinstance -/
/-- what is asked of the classes -/
structure Kit (K : PySem.W.Frag) (F : Nm) : Prop where
  cl : ∀ (c : Nat) (C : Addr), F.cls c = some C → Cls K C
  ha : ∀ (c : Nat) (C : Addr), F.cls c = some C → PySem.W.findIn K (.ref C) "__class__" = some (some (.builtin "object.__class__")) ∧ PySem.W.specialIn K (.builtin "object.__class__") "__get__" = some (some (.builtin "getset_descriptor.__get__")) ∧
    PySem.W.takesIn K (.builtin "object.__class__") = some true ∧ PySem.W.mroIn K C (.type "object") = some true
  tc : ∀ (c : Nat) (C : Addr) (n : String), F.cls c = some C → n ∈ ["NoneType", "bool", "int", "str", "list", "tuple"] → PySem.W.kitOne K (.type n) (.ref C) = some false
  ct : ∀ (c : Nat) (C : Addr) (n : String), F.cls c = some C → n ∈ ["bool", "int", "str", "list", "tuple"] → PySem.W.kitOne K (.ref C) (.type n) = some false
  cc : ∀ (c d : Nat) (C E : Addr), F.cls c = some C → F.cls d = some E → PySem.W.kitOne K (.ref C) (.ref E) = some (c == d)
def tyVal (F : Nm) : Ty → Option Value
  | .int => some (.type "int")
  | .bool => some (.type "bool")
  | .str => some (.type "str")
  | .tuple => some (.type "tuple")
  | .list => some (.type "list")
  | .cls c => (F.cls c).map .ref
def tyV : Value → V
  | .type n => .ty n
  | .ref a => .ref a
  | _ => .non
theorem tyVal_cls {F : Nm} {k : Ty} {u : Value} (h : tyVal F k = some u) : ClsV (tyV u) u := by
  cases k <;> simp only [tyVal, Option.some.injEq] at h <;> first
    | (subst h; exact .ty _)
    | (rename_i c
       cases e : F.cls c with
       | none => rw [e] at h; cases h
       | some C =>
         rw [e] at h
         simp only [Option.map_some, Option.some.injEq] at h
         subst h
         exact .own C)
section
variable {K : PySem.W.Frag} {F : Nm} {μ : Mu} {H : Hp} {st : Store}
theorem isTy_ok (Z : Kit K F) (S : Sto K F μ st H) {x : D} {v : V} (r : Rp K μ H x v) : ∃ t, ∀ {k : Ty} {b : Bool} {u : Value}, isTy k x st = some b → tyVal F k = some u → TyX K H v t ∧ PySem.W.kitOne K t u = some b := by
  cases r with
  | non => exact ⟨.type "NoneType", fun {k b u} h1 h2 => ⟨.base .non, by
      cases k <;> simp only [isTy, Option.some.injEq, tyVal] at h1 h2 <;> subst h1 <;> first
        | (subst h2; exact kit_ty (by decide +kernel))
        | (rename_i c
           cases e : F.cls c with
           | none => rw [e] at h2; cases h2
           | some C => rw [e] at h2; simp only [Option.map_some, Option.some.injEq] at h2; subst h2; exact Z.tc c C _ e (by simp))⟩⟩
  | bl b => exact ⟨.type "bool", fun {k b u} h1 h2 => ⟨.base (.bl _), by
      cases k <;> simp only [isTy, Option.some.injEq, tyVal] at h1 h2 <;> subst h1 <;> first
        | (subst h2; exact kit_ty (by decide +kernel))
        | (rename_i c
           cases e : F.cls c with
           | none => rw [e] at h2; cases h2
           | some C => rw [e] at h2; simp only [Option.map_some, Option.some.injEq] at h2; subst h2; exact Z.tc c C _ e (by simp))⟩⟩
  | int b => exact ⟨.type "int", fun {k b u} h1 h2 => ⟨.base (.int _), by
      cases k <;> simp only [isTy, Option.some.injEq, tyVal] at h1 h2 <;> subst h1 <;> first
        | (subst h2; exact kit_ty (by decide +kernel))
        | (rename_i c
           cases e : F.cls c with
           | none => rw [e] at h2; cases h2
           | some C => rw [e] at h2; simp only [Option.map_some, Option.some.injEq] at h2; subst h2; exact Z.tc c C _ e (by simp))⟩⟩
  | str b => exact ⟨.type "str", fun {k b u} h1 h2 => ⟨.base (.str _), by
      cases k <;> simp only [isTy, Option.some.injEq, tyVal] at h1 h2 <;> subst h1 <;> first
        | (subst h2; exact kit_ty (by decide +kernel))
        | (rename_i c
           cases e : F.cls c with
           | none => rw [e] at h2; cases h2
           | some C => rw [e] at h2; simp only [Option.map_some, Option.some.injEq] at h2; subst h2; exact Z.tc c C _ e (by simp))⟩⟩
  | @tup ds a vs hq rs =>
    have ty : TyX K H (.ref a) (.type "tuple") := by
      exact .base (.tup hq)
    exact ⟨.type "tuple", fun {k b u} h1 h2 => ⟨ty, by
      cases k <;> simp only [isTy, Option.some.injEq, tyVal] at h1 h2 <;> subst h1 <;> first
        | (subst h2; exact kit_ty (by decide +kernel))
        | (rename_i c
           cases e : F.cls c with
           | none => rw [e] at h2; cases h2
           | some C => rw [e] at h2; simp only [Option.map_some, Option.some.injEq] at h2; subst h2; exact Z.tc c C _ e (by simp))⟩⟩
  | @wt ds a vs hq rs =>
    have ty : TyX K H (.ref a) (.type "tuple") := by
      rcases hq with (h | ⟨o, h⟩) | ⟨o, its, n, h1, h2, _⟩
      · exact .base (.tup h)
      · exact .fTuple h
      · exact .kTuple h1 h2
    exact ⟨.type "tuple", fun {k b u} h1 h2 => ⟨ty, by
      cases k <;> simp only [isTy, Option.some.injEq, tyVal] at h1 h2 <;> subst h1 <;> first
        | (subst h2; exact kit_ty (by decide +kernel))
        | (rename_i c
           cases e : F.cls c with
           | none => rw [e] at h2; cases h2
           | some C => rw [e] at h2; simp only [Option.map_some, Option.some.injEq] at h2; subst h2; exact Z.tc c C _ e (by simp))⟩⟩
  | @ref l a _ hl =>
    have hlt : l < st.length := by rw [← S.len]; exact (List.getElem?_eq_some_iff.mp hl).1
    have lists : ∀ ds, (st[l]? = some (.lst ds) ∨ st[l]? = some (.frz ds)) → TyX K H (.ref a) (.type "list") := fun ds hd => by
      obtain ⟨vs, hq, _⟩ := S.list hd hl
      rcases hq with (h | ⟨o, h⟩) | ⟨o, its, n, h1, h2, _⟩
      · exact .base (.lst h)
      · exact .base (.frz h)
      · exact .kList h1 h2
    cases e0 : st[l]? with
    | none => rw [List.getElem?_eq_none_iff] at e0; omega
    | some o =>
      cases o with
      | lst ds => exact ⟨.type "list", fun {k b u} h1 h2 => ⟨lists ds (.inl e0), by
          cases k <;> simp only [isTy, e0, Option.some.injEq, tyVal] at h1 h2 <;> subst h1 <;> first
            | (subst h2; exact kit_ty (by decide +kernel))
            | (rename_i c
               cases e : F.cls c with
               | none => rw [e] at h2; cases h2
               | some C => rw [e] at h2; simp only [Option.map_some, Option.some.injEq] at h2; subst h2; exact Z.tc c C _ e (by simp))⟩⟩
      | frz ds => exact ⟨.type "list", fun {k b u} h1 h2 => ⟨lists ds (.inr e0), by
          cases k <;> simp only [isTy, e0, Option.some.injEq, tyVal] at h1 h2 <;> subst h1 <;> first
            | (subst h2; exact kit_ty (by decide +kernel))
            | (rename_i c
               cases e : F.cls c with
               | none => rw [e] at h2; cases h2
               | some C => rw [e] at h2; simp only [Option.map_some, Option.some.injEq] at h2; subst h2; exact Z.tc c C _ e (by simp))⟩⟩
      | ins c' fs =>
        obtain ⟨C', dx, fv, hc', hH, _⟩ := S.back e0 hl rfl
        obtain ⟨k1, k2, k3, k4⟩ := Z.ha c' C' hc'
        exact ⟨.ref C', fun {k b u} h1 h2 => ⟨.base (.ins hH (Z.cl c' C' hc') k1 k2 k3 k4), by
          cases k <;> simp only [isTy, e0, Option.some.injEq, tyVal] at h1 h2 <;> subst h1 <;> first
            | (subst h2; exact Z.ct c' C' _ hc' (by simp))
            | (rename_i c
               cases e : F.cls c with
               | none => rw [e] at h2; cases h2
               | some C => rw [e] at h2; simp only [Option.map_some, Option.some.injEq] at h2; subst h2; exact Z.cc c' c C' C hc' e)⟩⟩
      | dct kvs => exact ⟨.none, fun {k b u} h1 h2 => by simp only [isTy, e0, reduceCtorEq] at h1⟩
      | dlk kvs => exact ⟨.none, fun {k b u} h1 h2 => by simp only [isTy, e0, reduceCtorEq] at h1⟩
def tyVals (F : Nm) : List Ty → Option (List Value)
  | [] => some []
  | k :: ks => (match tyVal F k with
    | some u => (match tyVals F ks with
      | some us => some (u :: us)
      | none => none)
    | none => none)
theorem tyVals_cls {F : Nm} : ∀ {ks : List Ty} {us : List Value}, tyVals F ks = some us → Paired ClsV (us.map tyV) us
  | [], us, h => by simp only [tyVals, Option.some.injEq] at h; subst h; exact .nil
  | k :: ks, us, h => by
    simp only [tyVals] at h
    cases e : tyVal F k with
    | none => rw [e] at h; cases h
    | some u =>
      rw [e] at h
      cases e' : tyVals F ks with
      | none => rw [e'] at h; cases h
      | some vs =>
        rw [e'] at h
        simp only [Option.some.injEq] at h
        subst h
        exact .cons (tyVal_cls e) (tyVals_cls e')
theorem isAny_ok (Z : Kit K F) (S : Sto K F μ st H) {x : D} {v : V} (r : Rp K μ H x v) : ∃ t, ∀ {ks : List Ty} {b : Bool} {us : List Value}, ks ≠ [] → isAny x st ks = some b → tyVals F ks = some us → TyX K H v t ∧ PySem.W.kitAny K t us = some b := by
  obtain ⟨t, ht⟩ := isTy_ok Z S r
  refine ⟨t, fun {ks} => ?_⟩
  induction ks with
  | nil => exact fun h => absurd rfl h
  | cons k ks ih =>
    intro b us _ h1 h2
    simp only [tyVals] at h2
    cases e : tyVal F k with
    | none => rw [e] at h2; cases h2
    | some u =>
      rw [e] at h2
      cases e' : tyVals F ks with
      | none => rw [e'] at h2; cases h2
      | some vs =>
        rw [e'] at h2
        simp only [Option.some.injEq] at h2
        subst h2
        simp only [isAny] at h1
        cases q : isTy k x st with
        | none => rw [q] at h1; cases h1
        | some c =>
          rw [q] at h1
          obtain ⟨g1, g2⟩ := ht q e
          refine ⟨g1, kitAny_cons g2 (fun hc => ?_) (fun hc => ?_)⟩
          · subst hc
            cases ks with
            | nil =>
              simp only [tyVals, Option.some.injEq] at e'
              subst e'
              simp only [isAny] at h1
              rw [← h1]; rfl
            | cons k' ks' => exact (ih (by simp) h1 e').2
          · subst hc
            exact (Option.some.inj h1).symm
end
end Nz
namespace Nz
open PySem L2 PyProof.Rows
/-! ### readings of evaluator functions -/
def tE (K : PySem.W.Frag) (F : Nm) (f : Env → Store → R D) : TE := fun σ H Q => ∃ μ ρ st, Sim K F μ ρ st σ H ∧ WP K F μ H (f ρ st) (VQ K Q)
def tCo (K : PySem.W.Frag) (F : Nm) (f : Env → Store → R Bool) : TT := fun σ H Q => ∃ μ ρ st, Sim K F μ ρ st σ H ∧ WP K F μ H (f ρ st) fun b _ _ H' => Q b H'
def tAs (K : PySem.W.Frag) (F : Nm) (f : Env → Store → R (List D)) : TA := fun σ H Q => ∃ μ ρ st, Sim K F μ ρ st σ H ∧ WP K F μ H (f ρ st) fun ds _ μ' H' => ∀ vs, Rps K μ' H' ds vs → Q vs H'
def tOi (K : PySem.W.Frag) (F : Nm) (f : Env → Store → R (Option Int)) : TO := fun σ H Q => ∃ μ ρ st, Sim K F μ ρ st σ H ∧ WP K F μ H (f ρ st) fun o _ _ H' => Q o H'
/-- what a walk gives -/
def Wlk (K : PySem.W.Frag) (F : Nm) (μ1 : Mu) (H1 : Hp) (w : Wk) (J : It) : Prop :=
  ∀ s2 μ2 H2, Post K F μ1 H1 s2 μ2 H2 → watOk w.wat s2 = true →
    (∀ i, i < w.its.length → J.go i H2) ∧ J.stop w.its.length H2 ∧ ∀ i x H3, i < w.its.length → J.yld i H2 x H3 → ∃ d, w.its[i]? = some d ∧ Post K F μ2 H2 s2 μ2 H3 ∧ Rp K μ2 H3 d x
def tIt (K : PySem.W.Frag) (F : Nm) (f : Env → Store → R Wk) : TI := fun σ H R => ∃ μ ρ st, Sim K F μ ρ st σ H ∧ WP K F μ H (f ρ st) fun w _ μ' H' => ∀ J, Wlk K F μ' H' w J → R J H'
theorem impE {X : Cx} {e : Expr} {t t' : TE} (h : PE X e t) (k : ∀ σ H Q, t' σ H Q → t σ H Q) : PE X e t' := ⟨fun pins s σ H Q I w => h.run pins s σ H Q I (k σ H Q w)⟩
theorem impT {X : Cx} {e : Expr} {t t' : TT} (h : PT X e t) (k : ∀ σ H Q, t' σ H Q → t σ H Q) : PT X e t' := ⟨fun pins s σ H Q I w => h.run pins s σ H Q I (k σ H Q w)⟩
theorem impW {X : Cx} {e : Expr} {t t' : TT} (h : PW X e t) (k : ∀ σ H Q, t' σ H Q → t σ H Q) : PW X e t' := ⟨fun wh pins s σ H Q I w => h.run wh pins s σ H Q I (k σ H Q w)⟩
theorem impA {X : Cx} {e : List Expr} {t t' : TA} (h : PA X e t) (k : ∀ σ H Q, t' σ H Q → t σ H Q) : PA X e t' := ⟨fun p pins s σ H Q I w => h.run p pins s σ H Q I (k σ H Q w)⟩
theorem impO {X : Cx} {e : Option Expr} {t t' : TO} (h : PO X e t) (k : ∀ σ H Q, t' σ H Q → t σ H Q) : PO X e t' := ⟨fun pins s σ H Q I w => h.run pins s σ H Q I (k σ H Q w)⟩
theorem impI {X : Cx} {tg e : Expr} {t t' : TI} (h : PI X tg e t) (k : ∀ σ H Q, t' σ H Q → t σ H Q) : PI X tg e t' := ⟨fun pins s σ H Q I w => h.run pins s σ H Q I (k σ H Q w)⟩
section
variable {K : PySem.W.Frag} {F : Nm} {μ : Mu} {H : Hp} {st : Store}
theorem watOk_mem {w : List (Nat × O)} {st : Store} (h : watOk w st = true) {l : Nat} {o : O} (m : (l, o) ∈ w) : st[l]? = some o := by
  have := List.all_eq_true.mp h (l, o) m
  cases e : st[l]? with
  | none => simp only [e] at this; cases this
  | some p =>
    simp only [e] at this
    rw [O.beq_eq this]
theorem wlk_tup {ds : List D} {a : Addr} {vs : List V} (h : SqT K H a vs) (rs : Rps K μ H ds vs) : Wlk K F μ H ⟨ds, []⟩ (Itt K a) := by
  intro s2 μ2 H2 P _
  have h2 : SqT K H2 a vs := tup_mono P.tups P.frzs h
  have r2 := rs.post P
  have W := walk_tup (K := K) (a := a) (xs := vs)
  rw [show (⟨ds, []⟩ : Wk).its = ds from rfl, rs.length]
  refine ⟨fun i hi => W.goes i H2 hi h2, W.stops H2 h2, fun i x H3 hi y => ?_⟩
  obtain ⟨rfl, hx⟩ := W.yields i H2 x H3 hi h2 y
  have hd : ds[i]? = some (ds[i]'(by rw [rs.length]; exact hi)) := by simp [rs.length, hi]
  obtain ⟨v, e1, e2⟩ := r2.get hd
  rw [hx] at e1; cases e1
  exact ⟨_, hd, .refl P.sto, e2⟩
theorem wlk_list {l : Nat} {a : Addr} {b : Bool} {ds : List D} {o : O} (hl : μ[l]? = some (a, b)) (ho : o = .lst ds ∨ o = .frz ds) : Wlk K F μ H ⟨ds, [(l, o)]⟩ (Itl K a) := by
  intro s2 μ2 H2 P hw
  have e := watOk_mem hw (l := l) (o := o) (by simp)
  obtain ⟨vs, h2, r2⟩ := P.sto.list (ds := ds) (by rcases ho with rfl | rfl; exact .inl e; exact .inr e) (pre_get P.pre hl)
  have W := walk_list (K := K) (a := a) (xs := vs)
  rw [show (⟨ds, [(l, o)]⟩ : Wk).its = ds from rfl, r2.length]
  refine ⟨fun i hi => W.goes i H2 hi h2, W.stops H2 h2, fun i x H3 hi y => ?_⟩
  obtain ⟨rfl, hx⟩ := W.yields i H2 x H3 hi h2 y
  have hd : ds[i]? = some (ds[i]'(by rw [r2.length]; exact hi)) := by simp [r2.length, hi]
  obtain ⟨v, e1, e2⟩ := r2.get hd
  rw [hx] at e1; cases e1
  exact ⟨_, hd, .refl P.sto, e2⟩
theorem wlk_range {lo : Int} {n : Nat} : Wlk K F μ H ⟨rangeL lo n, []⟩ (Itr lo n) := by
  intro s2 μ2 H2 P _
  have W := walk_range (lo := lo) (n := n)
  have hl : (⟨rangeL lo n, []⟩ : Wk).its.length = n := by simp [rangeL]
  rw [hl]
  refine ⟨fun i hi => W.goes i H2 hi trivial, W.stops H2 trivial, fun i x H3 hi y => ?_⟩
  obtain ⟨rfl, rfl⟩ := W.yields i H2 x H3 hi trivial y
  exact ⟨.int (lo + i), by simp [rangeL, hi], .refl P.sto, .int _⟩
end
section
variable {X : Cx} {F : Nm} {tg : Expr}
theorem pi_seqN {e : Expr} {f : Env → Store → R D} (he : PE X e (tE X.K F f)) : PI X tg e (tIt X.K F fun ρ st => (f ρ st).bind fun x s => wkSeq x s) := by
  refine ⟨fun pins s σ H R I h => ?_⟩
  obtain ⟨μ, ρ, st, S, w⟩ := h
  have w := w.bind
  cases hf : f ρ st with
  | no => rw [hf] at w; exact w.elim
  | ok d s1 =>
    rw [hf] at w
    cases d with
    | tup ds =>
      refine (pi_tup he).run pins s σ H R I ⟨μ, ρ, st, S, ?_⟩
      rw [hf]
      intro μ1 H1 P1 v r
      cases r with
      | @tup _ a vs hq rs =>
        refine ⟨a, rfl, ⟨vs, .of hq⟩, ?_⟩
        have w1 := w μ1 H1 P1
        exact WP.ok P1.sto w1 (Itt X.K a) (wlk_tup (.of hq) rs)
    | wt ds =>
      refine (pi_tup he).run pins s σ H R I ⟨μ, ρ, st, S, ?_⟩
      rw [hf]
      intro μ1 H1 P1 v r
      cases r with
      | @wt _ a vs hq rs =>
        refine ⟨a, rfl, ⟨vs, hq⟩, ?_⟩
        have w1 := w μ1 H1 P1
        exact WP.ok P1.sto w1 (Itt X.K a) (wlk_tup hq rs)
    | ref l =>
      refine (pi_list he).run pins s σ H R I ⟨μ, ρ, st, S, ?_⟩
      rw [hf]
      intro μ1 H1 P1 v r
      cases r with
      | @ref _ a _ hl =>
        have w1 := w μ1 H1 P1
        obtain ⟨ds, o, ho, hd, w2⟩ : ∃ ds o, (o = .lst ds ∨ o = .frz ds) ∧ s1[l]? = some o ∧ WP X.K F μ1 H1 (.ok ⟨ds, [(l, o)]⟩ s1) (fun w _ μ' H' => ∀ J, Wlk X.K F μ' H' w J → R J H') := by
          simp only [wkSeq] at w1
          split at w1
          · exact ⟨_, _, .inl rfl, by assumption, w1⟩
          · exact ⟨_, _, .inr rfl, by assumption, w1⟩
          · exact w1.elim
        obtain ⟨vs, hq, rs⟩ := P1.sto.list (ds := ds) (by rcases ho with rfl | rfl; exact .inl hd; exact .inr hd) hl
        exact ⟨a, rfl, ⟨vs, hq⟩, WP.ok P1.sto w2 (Itl X.K a) (wlk_list hl ho)⟩
    | _ =>
      have P : ∀ μ1 H1, ¬ Post X.K F μ H s1 μ1 H1 := fun μ1 H1 P => (w μ1 H1 P).elim
      refine (pi_tup he).run pins s σ H R I ⟨μ, ρ, st, S, ?_⟩
      rw [hf]
      exact fun μ1 H1 P1 => (P μ1 H1 P1).elim
theorem rngOk_ok {i : Int} (h : rngOk i = true) : -(2 ^ 62) ≤ i ∧ i < 2 ^ 62 := by
  have e : (2 : Int) ^ 62 = 4611686018427387904 := by rfl
  rw [e]
  exact of_decide_eq_true h
theorem wkRng_ok {K : PySem.W.Frag} {μ : Mu} {H : Hp} {st : Store} {x y : D} {v u : V} {Φ : Wk → Store → Mu → Hp → Prop} (S : Sto K F μ st H) (r1 : Rp K μ H x v) (r2 : Rp K μ H y u) (w : WP K F μ H (wkRng x y st) Φ) :
    ∃ i j, v = .int i ∧ u = .int j ∧ (-(2 ^ 62) ≤ i ∧ i < 2 ^ 62 ∧ -(2 ^ 62) ≤ j ∧ j < 2 ^ 62) ∧ Φ ⟨rangeL i (j - i).toNat, []⟩ st μ H := by
  cases r1 with
  | int i =>
    cases r2 with
    | int j =>
      obtain ⟨hb, w⟩ := w.grd
      rw [Bool.and_eq_true] at hb
      exact ⟨i, j, rfl, rfl, ⟨(rngOk_ok hb.1).1, (rngOk_ok hb.1).2, (rngOk_ok hb.2).1, (rngOk_ok hb.2).2⟩, w.ok S⟩
    | _ => exact w.elim
  | _ => exact w.elim
theorem pi_rng1N {a : Expr} {f : Env → Store → R D} {p pos : Pos} (hg : Gl X "range") (hm : X.mg "range" = none) (he : PE X a (tE X.K F f)) (hs : starEach [a] X.env = [(false, eval a X.env)]) :
    PI X tg (.Call (.Name "range" p) [a] [] pos) (tIt X.K F fun ρ st => (f ρ st).bind fun x s => wkRng (.int 0) x s) := by
  refine impI (pi_range1 hg hm (pa_cons he pa_nil hs) hs) fun σ H R h => ?_
  obtain ⟨μ, ρ, st, S, w⟩ := h
  refine ⟨μ, ρ, st, S, w.bind.mono fun d s μ1 H1 P1 w1 v r => ?_⟩
  obtain ⟨i, j, e1, rfl, hb, q⟩ := wkRng_ok (Φ := fun w _ μ' H' => ∀ J, Wlk X.K F μ' H' w J → R J H') P1.sto (.int 0) r w1
  cases e1
  refine ⟨j, rfl, hb.2.2.1, hb.2.2.2, ?_⟩
  have e : (j - 0).toNat = j.toNat := by simp
  rw [e] at q
  exact q _ wlk_range
theorem pi_rng2N {a b : Expr} {f g : Env → Store → R D} {p pos : Pos} (hg : Gl X "range") (hm : X.mg "range" = none) (ha : PE X a (tE X.K F f)) (hb : PE X b (tE X.K F g)) (hs : starEach [a, b] X.env = [(false, eval a X.env), (false, eval b X.env)]) (hs2 : starEach [b] X.env = [(false, eval b X.env)]) :
    PI X tg (.Call (.Name "range" p) [a, b] [] pos) (tIt X.K F fun ρ st => (f ρ st).bind fun x s => (g ρ s).bind fun y s => wkRng x y s) := by
  refine impI (pi_range2 hg hm (pa_cons ha (pa_cons hb pa_nil hs2) (by rw [hs, hs2])) hs hs2) fun σ H R h => ?_
  obtain ⟨μ, ρ, st, S, w⟩ := h
  refine ⟨μ, ρ, st, S, w.bind.mono fun d s μ1 H1 P1 w1 v r => ?_⟩
  refine ⟨μ1, ρ, s, S.post P1, w1.bind.mono fun d' s' μ2 H2 P2 w2 v' r' => ?_⟩
  obtain ⟨i, j, rfl, rfl, hb, q⟩ := wkRng_ok (Φ := fun w _ μ' H' => ∀ J, Wlk X.K F μ' H' w J → R J H') P2.sto (r.post P2) r' w2
  exact ⟨i, j, rfl, hb, q _ wlk_range⟩
end
end Nz
namespace Nz
open PySem L2 PyProof.Rows
/-! ### enumerate of one value that can be walked -/
theorem enum_new1 {v : Value} {o : Obj} {Hs : Heap → Prop} (B : Begins v o Hs) :
    Meets (Builtin.«enumerate.__new__» ⟨[.type "enumerate", v], []⟩) (fun _ R s => Hs s.heap ∧
      R (.ok (.ret (.ref (s.heap.push o).objs.size))) { s with heap := (s.heap.push o).push { cls := .type "enumerate", data := .fields #[.none, .bool false, .ref s.heap.objs.size, rawInt 0, .none, .none] } }) :=
  .of_wp fun prog w A R s hyp => by
    obtain ⟨hp, gn, dr, tk, os⟩ := s
    obtain ⟨hyp1, hyp⟩ := hyp
    have hsb := sub_enumerate
    have it1 : ∀ {A' : Around} {E : Value → Shared → Prop} {Q : Value → Shared → Prop}, Q (.ref hp.objs.size) ⟨hp.push o, gn, dr, tk, os⟩ → wpAny (model prog w) A' (pyIter v) Q E ⟨hp, gn, dr, tk, os⟩ :=
      fun z => B.iter prog w _ _ ⟨hp, gn, dr, tk, os⟩ _ hyp1 z
    wp_walk using it1
    refine wpAny_stack_any fun stk => wpAny_pure ?_
    split
    · rename_i c _ _ _ _ _
      cases (c == Value.type "enumerate")
      · wp_walk using it1
        exact ⟨_, rfl, hyp⟩
      · wp_walk using it1
        exact ⟨_, rfl, hyp⟩
    · wp_walk using it1
      exact ⟨_, rfl, hyp⟩
section
variable {prog : Program} {w : World} {A : Around} {E : Value → Shared → Prop} {s : Shared}
/-- enumerate(v): its two new cells -/
theorem enum_call1 {v : Value} {o : Obj} {Hs : Heap → Prop} {Q : Value → Shared → Prop} (B : Begins v o Hs) (h1 : Hs s.heap)
    (hyp : ∀ h', IsEnum h' (s.heap.objs.size + 1) s.heap.objs.size 0 .none → h'.get? s.heap.objs.size = some o → (∀ b u, s.heap.get? b = some u → h'.get? b = some u) → Q (.ref (s.heap.objs.size + 1)) { s with heap := h' }) :
    wpAny (model prog w) A (call (.type "enumerate") [v]) Q E s := by
  refine callType_new F.called_enumerate (by decide) (F.typeCall_enumerate_1 _) (F.newCall_enumerate_1 _) (fun ob => F.args_object_init_2 ob _) F.entry_enumerate_new (enum_new1 B) ⟨h1, ?_⟩
  have hsz : (s.heap.push o).objs.size = s.heap.objs.size + 1 := Heap.size_push ..
  show _ ∧ _
  rw [hsz]
  have hen : IsEnum ((s.heap.push o).push { cls := .type "enumerate", data := .fields #[.none, .bool false, .ref s.heap.objs.size, rawInt 0, .none, .none] }) (s.heap.objs.size + 1) s.heap.objs.size 0 .none := by
    have z := Heap.get?_push_size (s.heap.push o) (o := { cls := .type "enumerate", data := .fields #[.none, .bool false, .ref s.heap.objs.size, rawInt 0, .none, .none] }) rfl
    rwa [hsz] at z
  exact ⟨⟨_, hen, rfl⟩, hyp _ hen (Heap.get?_push_of_some _ (Heap.get?_push_size _ B.free)) fun b u x => Heap.get?_push_of_some _ (Heap.get?_push_of_some _ x)⟩
end
/-- the tuple at a, each item in a new pair -/
def IteT (K : PySem.W.Frag) (a : Addr) : It :=
  ⟨fun i H => ∃ (xs : List V) (x : V), SqT K H a xs ∧ xs[i]? = some x, fun i H v H' => ∃ T x, v = .ref T ∧ H T = none ∧ H' = upd H T (.tup [.int (i : Nat), x]) ∧ ∀ xs, SqT K H a xs → xs[i]? = some x, fun i H => ∃ xs : List V, SqT K H a xs ∧ xs.length = i⟩
theorem turn_enumT {P : Program} {w : World} {K : PySem.W.Frag} {elts : List Expr} {kk : Nat} {tpos : Pos} (a e it : Addr) :
    Turn P w K (.Tuple elts kk tpos) (IteT K a) [e, it] e (fun i h => (∃ old, IsEnum h e it ((i : Nat) : Int) old) ∧ h.IsTupleIter it a i ∧ e ≠ it) where
  mem := by simp
  obj := fun i h st b hb => by
    obtain ⟨⟨old, he⟩, ⟨ob, hob, _, hdt⟩, _⟩ := st
    rcases List.mem_cons.mp hb with z | z
    · subst z; exact ⟨_, he, fun v q => nomatch q⟩
    · have z := List.mem_singleton.mp z
      subst z; exact ⟨ob, hob, fun v q => by rw [hdt] at q; cases q⟩
  keep := fun i h h' st k => by
    obtain ⟨⟨old, he⟩, hi, hne⟩ := st
    exact ⟨⟨old, k e (by simp) _ he⟩, hi.at fun u q => k it (by simp) u q, hne⟩
  item := by
    intro X hP hw hK hcalm i pins s σ H E I hfp st hgo
    subst hP hw hK
    obtain ⟨⟨old, he⟩, hit, hne⟩ := st
    obtain ⟨xs, x, hq, hx⟩ := hgo
    obtain ⟨its, rv, tp, hz⟩ := I.tuple hq
    obtain ⟨u, hu, ru⟩ := rv.get hx
    have hel : e < s.heap.objs.size := Heap.lt_size he
    have hil : it < s.heap.objs.size := by obtain ⟨_, q, _⟩ := hit; exact Heap.lt_size q
    have hai : a ≠ it := fun z => by
      obtain ⟨o1, g1, c1, _⟩ := id tp
      obtain ⟨o2, g2, c2, _⟩ := id hit
      rw [z, g2] at g1
      cases g1
      rw [c1] at c2
      injection c2 with q
      exact absurd q (by decide)
    have hea : e ∉ [it, a] := fun z => by
      rcases List.mem_cons.mp z with z | z
      · exact hne z
      · have z := List.mem_singleton.mp z
        obtain ⟨o1, g1, c1, _⟩ := id tp
        rw [← z, he] at g1
        cases g1
        injection c1 with q
        exact absurd q (by decide)
    have hlt : i < its.toArray.size := by
      have := (List.getElem?_eq_some_iff.mp hu).1
      simpa using this
    refine wpAny_pyNext_enum_itemC (Draws.tuple (show X.A.in1.handled = none from I.ok.hd hcalm) it a hai its.toArray) he ⟨hit, tp⟩ hlt hne hea fun u' h' tk hu' hout hst' hT hsz hk => ?_
    have eu : u' = u := by
      have hu2 : its.toArray[i]? = some u := by simpa using hu
      rw [hu2] at hu'
      exact (Option.some.inj hu').symm
    subst eu
    refine ⟨_, rfl, wpAny_letOwnedTupleGo_enum (s := { s with heap := h', toks := tk + 1 }) hout fun h'' he' sb => ?_⟩
    have hT2 : h''.get? s.heap.objs.size = some { cls := .type "tuple", data := .seq #[.int i tk, u'] } := (sb.2 _ (Nat.ne_of_gt hel)).trans hT
    have fresh : ObjOk X.prog X.w (upd H s.heap.objs.size (.tup [.int (i : Nat), x])) h'' s.heap.objs.size (.tup [.int (i : Nat), x]) :=
      ⟨by show 2 ≤ sizeLine; decide, [.int i tk, u'], .cons ⟨_, rfl⟩ (.cons ru .nil), ⟨_, hT2, rfl, _, rfl⟩⟩
    have I1 : Inv X pins σ (upd H s.heap.objs.size (.tup [.int (i : Nat), x])) { s with heap := h'', toks := tk + 1 } :=
      I.turnedNew (t' := tk + 1) (ch := [e, it]) (fun b ob hb q => (sb.2 b (fun z => hb (by simp [z]))).trans (hk b ob (fun z => hb (by simp [z])) (fun z => hb (by simp [z])) q)) hfp (Nat.le_refl _) fresh
    refine ⟨.ref s.heap.objs.size, _, I1, rfl, ⟨_, x, rfl, I.hok.fresh (Nat.le_refl _), rfl, fun ys hy => by rw [I.tuple_inj hy hq]; exact hx⟩, ⟨⟨u', ?_⟩, hst'.1.at fun ob q => (sb.2 it (Ne.symm hne)).trans q, hne⟩, fun b hb => ?_⟩
    · have e1 : ((i + 1 : Nat) : Int) = (i : Int) + 1 := by omega
      rw [e1]
      exact he'
    · have hb' : b < s.heap.objs.size := by
        rcases List.mem_cons.mp hb with z | z
        · rw [z]; exact hel
        · rw [List.mem_singleton.mp z]; exact hil
      rw [upd_ne (Nat.ne_of_lt hb')]
      exact (hfp b hb).1
  done := by
    intro X hP hw hK hcalm i pins s σ H E I hfp st hgo
    subst hP hw hK
    obtain ⟨⟨old, he⟩, hit, hne⟩ := st
    obtain ⟨xs, hq, hx⟩ := hgo
    obtain ⟨its, rv, tp, hz⟩ := I.tuple hq
    obtain ⟨f0, f1, f2, f3, f4, f5⟩ := hfp it (by simp)
    have hai : a ≠ it := fun z => by
      obtain ⟨o1, g1, c1, _⟩ := id tp
      obtain ⟨o2, g2, c2, _⟩ := id hit
      rw [z, g2] at g1
      cases g1
      rw [c1] at c2
      injection c2 with q
      exact absurd q (by decide)
    have hl : i = its.toArray.size := by
      have := rv.length
      simp only [List.size_toArray]
      omega
    subst hl
    exact wpAny_pyNext_enum_endD (Draws.tuple (show X.A.in1.handled = none from I.ok.hd hcalm) it a hai its.toArray) he ⟨hit, tp⟩ fun h' eb => ⟨rfl, I.turned (t' := s.toks) (fun b ob hb q => eb b ob hb q) f0 f1 f3 f4 f5⟩
  self := fun A i s Q E st hyp => by
    obtain ⟨⟨_, he⟩, _⟩ := st
    exact wpAny_pyIter_enum he hyp
theorem numbered_get {i : Nat} : ∀ {n : Nat} {ds : List D}, (numbered n ds)[i]? = (ds[i]?).map fun d => .tup [.int (n + i : Nat), d] := by
  intro n ds
  induction ds generalizing n i with
  | nil => simp [numbered]
  | cons d ds ih =>
    cases i with
    | zero => simp [numbered]
    | succ i =>
      simp only [numbered, List.getElem?_cons_succ]
      rw [ih, show n + 1 + i = n + (i + 1) by omega]
theorem numbered_len {n : Nat} {ds : List D} : (numbered n ds).length = ds.length := by
  induction ds generalizing n with
  | nil => rfl
  | cons d ds ih => simp [numbered, ih]
theorem pair_new {K : PySem.W.Frag} {F : Nm} {μ : Mu} {H : Hp} {st : Store} {T : Addr} {x y : V} {d e : D} (S : Sto K F μ st H) (hT : H T = none) (r1 : Rp K μ H d x) (r2 : Rp K μ H e y) :
    Post K F μ H st μ (upd H T (.tup [x, y])) ∧ Rp K μ (upd H T (.tup [x, y])) (.tup [d, e]) (.ref T) := by
  have P := Post.fresh (u := .tup [x, y]) S hT
  exact ⟨P, .tup (vs := [x, y]) upd_same (.cons (r1.post P) (.cons (r2.post P) .nil))⟩
section
variable {K : PySem.W.Frag} {F : Nm} {μ : Mu} {H : Hp} {st : Store}
theorem wlk_enumT {ds : List D} {a : Addr} {vs : List V} (h : SqT K H a vs) (rs : Rps K μ H ds vs) : Wlk K F μ H ⟨numbered 0 ds, []⟩ (IteT K a) := by
  intro s2 μ2 H2 P _
  have h2 : SqT K H2 a vs := tup_mono P.tups P.frzs h
  have r2 := rs.post P
  have hl := r2.length
  simp only [numbered_len]
  refine ⟨fun i hi => ⟨vs, vs[i]'(by omega), h2, by simp [← hl, hi]⟩, ⟨vs, h2, hl.symm⟩, fun i x H3 hi y => ?_⟩
  obtain ⟨T, z, rfl, hT, rfl, hz⟩ := y
  have hz := hz vs h2
  have hd : ds[i]? = some ds[i] := by simp [hi]
  obtain ⟨v, e1, e2⟩ := r2.get hd
  rw [hz] at e1
  cases e1
  obtain ⟨q1, q2⟩ := pair_new P.sto hT (.int (i : Nat)) e2
  exact ⟨_, by rw [numbered_get, hd]; simp, q1, q2⟩
theorem wlk_enumL {l : Nat} {a : Addr} {b : Bool} {ds : List D} {o : O} (hl : μ[l]? = some (a, b)) (ho : o = .lst ds ∨ o = .frz ds) : Wlk K F μ H ⟨numbered 0 ds, [(l, o)]⟩ (Ite K a) := by
  intro s2 μ2 H2 P hw
  have e := watOk_mem hw (l := l) (o := o) (by simp)
  obtain ⟨vs, h2, r2⟩ := P.sto.list (ds := ds) (by rcases ho with rfl | rfl; exact .inl e; exact .inr e) (pre_get P.pre hl)
  have hl := r2.length
  simp only [numbered_len]
  refine ⟨fun i hi => ⟨vs, vs[i]'(by omega), h2, by simp [← hl, hi]⟩, ⟨vs, h2, Nat.le_of_eq hl.symm⟩, fun i x H3 hi y => ?_⟩
  obtain ⟨T, z, rfl, hT, rfl, hz⟩ := y
  have hz := hz vs h2
  have hd : ds[i]? = some ds[i] := by simp [hi]
  obtain ⟨v, e1, e2⟩ := r2.get hd
  rw [hz] at e1
  cases e1
  obtain ⟨q1, q2⟩ := pair_new P.sto hT (.int (i : Nat)) e2
  exact ⟨_, by rw [numbered_get, hd]; simp, q1, q2⟩
end
section
variable {X : Cx} {F : Nm}
def iEnumT (K : PySem.W.Frag) (ta : TA) : TI := fun σ H R => ta σ H fun vs H1 => ∃ a xs, vs = [.ref a] ∧ SqT K H1 a xs ∧ R (IteT K a) H1
theorem pi_enumT {e : Expr} {ta : TA} {p pos tpos : Pos} {elts : List Expr} {kk : Nat} (hg : Gl X "enumerate") (hm : X.mg "enumerate" = none) (ha : PA X [e] ta) (hs : starEach [e] X.env = [(false, eval e X.env)]) :
    PI X (.Tuple elts kk tpos) (.Call (.Name "enumerate" p) [e] [] pos) (iEnumT X.K ta) := by
  refine ⟨fun pins s σ H R I hyp => ?_⟩
  refine Call_ (ld_blt I hg hm boot_enumerate (PyProof.Rows.callWith_type1 (thn (ha.run pos pins s σ H _ I hyp) fun us s1 ⟨vs, H1, I1, r1, q1⟩ => ?_) hs rfl))
  obtain ⟨a, xs, ex, hq, q⟩ := q1
  subst ex
  cases r1 with
  | cons r rr =>
    cases rr
    cases r
    obtain ⟨its, rv, tp, hz⟩ := I1.tuple hq
    refine enum_call1 (begins_tuple a its.toArray) (show s1.heap.IsTuple a its.toArray from tp) fun h' he hit hk => wpAny_pyIter_enum he ?_
    have I2 : Inv X pins σ H1 { s1 with heap := h' } := I1.kept (t' := s1.toks) hk
    refine ⟨s1.heap.objs.size + 1, [s1.heap.objs.size + 1, s1.heap.objs.size], _, _, H1, rfl, I2, turn_enumT a (s1.heap.objs.size + 1) s1.heap.objs.size, ⟨⟨.none, he⟩, ⟨_, hit, rfl, rfl⟩, Nat.succ_ne_self _⟩, fun b hb => ?_, q⟩
    have hle : s1.heap.objs.size ≤ b := by
      rcases List.mem_cons.mp hb with z | z
      · rw [z]; exact Nat.le_add_right _ _
      · rw [List.mem_singleton.mp z]; exact Nat.le_refl _
    exact I1.fpOk hle (I1.hok.fresh hle)
theorem pi_enumN {e : Expr} {f : Env → Store → R D} {p pos tpos : Pos} {elts : List Expr} {kk : Nat} (hg : Gl X "enumerate") (hm : X.mg "enumerate" = none) (he : PE X e (tE X.K F f)) (hs : starEach [e] X.env = [(false, eval e X.env)]) :
    PI X (.Tuple elts kk tpos) (.Call (.Name "enumerate" p) [e] [] pos) (tIt X.K F fun ρ st => (f ρ st).bind fun x s => wkEnum x s) := by
  refine ⟨fun pins s σ H R I hyp => ?_⟩
  obtain ⟨μ, ρ, st, S, w⟩ := hyp
  have w := w.bind
  have hA := pa_cons he pa_nil hs
  cases hf : f ρ st with
  | no => rw [hf] at w; exact w.elim
  | ok d s1 =>
    rw [hf] at w
    cases d with
    | tup ds =>
      refine (pi_enumT hg hm hA hs).run pins s σ H R I ⟨μ, ρ, st, S, ?_⟩
      rw [hf]
      intro μ1 H1 P1 v r
      cases r with
      | @tup _ a vs hq rs =>
        have w1 := w μ1 H1 P1
        exact ⟨a, vs, rfl, .of hq, WP.ok P1.sto w1 (IteT X.K a) (wlk_enumT (.of hq) rs)⟩
    | wt ds =>
      refine (pi_enumT hg hm hA hs).run pins s σ H R I ⟨μ, ρ, st, S, ?_⟩
      rw [hf]
      intro μ1 H1 P1 v r
      cases r with
      | @wt _ a vs hq rs =>
        have w1 := w μ1 H1 P1
        exact ⟨a, vs, rfl, hq, WP.ok P1.sto w1 (IteT X.K a) (wlk_enumT hq rs)⟩
    | ref l =>
      refine (pi_enum hg hm hA hs).run pins s σ H R I ⟨μ, ρ, st, S, ?_⟩
      rw [hf]
      intro μ1 H1 P1 v r
      cases r with
      | @ref _ a _ hl =>
        have w1 := w μ1 H1 P1
        obtain ⟨ds, o, ho, hd, w2⟩ : ∃ ds o, (o = .lst ds ∨ o = .frz ds) ∧ s1[l]? = some o ∧ WP X.K F μ1 H1 (.ok ⟨numbered 0 ds, [(l, o)]⟩ s1) (fun w _ μ' H' => ∀ J, Wlk X.K F μ' H' w J → R J H') := by
          simp only [wkEnum, wkSeq] at w1
          cases hst : s1[l]? with
          | none => rw [hst] at w1; exact w1.elim
          | some o =>
            rw [hst] at w1
            cases o with
            | lst ds => exact ⟨_, _, .inl rfl, rfl, w1⟩
            | frz ds => exact ⟨_, _, .inr rfl, rfl, w1⟩
            | _ => exact w1.elim
        obtain ⟨vs, hq, rs⟩ := P1.sto.list (ds := ds) (by rcases ho with rfl | rfl; exact .inl hd; exact .inr hd) hl
        exact ⟨a, vs, rfl, hq, WP.ok P1.sto w2 (Ite X.K a) (wlk_enumL hl ho)⟩
    | _ =>
      have P : ∀ μ1 H1, ¬ Post X.K F μ H s1 μ1 H1 := fun μ1 H1 P => (w μ1 H1 P).elim
      refine (pi_enumT hg hm hA hs).run pins s σ H R I ⟨μ, ρ, st, S, ?_⟩
      rw [hf]
      exact fun μ1 H1 P1 => (P μ1 H1 P1).elim
end
end Nz
namespace Nz
open PySem L2 PyProof.Rows
/-! ### a range walked from its end -/
theorem rev_get {n i : Nat} (h : i < n) : (rangeL 0 n).reverse[i]? = some (.int ((n : Int) - 1 - i)) := by
  have hl : (rangeL 0 n).length = n := by simp [rangeL]
  rw [List.getElem?_reverse (by rw [hl]; exact h), hl]
  simp only [rangeL]
  rw [List.getElem?_map, List.getElem?_range (by omega)]
  simp only [Option.map_some, Option.some.injEq, D.int.injEq]
  omega
theorem wlk_rrange {K : PySem.W.Frag} {F : Nm} {μ : Mu} {H : Hp} {n : Nat} : Wlk K F μ H ⟨(rangeL 0 n).reverse, []⟩ (Itc ((n : Int) - 1) (-1) n) := by
  intro s2 μ2 H2 P _
  have hl : (⟨(rangeL 0 n).reverse, []⟩ : Wk).its.length = n := by simp [rangeL]
  rw [hl]
  refine ⟨fun i hi => hi, Nat.le_refl n, fun i x H3 hi y => ?_⟩
  obtain ⟨rfl, rfl⟩ := y
  refine ⟨.int ((n : Int) - 1 - i), rev_get hi, .refl P.sto, ?_⟩
  rw [show ((n : Int) - 1 + (i : Nat) * (-1)) = (n : Int) - 1 - i by omega]
  exact .int _
section
variable {X : Cx} {F : Nm} {tg : Expr}
theorem pi_rrng1N {a : Expr} {f : Env → Store → R D} {p p2 pos pos2 : Pos} (hg : Gl X "reversed") (hm : X.mg "reversed" = none) (hg2 : Gl X "range") (hm2 : X.mg "range" = none) (he : PE X a (tE X.K F f)) (hs : starEach [a] X.env = [(false, eval a X.env)]) :
    PI X tg (.Call (.Name "reversed" p) [.Call (.Name "range" p2) [a] [] pos2] [] pos) (tIt X.K F fun ρ st => (f ρ st).bind fun x s => (wkRng (.int 0) x s).bind fun w s => .ok ⟨w.its.reverse, []⟩ s) := by
  refine impI (pi_revR hg hm (prg_1 hg2 hm2 he hs) (by rfl)) fun σ H R h => ?_
  obtain ⟨μ, ρ, st, S, w⟩ := h
  refine ⟨μ, ρ, st, S, w.bind.mono fun d s μ1 H1 P1 w1 v r => ?_⟩
  obtain ⟨i, j, e1, rfl, hb, q⟩ := wkRng_ok (Φ := fun w s μ' H' => WP X.K F μ' H' (.ok ⟨w.its.reverse, []⟩ s) fun w _ μ'' H'' => ∀ J, Wlk X.K F μ'' H'' w J → R J H'') P1.sto (.int 0) r w1.bind
  cases e1
  have q := q.ok P1.sto
  refine ⟨j, rfl, hb.1, hb.2.1, hb.2.2.1, hb.2.2.2, ?_⟩
  have e : (j - 0).toNat = j.toNat := by simp
  rw [e] at q ⊢
  have := q _ wlk_rrange
  rw [show (0 : Int) + ((j.toNat : Nat) : Int) - 1 = (j.toNat : Int) - 1 by omega]
  exact this
end
end Nz
namespace Nz
open PySem L2 PyProof.Rows
/-! ### zip of two tuples or of two lists -/
theorem pairs_get {f : D → D → D} : ∀ {a b : List D} {i : Nat} {x y : D}, a[i]? = some x → b[i]? = some y → (pairs f a b)[i]? = some (f x y) := by
  intro a
  induction a with
  | nil => intro b i x y h; simp at h
  | cons u a ih =>
    intro b i x y h h2
    cases b with
    | nil => simp at h2
    | cons v b =>
      cases i with
      | zero => simp at h h2; subst h h2; rfl
      | succ i => simp only [List.getElem?_cons_succ] at h h2; exact ih h h2
theorem pairs_len {f : D → D → D} : ∀ {a b : List D}, (pairs f a b).length = min a.length b.length := by
  intro a
  induction a with
  | nil => intro b; simp [pairs]
  | cons u a ih =>
    intro b
    cases b with
    | nil => simp [pairs]
    | cons v b => simp only [pairs, List.length_cons, ih]; omega
section
variable {K : PySem.W.Frag} {F : Nm} {μ : Mu} {H : Hp} {st : Store}
theorem wlk_zipT {ds es : List D} {a b : Addr} {vs us : List V} (h : SqT K H a vs) (rs : Rps K μ H ds vs) (h' : SqT K H b us) (rs' : Rps K μ H es us) : Wlk K F μ H ⟨pairs (fun a b => .tup [a, b]) ds es, []⟩ (RZ.ItzT K a b) := by
  intro s2 μ2 H2 P _
  have h2 : SqT K H2 a vs := tup_mono P.tups P.frzs h
  have h2' : SqT K H2 b us := tup_mono P.tups P.frzs h'
  have r2 := rs.post P
  have r2' := rs'.post P
  have hl := r2.length
  have hl' := r2'.length
  simp only [pairs_len]
  refine ⟨fun i hi => ⟨vs, us, vs[i]'(by omega), us[i]'(by omega), h2, h2', by simp, by simp⟩, ⟨vs, us, h2, h2', by omega⟩, fun i x H3 hi y => ?_⟩
  obtain ⟨T, z, z', rfl, hT, rfl, hz, hz'⟩ := y
  have hz := hz vs h2
  have hz' := hz' us h2'
  have hd : ds[i]? = some (ds[i]'(by omega)) := List.getElem?_eq_getElem (by omega)
  have hd' : es[i]? = some (es[i]'(by omega)) := List.getElem?_eq_getElem (by omega)
  obtain ⟨v, e1, e2⟩ := r2.get hd
  obtain ⟨v', e1', e2'⟩ := r2'.get hd'
  rw [hz] at e1
  rw [hz'] at e1'
  cases e1
  cases e1'
  obtain ⟨q1, q2⟩ := pair_new P.sto hT e2 e2'
  exact ⟨_, pairs_get hd hd', q1, q2⟩
theorem wlk_zipL {l m : Nat} {a b : Addr} {p q : Bool} {ds es : List D} (hl : μ[l]? = some (a, p)) (hm : μ[m]? = some (b, q)) : Wlk K F μ H ⟨pairs (fun a b => .tup [a, b]) ds es, [(l, .lst ds), (m, .lst es)]⟩ (Itz K a b) := by
  intro s2 μ2 H2 P hw
  have e := watOk_mem hw (l := l) (o := .lst ds) (by simp)
  have e' := watOk_mem hw (l := m) (o := .lst es) (by simp)
  obtain ⟨vs, h2, r2⟩ := P.sto.list (ds := ds) (.inl e) (pre_get P.pre hl)
  obtain ⟨us, h2', r2'⟩ := P.sto.list (ds := es) (.inl e') (pre_get P.pre hm)
  have hl := r2.length
  have hl' := r2'.length
  simp only [pairs_len]
  refine ⟨fun i hi => ⟨vs, us, vs[i]'(by omega), us[i]'(by omega), h2, h2', by simp, by simp⟩, ⟨vs, us, h2, h2', by omega⟩, fun i x H3 hi y => ?_⟩
  obtain ⟨T, z, z', rfl, hT, rfl, hz, hz'⟩ := y
  have hz := hz vs h2
  have hz' := hz' us h2'
  have hd : ds[i]? = some (ds[i]'(by omega)) := List.getElem?_eq_getElem (by omega)
  have hd' : es[i]? = some (es[i]'(by omega)) := List.getElem?_eq_getElem (by omega)
  obtain ⟨v, e1, e2⟩ := r2.get hd
  obtain ⟨v', e1', e2'⟩ := r2'.get hd'
  rw [hz] at e1
  rw [hz'] at e1'
  cases e1
  cases e1'
  obtain ⟨q1, q2⟩ := pair_new P.sto hT e2 e2'
  exact ⟨_, pairs_get hd hd', q1, q2⟩
end
section
variable {X : Cx} {F : Nm}
theorem pi_zipN {a b : Expr} {f g : Env → Store → R D} {p pos tpos : Pos} {elts : List Expr} {kk : Nat} (hg : Gl X "zip") (hm : X.mg "zip" = none) (ha : PE X a (tE X.K F f)) (hb : PE X b (tE X.K F g)) (hs : starEach [a, b] X.env = [(false, eval a X.env), (false, eval b X.env)]) (hs2 : starEach [b] X.env = [(false, eval b X.env)]) :
    PI X (.Tuple elts kk tpos) (.Call (.Name "zip" p) [a, b] [] pos) (tIt X.K F fun ρ st => (f ρ st).bind fun x s => (g ρ s).bind fun y s => wkZip x y s) := by
  have e1 : starEach [a, b] X.env = (false, eval a X.env) :: starEach [b] X.env := by rw [hs, hs2]
  refine impI (RZ.pi_zipA hg hm (pa_cons ha (pa_cons hb pa_nil hs2) e1) e1 (by rw [hs2]; rfl)) fun σ H R h => ?_
  obtain ⟨μ, ρ, st, S, w⟩ := h
  refine ⟨μ, ρ, st, S, w.bind.mono fun d s μ1 H1 P1 w1 v r => ?_⟩
  refine ⟨μ1, ρ, s, S.post P1, w1.bind.mono fun d' s' μ2 H2 P2 w2 v' r' => ?_⟩
  have r := r.post P2
  cases r with
  | @tup ds A vs hq rs =>
    cases r' with
    | @tup es B us hq' rs' =>
      exact ⟨A, B, vs, us, rfl, .inr ⟨.of hq, .of hq', WP.ok P2.sto w2 (RZ.ItzT X.K A B) (wlk_zipT (.of hq) rs (.of hq') rs')⟩⟩
    | _ => exact w2.elim
  | @ref l A p hl =>
    cases r' with
    | @ref m B q hm =>
      simp only [wkZip] at w2
      split at w2
      · rename_i ds es h1 h2
        obtain ⟨vs, hq, rs⟩ := P2.sto.list (ds := ds) (.inl h1) hl
        obtain ⟨us, hq', rs'⟩ := P2.sto.list (ds := es) (.inl h2) hm
        exact ⟨A, B, vs, us, rfl, .inl ⟨hq, hq', WP.ok P2.sto w2 (Itz X.K A B) (wlk_zipL hl hm)⟩⟩
      · exact w2.elim
    | _ => exact w2.elim
  | _ =>
    cases r' <;> exact w2.elim
theorem wlk_range3 {K : PySem.W.Frag} {μ : Mu} {H : Hp} {lo c : Int} {n : Nat} : Wlk K F μ H ⟨range3L lo c n, []⟩ (Itc lo c n) := by
  intro s2 μ2 H2 P _
  have hl : (range3L lo c n).length = n := by simp [range3L]
  simp only [hl]
  refine ⟨fun i hi => hi, Nat.le_refl _, fun i x H3 hi y => ?_⟩
  obtain ⟨rfl, rfl⟩ := y
  exact ⟨_, by simp [range3L, hi], .refl P.sto, .int _⟩
theorem pi_rng3N {tg a b c : Expr} {f g h : Env → Store → R D} {p pos : Pos} (hg : Gl X "range") (hm : X.mg "range" = none) (ha : PE X a (tE X.K F f)) (hb : PE X b (tE X.K F g)) (hc : PE X c (tE X.K F h)) (hs1 : starEach [a, b, c] X.env = (false, eval a X.env) :: starEach [b, c] X.env) (hs : starEach [b, c] X.env = [(false, eval b X.env), (false, eval c X.env)]) (hs2 : starEach [c] X.env = [(false, eval c X.env)]) :
    PI X tg (.Call (.Name "range" p) [a, b, c] [] pos) (tIt X.K F fun ρ st => (f ρ st).bind fun x s => (g ρ s).bind fun y s => (h ρ s).bind fun z s => wkRng3 x y z s) := by
  have e1 : starEach [b, c] X.env = (false, eval b X.env) :: starEach [c] X.env := by rw [hs, hs2]
  refine impI (pi_range3 hg hm (pa_cons ha (pa_cons hb (pa_cons hc pa_nil hs2) e1) hs1) hs1 (by rw [hs]; rfl)) fun σ H R h => ?_
  obtain ⟨μ, ρ, st, S, w⟩ := h
  refine ⟨μ, ρ, st, S, w.bind.mono fun d s μ1 H1 P1 w1 v r => ?_⟩
  refine ⟨μ1, ρ, s, S.post P1, w1.bind.mono fun d' s' μ2 H2 P2 w2 v' r' => ?_⟩
  refine ⟨μ2, ρ, s', (S.post P1).post P2, w2.bind.mono fun d3 s3 μ3 H3 P3 w3 v3 r3 => ?_⟩
  have r := (r.post P2).post P3
  have r' := r'.post P3
  cases r with
  | int i =>
    cases r' with
    | int j =>
      cases r3 with
      | int k =>
        simp only [wkRng3] at w3
        obtain ⟨hb, w3⟩ := w3.grd
        simp only [Bool.and_eq_true, decide_eq_true_eq] at hb
        obtain ⟨b1, b2, b3⟩ := hb
        have hn : Builtin.Range.rangeSize i j k = ((Builtin.Range.rangeSize i j k).toNat : Int) := by
          have : 0 ≤ Builtin.Range.rangeSize i j k := by
            unfold Builtin.Range.rangeSize
            split
            · split
              · have := Int.ediv_nonneg (a := j - i - 1) (b := k) (by omega) (by omega); omega
              · omega
            · split
              · have := Int.ediv_nonneg (a := i - j - 1) (b := -k) (by omega) (by omega); omega
              · omega
          omega
        exact ⟨i, j, k, _, rfl, ⟨b1, b2, b3, hn⟩, WP.ok P3.sto w3 _ wlk_range3⟩
      | _ => exact w3.elim
    | _ => exact w3.elim
  | _ => exact w3.elim
/-! ### an unpacked item of a display; bit_length -/
theorem splA {a : Expr} {es : List Expr} {f : Env → Store → R D} {k : Env → Store → R (List D)} {p : Pos} (ha : PE X a (tE X.K F f)) (hb : PA X es (tAs X.K F k)) :
    PA X (.Starred a p :: es) (tAs X.K F fun ρ st => (f ρ st).bind fun x s => (seqR x s).bind fun ds s => (k ρ s).bind fun xs s => .ok (ds ++ xs) s) :=
  impA (StX.pa_star ha hb (by rfl)) fun σ H Q w => by
    obtain ⟨μ, ρ, st, S, w⟩ := w
    refine ⟨μ, ρ, st, S, w.bind.mono fun d s μ1 H1 P1 w1 v rv => ?_⟩
    unfold seqR at w1
    cases h1 : seqW d s with
    | none => rw [h1] at w1; exact w1.elim
    | some ds =>
      rw [h1] at w1
      simp only [R.bind_ok] at w1
      obtain ⟨a, vs, rfl, hq, re⟩ := seqW_ok P1.sto rv h1
      refine ⟨a, vs, rfl, hq.symm, μ1, ρ, s, S.post P1, w1.bind.mono fun es s2 μ2 H2 P2 w2 us rs => ?_⟩
      exact WP.ok P2.sto w2 _ ((re.post P2).append rs)
theorem bitsE {a : Expr} {f : Env → Store → R D} {apos pos : Pos} (ha : PE X a (tE X.K F f)) (hb : attributeBase a "bit_length" X.env (eval a X.env) = eval a X.env) (hline : (apos.endLine == pos.line) = true) :
    PE X (.Call (.Attribute a "bit_length" apos) [] [] pos) (tE X.K F fun ρ st => ((f ρ st).bind fun x s => .ok [x] s).bind fun ds s => b1 biBits ds s) :=
  impE (pe_bits ha hb hline) fun σ H Q w => by
    obtain ⟨μ, ρ, st, S, w⟩ := w
    simp only [R.bind_assoc, R.bind_ok] at w
    refine ⟨μ, ρ, st, S, w.bind.mono fun d s μ1 H1 P1 w1 v rv => ?_⟩
    cases rv with
    | int i => exact ⟨i, rfl, WP.ok P1.sto w1 _ (.int _)⟩
    | _ => exact w1.elim
end
end Nz
namespace Nz
open PySem L2 PyProof.Rows
/-! ### what is forgotten behind a call -/
section
variable {K : PySem.W.Frag} {F : Nm} {μ μ' : Mu} {H H' : Hp} {st s : Store}
mutual
theorem Rp.closed : ∀ {d : D} {v : V}, Rp K μ H d v → D.cl μ.length d = true
  | _, _, .non => by simp only [D.cl]
  | _, _, .bl _ => by simp only [D.cl]
  | _, _, .int _ => by simp only [D.cl]
  | _, _, .str _ => by simp only [D.cl]
  | _, _, .tup _ r => by simp only [D.cl]; exact Rps.closed r
  | _, _, .wt _ r => by simp only [D.cl]; exact Rps.closed r
  | _, _, .ref h => by
    simp only [D.cl, decide_eq_true_eq]
    exact (List.getElem?_eq_some_iff.mp h).1
theorem Rps.closed : ∀ {d : List D} {v : List V}, Rps K μ H d v → D.cls μ.length d = true
  | _, _, .nil => by simp only [D.cls]
  | _, _, .cons h t => by simp only [D.cls, Bool.and_eq_true]; exact ⟨Rp.closed h, Rps.closed t⟩
end
mutual
theorem Rp.low (p : μ <+: μ') : ∀ {d : D} {v : V}, Rp K μ' H d v → D.cl μ.length d = true → Rp K μ H d v
  | _, _, .non, _ => .non
  | _, _, .bl _, _ => .bl _
  | _, _, .int _, _ => .int _
  | _, _, .str _, _ => .str _
  | .tup ds, _, .tup h r, c => .tup h (Rps.low p r (by simpa only [D.cl] using c))
  | .wt ds, _, .wt h r, c => .wt h (Rps.low p r (by simpa only [D.cl] using c))
  | .ref l, _, .ref h, c => by
    simp only [D.cl, decide_eq_true_eq] at c
    obtain ⟨t, rfl⟩ := p
    rw [List.getElem?_append_left c] at h
    exact .ref h
theorem Rps.low (p : μ <+: μ') : ∀ {d : List D} {v : List V}, Rps K μ' H d v → D.cls μ.length d = true → Rps K μ H d v
  | _, _, .nil, _ => .nil
  | d :: ds, _, .cons h t, c => by
    simp only [D.cls, Bool.and_eq_true] at c
    exact .cons (Rp.low p h c.1) (Rps.low p t c.2)
end
theorem RpF.closed : ∀ {fs : List (Nat × D)} {fv : List (Str × V)}, RpF K F μ H fs fv → D.cls μ.length (fs.map (·.2)) = true
  | _, _, .nil => by simp only [List.map_nil, D.cls]
  | _, _, .cons h t => by simp only [List.map_cons, D.cls, Bool.and_eq_true]; exact ⟨h.2.closed, RpF.closed t⟩
theorem RpF.low (p : μ <+: μ') : ∀ {fs : List (Nat × D)} {fv : List (Str × V)}, RpF K F μ' H fs fv → D.cls μ.length (fs.map (·.2)) = true → RpF K F μ H fs fv
  | _, _, .nil, _ => .nil
  | f :: fs, _, .cons h t, c => by
    simp only [List.map_cons, D.cls, Bool.and_eq_true] at c
    exact .cons ⟨h.1, h.2.low p c.1⟩ (RpF.low p t c.2)
theorem keyD_cl (n : Nat) (k : L2.Key) : D.cl n (keyD k) = true := by cases k <;> simp only [keyD, D.cl]
theorem keysD_cl (n : Nat) (k : List L2.Key) : D.cl n (keysD k) = true := by
  simp only [keysD, D.cl]
  induction k with
  | nil => simp only [List.map_nil, D.cls]
  | cons a l ih => simp only [List.map_cons, D.cls, keyD_cl, ih, Bool.and_self]
theorem RpD.closed {κ : Type} {kd : κ → D} (hk : ∀ n k, D.cl n (kd k) = true) : ∀ {fs : List (D × D)} {fv : List (κ × V)}, RpD kd K μ H fs fv → D.cls μ.length (fs.map (·.1)) = true ∧ D.cls μ.length (fs.map (·.2)) = true
  | _, _, .nil => by simp only [List.map_nil, D.cls, and_self]
  | _, _, .cons h t => by
    obtain ⟨h1, h2⟩ := RpD.closed hk t
    simp only [List.map_cons, D.cls, Bool.and_eq_true]
    exact ⟨⟨by rw [h.1]; exact hk _ _, h1⟩, ⟨h.2.closed, h2⟩⟩
theorem RpD.low {κ : Type} {kd : κ → D} (p : μ <+: μ') : ∀ {fs : List (D × D)} {fv : List (κ × V)}, RpD kd K μ' H fs fv → D.cls μ.length (fs.map (·.2)) = true → RpD kd K μ H fs fv
  | _, _, .nil, _ => .nil
  | f :: fs, _, .cons h t, c => by
    simp only [List.map_cons, D.cls, Bool.and_eq_true] at c
    exact .cons ⟨h.1, h.2.low p c.1⟩ (RpD.low p t c.2)
theorem RpH.closed {a : Addr} {o : O} (r : RpH K F μ H a o) : O.cl μ.length o = true := by
  cases o with
  | lst ds => obtain ⟨_, _, r⟩ := r; exact r.closed
  | frz ds => obtain ⟨_, _, _, r⟩ := r; exact r.closed
  | ins c fs => obtain ⟨_, _, _, _, _, r⟩ := r; exact RpF.closed r
  | dct t kvs =>
    simp only [O.cl, Bool.and_eq_true]
    cases t with
    | false => obtain ⟨_, _, r⟩ := r; exact r.closed keyD_cl
    | true => obtain ⟨_, _, r⟩ := r; exact r.closed keysD_cl
  | dlk t kvs =>
    simp only [O.cl, Bool.and_eq_true]
    cases t with
    | false => obtain ⟨_, _, _, r⟩ := r; exact r.closed keyD_cl
    | true => obtain ⟨_, _, _, r⟩ := r; exact r.closed keysD_cl
theorem RpK.closed {a : Addr} {o : O} (r : RpK K μ H a o) : O.cl μ.length o = true := by
  cases o with
  | frz ds => obtain ⟨_, _, _, _, _, _, _, _, _, _, r⟩ := r; exact r.closed
  | _ => exact r.elim
theorem RpH.low (p : μ <+: μ') {a : Addr} {o : O} (r : RpH K F μ' H a o) (c : O.cl μ.length o = true) : RpH K F μ H a o := by
  cases o with
  | lst ds => obtain ⟨vs, h, r⟩ := r; exact ⟨vs, h, r.low p c⟩
  | frz ds => obtain ⟨ob, vs, h, r⟩ := r; exact ⟨ob, vs, h, r.low p c⟩
  | ins k fs => obtain ⟨C, dx, fv, h1, h2, r⟩ := r; exact ⟨C, dx, fv, h1, h2, RpF.low p r c⟩
  | dct t kvs =>
    simp only [O.cl, Bool.and_eq_true] at c
    cases t with
    | false => obtain ⟨kv, h, r⟩ := r; exact ⟨kv, h, r.low p c.2⟩
    | true => obtain ⟨kv, h, r⟩ := r; exact ⟨kv, h, r.low p c.2⟩
  | dlk t kvs =>
    simp only [O.cl, Bool.and_eq_true] at c
    cases t with
    | false => obtain ⟨od, kv, h, r⟩ := r; exact ⟨od, kv, h, r.low p c.2⟩
    | true => obtain ⟨od, kv, h, r⟩ := r; exact ⟨od, kv, h, r.low p c.2⟩
theorem RpK.low (p : μ <+: μ') {a : Addr} {o : O} (r : RpK K μ' H a o) (c : O.cl μ.length o = true) : RpK K μ H a o := by
  cases o with
  | frz ds => obtain ⟨vs, o, its, n, q1, q2, q3, q4, q5, q6, r⟩ := r; exact ⟨vs, o, its, n, q1, q2, q3, q4, q5, q6, r.low p c⟩
  | _ => exact r.elim
theorem Sto.closed (S : Sto K F μ st H) {l : Nat} {o : O} (h : st[l]? = some o) : O.cl μ.length o = true := by
  obtain ⟨a, b, _, r⟩ := S.addr h
  rcases r with r | r
  · exact r.closed
  · exact r.closed
theorem pfx_get {n : Nat} : ∀ {st s : Store}, pfx n st s = true → ∀ {l : Nat} {o : O}, st[l]? = some o → ∃ p, s[l]? = some p ∧ (o = p ∨ O.cl n p = true)
  | [], _, _, l, o, e => by simp at e
  | _ :: _, [], h, _, _, _ => by simp [pfx] at h
  | o :: os, p :: ps, h, 0, q, e => by
    simp only [pfx, Bool.and_eq_true, Bool.or_eq_true] at h
    simp at e; subst e
    refine ⟨p, rfl, ?_⟩
    rcases h.1 with h | h
    · exact .inl (O.beq_eq h)
    · exact .inr h
  | o :: os, p :: ps, h, l + 1, q, e => by
    simp only [pfx, Bool.and_eq_true] at h
    simpa using pfx_get h.2 (l := l) (by simpa using e)
theorem pfx_len {n : Nat} : ∀ {st s : Store}, pfx n st s = true → st.length ≤ s.length
  | [], _, _ => Nat.zero_le _
  | _ :: _, [], h => by simp [pfx] at h
  | o :: os, p :: ps, h => by
    simp only [pfx, Bool.and_eq_true] at h
    exact Nat.succ_le_succ (pfx_len h.2)
/-- the first places alone -/
theorem Sto.cutS (S : Sto K F μ st H) (P : Post K F μ H s μ' H') (h : pfx st.length st s = true) : Sto K F μ (s.take st.length) H' := by
  have hlen := pfx_len h
  have in_ : ∀ {l : Nat} {o : O}, (s.take st.length)[l]? = some o → l < st.length ∧ s[l]? = some o := fun {l o} e => by
    rw [List.getElem?_take] at e
    split at e
    · exact ⟨by assumption, e⟩
    · cases e
  have hc : ∀ {l : Nat} {o : O}, l < st.length → s[l]? = some o → O.cl μ.length o = true := fun {l o} hl e => by
    obtain ⟨p, hp, hq⟩ := pfx_get h (l := l) (o := st[l]) (by simp [hl])
    rw [e] at hp
    cases hp
    rcases hq with hq | hq
    · rw [← hq]; exact S.closed (l := l) (by simp [hl])
    · rw [S.len]; exact hq
  refine ⟨by rw [List.length_take, Nat.min_eq_left hlen, S.len], fun l o a e1 e2 => ?_, fun l o a e1 e2 => ?_, S.inj⟩
  · obtain ⟨hl, e⟩ := in_ e1
    exact (P.sto.at_ l o a e (pre_get P.pre e2)).low P.pre (hc hl e)
  · obtain ⟨hl, e⟩ := in_ e1
    exact (P.sto.atk l o a e (pre_get P.pre e2)).low P.pre (hc hl e)
theorem gc_ok {r : R D} {Q : VK} (S : Sto K F μ st H) (w : WP K F μ H (gc st r) (VQ K Q)) : WP K F μ H r (VQ K Q) := by
  cases r with
  | no => exact w
  | ok d s =>
    unfold gc at w
    simp only at w
    split at w
    · rename_i hp
      split at w
      · rename_i hc
        intro μ' H' P v rv
        have S' := S.cutS P hp
        refine w μ H' ⟨List.prefix_refl _, P.frm, fun a h n => absurd h n, S'⟩ v (rv.low P.pre (by rw [S.len]; exact hc))
      · rename_i hc
        split at w
        · rename_i l
          split at w
          · rename_i o ho
            split at w
            · rename_i hoc
              intro μ' H' P v rv
              have S' := S.cutS P hp
              cases rv with
              | @ref _ a b hl =>
                have hln : st.length ≤ l := by
                  simp only [D.cl, decide_eq_true_eq] at hc
                  omega
                have hlen := pfx_len hp
                have tl : (s.take st.length).length = st.length := by rw [List.length_take, Nat.min_eq_left hlen]
                have hoc' : O.cl μ.length o = true := by rw [S.len]; exact hoc
                have cs : ∀ {m : Nat} {q : O}, (s.take st.length ++ [o])[m]? = some q → (m < st.length ∧ (s.take st.length)[m]? = some q) ∨ (m = st.length ∧ q = o) := fun {m q} e1 => by
                  by_cases hm : m < st.length
                  · rw [List.getElem?_append_left (by rw [tl]; exact hm)] at e1
                    exact .inl ⟨hm, e1⟩
                  · have hm' : m = st.length := by
                      have := (List.getElem?_eq_some_iff.mp e1).1
                      rw [List.length_append, tl] at this
                      simp at this; omega
                    subst hm'
                    rw [List.getElem?_append_right (by rw [tl]; exact Nat.le_refl _), tl] at e1
                    simp at e1
                    exact .inr ⟨rfl, e1.symm⟩
                have cm : ∀ {m : Nat} {c : Addr × Bool}, (μ ++ [(a, b)])[m]? = some c → (m < st.length ∧ μ[m]? = some c) ∨ (m = st.length ∧ c = (a, b)) := fun {m c} e1 => by
                  by_cases hm : m < st.length
                  · rw [List.getElem?_append_left (by rw [S.len]; exact hm)] at e1
                    exact .inl ⟨hm, e1⟩
                  · have hm' : m = st.length := by
                      have := (List.getElem?_eq_some_iff.mp e1).1
                      rw [List.length_append, S.len] at this
                      simp at this; omega
                    subst hm'
                    rw [List.getElem?_append_right (by rw [S.len]; exact Nat.le_refl _), S.len] at e1
                    simp at e1
                    exact .inr ⟨rfl, e1.symm⟩
                refine w (μ ++ [(a, b)]) H' ⟨List.prefix_append _ _, P.frm, fun c h n => ?_, ⟨by simp [S'.len], fun m q c e1 e2 => ?_, fun m q c e1 e2 => ?_, fun m m' c e1 e2 => ?_⟩⟩ _ (.ref (b := b) (by rw [← S.len]; simp))
                · rcases List.mem_append.mp h with h | h
                  · exact absurd h n
                  · have e := List.mem_singleton.mp h
                    cases e
                    exact P.new a (List.mem_iff_getElem?.mpr ⟨l, hl⟩) n
                · rcases cs e1 with ⟨k1, k2⟩ | ⟨k1, k2⟩ <;> rcases cm e2 with ⟨j1, j2⟩ | ⟨j1, j2⟩
                  · exact (S'.at_ m q _ k2 j2).keep (List.prefix_append _ _) (fun _ _ h => h) (fun _ _ _ h => h) rfl
                  · omega
                  · omega
                  · cases j2
                    subst k2
                    exact ((P.sto.at_ l q a ho hl).low P.pre hoc').keep (List.prefix_append _ _) (fun _ _ h => h) (fun _ _ _ h => h) rfl
                · rcases cs e1 with ⟨k1, k2⟩ | ⟨k1, k2⟩ <;> rcases cm e2 with ⟨j1, j2⟩ | ⟨j1, j2⟩
                  · exact (S'.atk m q c k2 j2).keep (List.prefix_append _ _) (fun _ _ h => h) (fun _ _ _ h => h)
                  · omega
                  · omega
                  · cases j2
                    subst k2
                    exact ((P.sto.atk l q a ho hl).low P.pre hoc').keep (List.prefix_append _ _) (fun _ _ h => h) (fun _ _ _ h => h)
                · rcases cm e1 with ⟨k1, k2⟩ | ⟨k1, k2⟩ <;> rcases cm e2 with ⟨j1, j2⟩ | ⟨j1, j2⟩
                  · exact S.inj m m' c k2 j2
                  · cases j2
                    have := P.sto.inj m l _ (pre_get P.pre k2) hl
                    omega
                  · cases k2
                    have := P.sto.inj m' l _ (pre_get P.pre j2) hl
                    omega
                  · omega
            · exact w
          · exact w
        · exact w
    · exact w
end
end Nz
namespace Nz
open PySem L2 PyProof.Rows
/-! ### expressions -/
def spOf (K : PySem.W.Frag) (F : Nm) (g : List D → Store → R D) : Sp := fun vs H Q _ => ∃ μ st ds, Sto K F μ st H ∧ Rps K μ H ds vs ∧ WP K F μ H (g ds st) (VQ K Q)
/-- a def with one keyword-only parameter, its last -/
def KwOk (X : Cx) (F : Nm) (call : Nat → List D → Store → R D) (x : Str) (i : Nat) (kn : Str) (d : Option D) : Prop :=
  ∃ (f : Addr) (fd : FuncData) (ps : List Str) (k n : Nat), X.mg x = some (.ref f) ∧ PySem.W.keepIn X.K (.ref f) = true ∧ Room k X.A ∧ FnOk X.prog X.w X.K X.mg X.base CX0 k f fd ps (spOf X.K F (call i)) ∧ KBn X.K fd ps n [kn] (fun us ws => us ++ ws) (fun vs zs => vs ++ zs) ∧ ps.length = n + 1 ∧
    ∀ d', d = some d' → ∃ (u : Value) (v : V), Binds X.K fd ps [u] ∧ RelV v u ∧ ∀ μ H, Rp X.K μ H d' v
/-- what is known where a translated text runs -/
structure Ok (X : Cx) (F : Nm) (T : Tab) (G : Ctx) (call : Nat → List D → Store → R D) : Prop where
  calm : X.calm = true
  nd : X.N.Nodup
  hN : X.N = T.N
  hu : X.A.units + 64 < cLine
  fns : ∀ (x : Str) (i : Nat), T.fns.lookup x = some i → ∃ (f : Addr) (fd : FuncData) (ps : List Str) (k : Nat), X.mg x = some (.ref f) ∧ PySem.W.keepIn X.K (.ref f) = true ∧ Room k X.A ∧ FnOk X.prog X.w X.K X.mg X.base CX0 k f fd ps (spOf X.K F (call i)) ∧ Binds X.K fd ps []
  cls : ∀ (x : Str) (c : Nat), T.cls.lookup x = some c → ∃ C, F.cls c = some C ∧ X.mg x = some (.ref C)
  cons : ∀ (x : Str) (d : D), T.cons.lookup x = some d → ∃ (u : Value) (v : V), X.mg x = some u ∧ RelV v u ∧ ∀ μ H, Rp X.K μ H d v
  free : ∀ x ∈ T.free, X.mg x = none
  kit : Kit X.K F
  fld : F.fld = T.fld
  fnd : T.fld.Nodup
  noat : ∀ (c : Nat) (C : Addr) (x : Str), F.cls c = some C → x ∈ T.fld → NoAttr X.K C x
  mth : ∀ (m : Nat) (x : Str) (c i : Nat), T.mth[m]? = some x → atOf G.meth m c = some i → x ∉ T.fld ∧ ∃ (C f : Addr) (fd : FuncData) (ps : List Str) (k : Nat), F.cls c = some C ∧ Meth X.K C x f ∧ Room k X.A ∧ FnOk X.prog X.w X.K X.mg X.base CX0 k f fd ps (spOf X.K F (call i)) ∧ Binds X.K fd ps []
  prp : ∀ (m : Nat) (x : Str) (c i : Nat), T.prp[m]? = some x → atOf G.prop m c = some i → ∃ (C p f : Addr) (fd : FuncData) (ps : List Str) (k : Nat), F.cls c = some C ∧ PropOf X.K C x p f ∧ Room (k + 1) X.A ∧ FnOk X.prog X.w X.K X.mg X.base CX0 k f fd ps (spOf X.K F (call i)) ∧ Binds X.K fd ps []
  mks : ∀ (x : Str) (c i : Nat), T.cls.lookup x = some c → G.init[c]? = some (some i) → ∃ (C f : Addr) (fd : FuncData) (ps : List Str) (k : Nat), F.cls c = some C ∧ Mk X.K C f ∧ Room (k + 1) X.A ∧ FnOk X.prog X.w X.K X.mg X.base CX0 k f fd ps (spOf X.K F (call i)) ∧ Binds X.K fd ps []
  kfs : ∀ (x : Str) (i : Nat) (kn : Str) (d : Option D), T.kfs.lookup x = some (i, kn, d) → KwOk X F call x i kn d
section
variable {X : Cx} {F : Nm} {T : Tab} {G : Ctx} {call : Nat → List D → Store → R D}
theorem Ok.blk (o : Ok X F T G call) (s : Shared) (H : Hp) (scope : Scope) (ce : PySem.Env) (fp : List Addr) : Ok (X.blk s H scope ce fp) F T G call :=
  ⟨o.calm, o.nd, o.hN, o.hu, o.fns, o.cls, o.cons, o.free, o.kit, o.fld, o.fnd, o.noat, o.mth, o.prp, o.mks, o.kfs⟩
theorem ixOf_ok {x : Str} : ∀ {l : List Str} {i : Nat}, ixOf x l = some i → l[i]? = some x
  | y :: ys, i, h => by
    simp only [ixOf] at h
    split at h
    · rename_i e; cases h; simp [e]
    · split at h
      · rename_i e
        cases h
        simpa using ixOf_ok e
      · cases h
theorem isVis_ok {sc : Scope} {x : Str} (h : isVis sc x = true) : Vis sc x := by
  unfold isVis at h
  unfold Vis
  split at h
  · exact .inl (by assumption)
  · exact .inr (.inl (by assumption))
  · exact .inr (.inr (by assumption))
  · cases h
theorem isLoc_ok {sc : Scope} {x : Str} (h : isLoc sc x = true) : L2.Loc sc x := by
  unfold isLoc at h
  unfold L2.Loc
  split at h
  · exact .inl (by assumption)
  · exact .inr (by assumption)
  · cases h
theorem isGl_ok {X : Cx} {x : Str} (h : isGl X.env.scope x = true) : Gl X x ∧ (x == ("__debug__" : Str)) = false := by
  unfold isGl at h
  split at h
  · refine ⟨by assumption, ?_⟩
    have : ¬ x = ("__debug__" : Str) := by simpa using h
    simpa using this
  · cases h
theorem isFree_ok (o : Ok X F T G call) {x : Str} (h : isFree T X.env.scope x = true) : Gl X x ∧ (x == ("__debug__" : Str)) = false ∧ X.mg x = none := by
  unfold isFree at h
  rw [Bool.and_eq_true] at h
  obtain ⟨h1, h2⟩ := isGl_ok h.1
  obtain ⟨y, hy, e⟩ := List.any_eq_true.mp h.2
  rw [← of_decide_eq_true e]
  exact ⟨by rw [of_decide_eq_true e]; exact h1, by rw [of_decide_eq_true e]; exact h2, o.free y hy⟩
theorem var_ok (o : Ok X F T G call) {x : Str} {i : Nat} {pos : Pos} (h : trVar T X.env.scope x = some i) : PE X (.Name x pos) (tE X.K F fun ρ st => R.ofO (ρ[i]?.join) st) := by
  unfold trVar at h
  split at h
  · rename_i hb
    simp only [Bool.and_eq_true, Bool.not_eq_true', Bool.or_eq_false_iff, decide_eq_false_iff_not] at hb
    have hx : ¬ x = ("__debug__" : Str) := hb.2.1
    have hy : ¬ x = ("__classdict__" : Str) := hb.2.2
    refine impE (pe_var (i := i) (by rw [o.hN]; exact ixOf_ok h) (isVis_ok hb.1) (by simpa using hx) (by simpa using hy)) fun σ H Q w => ?_
    obtain ⟨μ, ρ, st, S, w⟩ := w
    have w : WP X.K F μ H (R.ofO (ρ[i]?.join) st) (VQ X.K Q) := w
    cases e : ρ[i]? with
    | none => rw [e] at w; exact w.elim
    | some d =>
      cases d with
      | none => rw [e] at w; exact w.elim
      | some d =>
        rw [e] at w
        obtain ⟨v, h1, r⟩ := S.env i d e
        exact ⟨v, h1, WP.ok S.sto w v r⟩
  · cases h
theorem con_ok {c : Const} {d : D} {k : Nat} {pos : Pos} (h : (match c with
      | .none => some (E.con .non)
      | .bool b => some (.con (.bl b))
      | .int i => some (.con (.int i))
      | .str s => some (.con (.str s))
      | _ => none) = some (E.con d)) : PE X (.Constant c k pos) (tE X.K F fun _ st => .ok d st) := by
  cases c <;> simp only [Option.some.injEq, E.con.injEq, reduceCtorEq] at h <;> subst h
  · exact impE pe_non fun σ H Q ⟨μ, ρ, st, S, w⟩ => WP.ok S.sto w _ .non
  · exact impE pe_bl fun σ H Q ⟨μ, ρ, st, S, w⟩ => WP.ok S.sto w _ (.bl _)
  · exact impE pe_int fun σ H Q ⟨μ, ρ, st, S, w⟩ => WP.ok S.sto w _ (.int _)
  · exact impE pe_str fun σ H Q ⟨μ, ρ, st, S, w⟩ => WP.ok S.sto w _ (.str _)
/-! the parts put together -/
section
variable {a b c : Expr} {f g h : Env → Store → R D} {pos : Pos}
/-- two values, one after another -/
theorem two_ok {K : PySem.W.Frag} {j : D → D → Store → R D} {r : R2} (hr : ∀ x y H Q, rD K F j x y H Q → r x y H Q) {σ : L2.St} {H : Hp} {Q : VK} (w : tE K F (fun ρ st => (f ρ st).bind fun x s => (g ρ s).bind fun y s => j x y s) σ H Q) :
    tOp r (tE K F f) (tE K F g) σ H Q := by
  obtain ⟨μ, ρ, st, S, w⟩ := w
  refine ⟨μ, ρ, st, S, w.bind.mono fun d s μ1 H1 P1 w1 v rv => ?_⟩
  refine ⟨μ1, ρ, s, S.post P1, w1.bind.mono fun e s2 μ2 H2 P2 w2 u ru => ?_⟩
  exact hr _ _ _ _ ⟨μ2, s2, d, e, P2.sto, rv.post P2, ru, w2⟩
theorem one_ok {K : PySem.W.Frag} {j : D → Store → R D} {r : V → Hp → VK → Prop} (hr : ∀ (μ : Mu) (st : Store) (d : D) (v : V) (H : Hp) (Q : VK), Sto K F μ st H → Rp K μ H d v → WP K F μ H (j d st) (VQ K Q) → r v H Q) {σ : L2.St} {H : Hp} {Q : VK} (w : tE K F (fun ρ st => (f ρ st).bind fun x s => j x s) σ H Q) :
    tE K F f σ H fun v H1 => r v H1 Q := by
  obtain ⟨μ, ρ, st, S, w⟩ := w
  exact ⟨μ, ρ, st, S, w.bind.mono fun d s μ1 H1 P1 w1 v rv => hr _ _ _ _ _ _ P1.sto rv w1⟩
theorem binE {op : Operator} {o : BinO} (ho : trBin op = some o) (ha : PE X a (tE X.K F f)) (hb : PE X b (tE X.K F g)) : PE X (.BinOp a op b pos) (tE X.K F fun ρ st => (f ρ st).bind fun x s => (g ρ s).bind fun y s => binop o x y s) :=
  impE (pe_op (bin_ok (F := F) ho) ha hb) fun σ H Q w => two_ok (fun _ _ _ _ z => z) w
theorem negE (ha : PE X a (tE X.K F f)) : PE X (.UnaryOp .USub a pos) (tE X.K F fun ρ st => (f ρ st).bind fun x s => (match x with
    | .int i => .ok (.int (-i)) s
    | _ => .no)) :=
  impE (pe_un un_neg ha) fun σ H Q w => one_ok (r := rU fun i => .int (-i)) (fun μ st d v H Q S r w => by
    cases r with
    | int i => exact ⟨i, rfl, WP.ok (Φ := VQ X.K Q) S w _ (.int (-i))⟩
    | _ => exact w.elim) w
theorem notE (ha : PE X a (tE X.K F f)) : PE X (.UnaryOp .Not a pos) (tE X.K F fun ρ st => (f ρ st).bind fun x s => (match x with
    | .bl b => .ok (.bl (!b)) s
    | _ => .no)) :=
  impE (pe_not ha) fun σ H Q w => one_ok (r := fun x H Q => ∃ c, x = .bl c ∧ Q (.bl (!c)) H) (fun μ st d v H Q S r w => by
    cases r with
    | bl i => exact ⟨i, rfl, WP.ok S w _ (.bl _)⟩
    | _ => exact w.elim) w
theorem cmpE (hu : X.A.units + 64 < cLine) {op : CmpOp} (ha : PE X a (tE X.K F f)) (hb : PE X b (tE X.K F g)) (hm : behindInMarks op b = false) : PE X (.Compare a [op] [b] pos) (tE X.K F fun ρ st => (f ρ st).bind fun x s => (g ρ s).bind fun y s => cmpop (trCmp op) x y s) :=
  impE (pe_cmpR (cmp_ok (F := F) hu op) ha hb hm) fun σ H Q w => two_ok (fun _ _ _ _ z => z) w
theorem asB_bl {K : PySem.W.Frag} {μ : Mu} {H : Hp} {r : R D} {Q : Bool → Hp → Prop} (h : ∀ d s, r = .ok d s → ∃ b, d = .bl b) (w : WP K F μ H (r.bind fun d s => R.asB d s) fun b _ _ H' => Q b H') : WP K F μ H r (VQ K fun x H' => ∃ k, x = .bl k ∧ Q k H') := by
  cases r with
  | no => exact w
  | ok d s =>
    obtain ⟨b, rfl⟩ := h d s rfl
    intro μ' H' P v r
    cases r
    exact ⟨b, rfl, w μ' H' P⟩
theorem ofB_bl {o : Option Bool} {st s : Store} {d : D} (h : R.ofB o st = .ok d s) : ∃ b, d = .bl b := by
  cases o with
  | none => cases h
  | some b => cases h; exact ⟨b, rfl⟩
theorem cmpop_bl {o : CmpO} {x y d : D} {st s : Store} (h : cmpop o x y st = .ok d s) : ∃ b, d = .bl b := by
  unfold cmpop at h
  split at h
  · exact ofB_bl h
  · exact ofB_bl h
  · split at h
    · exact ofB_bl h
    · split at h
      · exact ofB_bl h
      · cases h
    · cases h
  · split at h
    · exact ofB_bl h
    · split at h
      · exact ofB_bl h
      · cases h
    · cases h
  · exact ofB_bl h
  · exact ofB_bl h
  · split at h
    · exact ofB_bl h
    · split at h
      · exact ofB_bl h
      · cases h
    · cases h
theorem cmpT (hu : X.A.units + 64 < cLine) {op : CmpOp} (ha : PE X a (tE X.K F f)) (hb : PE X b (tE X.K F g)) (hm : behindInMarks op b = false) : PT X (.Compare a [op] [b] pos) (tCo X.K F fun ρ st => ((f ρ st).bind fun x s => (g ρ s).bind fun y s => cmpop (trCmp op) x y s).bind fun d s => R.asB d s) :=
  impT (pt_cmpR (cmp_ok (F := F) hu op) ha hb hm) fun σ H Q w => by
    obtain ⟨μ, ρ, st, S, w⟩ := w
    refine two_ok (j := cmpop (trCmp op)) (F := F) (fun _ _ _ _ z => z) ⟨μ, ρ, st, S, asB_bl (fun d s e => ?_) w⟩
    cases hf : f ρ st with
    | no => simp only [hf, R.bind_no, reduceCtorEq] at e
    | ok x s1 =>
      simp only [hf, R.bind_ok] at e
      cases hg : g ρ s1 with
      | no => simp only [hg, R.bind_no, reduceCtorEq] at e
      | ok y s2 =>
        simp only [hg, R.bind_ok] at e
        exact cmpop_bl e
/-- a chain of two comparisons -/
abbrev chainR (o p : CmpO) (f g h : Env → Store → R D) : Env → Store → R D := fun ρ st => (f ρ st).bind fun x s => (g ρ s).bind fun y s => (cmpop o x y s).bind fun k s => (match k with
    | .bl true => (h ρ s).bind fun z s => cmpop p y z s
    | .bl false => .ok (.bl false) s
    | _ => .no)
theorem chain_ok {op op' : CmpOp} {σ : L2.St} {H : Hp} {Q : VK} (w : tE X.K F (chainR (trCmp op) (trCmp op') f g h) σ H Q) :
    tChain (rD X.K F (cmpop (trCmp op))) (rD X.K F (cmpop (trCmp op'))) (tE X.K F f) (tE X.K F g) (tE X.K F h) σ H Q := by
  obtain ⟨μ, ρ, st, S, w⟩ := w
  refine ⟨μ, ρ, st, S, w.bind.mono fun d s μ1 H1 P1 w1 v rv => ?_⟩
  refine ⟨μ1, ρ, s, S.post P1, w1.bind.mono fun e s2 μ2 H2 P2 w2 u ru => ?_⟩
  refine ⟨μ2, s2, d, e, P2.sto, rv.post P2, ru, w2.bind.mono fun k s3 μ3 H3 P3 w3 z rz => ?_⟩
  cases rz with
  | bl b =>
    refine ⟨b, rfl, ?_⟩
    cases b with
    | true =>
      rw [if_pos rfl]
      refine ⟨μ3, ρ, s3, (S.post P1).post (P2.trans P3), WP.mono (WP.bind w3) fun k2 s4 μ4 H4 P4 w4 z rz => ?_⟩
      exact ⟨μ4, s4, e, k2, P4.sto, (ru.post P3).post P4, rz, w4⟩
    | false =>
      rw [if_neg Bool.false_ne_true]
      exact WP.ok (Φ := VQ X.K Q) P3.sto w3 _ (.bl false)
  | _ => exact w3.elim
theorem chnE (hu : X.A.units + 64 < cLine) {op op' : CmpOp} (ha : PE X a (tE X.K F f)) (hb : PE X b (tE X.K F g)) (hc : PE X c (tE X.K F h)) (hm : lastMarks [op, op'] [b, c] = false) : PE X (.Compare a [op, op'] [b, c] pos) (tE X.K F (chainR (trCmp op) (trCmp op') f g h)) :=
  impE (pe_chain (cmp_ok (F := F) hu op) (cmp_ok (F := F) hu op') ha hb hc hm) fun σ H Q w => chain_ok w
theorem chainR_bl {o p : CmpO} {ρ : Env} {st s : Store} {d : D} (e : chainR o p f g h ρ st = .ok d s) : ∃ b, d = .bl b := by
  unfold chainR at e
  cases hf : f ρ st with
  | no => simp only [hf, R.bind_no, reduceCtorEq] at e
  | ok x s1 =>
    simp only [hf, R.bind_ok] at e
    cases hg : g ρ s1 with
    | no => simp only [hg, R.bind_no, reduceCtorEq] at e
    | ok y s2 =>
      simp only [hg, R.bind_ok] at e
      cases hk : cmpop o x y s2 with
      | no => simp only [hk, R.bind_no, reduceCtorEq] at e
      | ok k s3 =>
        simp only [hk, R.bind_ok] at e
        split at e
        · cases hh : h ρ s3 with
          | no => simp only [hh, R.bind_no, reduceCtorEq] at e
          | ok z s4 =>
            simp only [hh, R.bind_ok] at e
            exact cmpop_bl e
        · cases e; exact ⟨_, rfl⟩
        · cases e
theorem chnT (hu : X.A.units + 64 < cLine) {op op' : CmpOp} (ha : PE X a (tE X.K F f)) (hb : PE X b (tE X.K F g)) (hc : PE X c (tE X.K F h)) (hm : lastMarks [op, op'] [b, c] = false) : PT X (.Compare a [op, op'] [b, c] pos) (tCo X.K F fun ρ st => (chainR (trCmp op) (trCmp op') f g h ρ st).bind fun d s => R.asB d s) :=
  impT (pt_chain (cmp_ok (F := F) hu op) (cmp_ok (F := F) hu op') ha hb hc hm) fun σ H Q w => by
    obtain ⟨μ, ρ, st, S, w⟩ := w
    exact chain_ok ⟨μ, ρ, st, S, asB_bl (fun d s e => chainR_bl e) w⟩
/-- a value as a test -/
theorem valT (ha : PE X a (tE X.K F f)) (he : ∀ whole, isTrue a X.env whole = (do let v ← whole; standAt a.pos; holding [v] (truthy v))) : PT X a (tCo X.K F fun ρ st => (f ρ st).bind fun d s => R.asB d s) :=
  impT (pt_truth ha he) fun σ H Q w => by
    obtain ⟨μ, ρ, st, S, w⟩ := w
    refine ⟨μ, ρ, st, S, w.bind.mono fun d s μ1 H1 P1 w1 v rv => ?_⟩
    unfold R.asB at w1
    cases e : tru d s with
    | none => rw [e] at w1; exact w1.elim
    | some b =>
      rw [e] at w1
      exact ⟨b, tru_ok' P1.sto rv e, WP.ok P1.sto w1⟩
theorem andE {rest : List Expr} (ha : PE X a (tE X.K F f)) (hb : PE X (.BoolOp .And (b :: rest) pos) (tE X.K F g)) : PE X (.BoolOp .And (a :: b :: rest) pos) (tE X.K F fun ρ st => (f ρ st).bind fun x s => (match x with
    | .bl true => g ρ s
    | .bl false => .ok (.bl false) s
    | _ => .no)) :=
  impE (pe_and ha hb) fun σ H Q w => by
    obtain ⟨μ, ρ, st, S, w⟩ := w
    refine ⟨μ, ρ, st, S, w.bind.mono fun d s μ1 H1 P1 w1 v rv => ?_⟩
    cases rv with
    | bl b =>
      refine ⟨b, rfl, ?_⟩
      cases b with
      | true => rw [if_pos rfl]; exact ⟨μ1, ρ, s, S.post P1, w1⟩
      | false => rw [if_neg Bool.false_ne_true]; exact WP.ok (Φ := VQ X.K Q) P1.sto w1 _ (.bl false)
    | _ => exact w1.elim
theorem orE {rest : List Expr} (ha : PE X a (tE X.K F f)) (hb : PE X (.BoolOp .Or (b :: rest) pos) (tE X.K F g)) : PE X (.BoolOp .Or (a :: b :: rest) pos) (tE X.K F fun ρ st => (f ρ st).bind fun x s => (match x with
    | .bl true => .ok (.bl true) s
    | .bl false => g ρ s
    | _ => .no)) :=
  impE (pe_or ha hb) fun σ H Q w => by
    obtain ⟨μ, ρ, st, S, w⟩ := w
    refine ⟨μ, ρ, st, S, w.bind.mono fun d s μ1 H1 P1 w1 v rv => ?_⟩
    cases rv with
    | bl b =>
      refine ⟨b, rfl, ?_⟩
      cases b with
      | true => rw [if_pos rfl]; exact WP.ok (Φ := VQ X.K Q) P1.sto w1 _ (.bl true)
      | false => rw [if_neg Bool.false_ne_true]; exact ⟨μ1, ρ, s, S.post P1, w1⟩
    | _ => exact w1.elim
theorem iteE {fc : Env → Store → R Bool} (hc : PT X c (tCo X.K F fc)) (ha : PE X a (tE X.K F f)) (hb : PE X b (tE X.K F g)) : PE X (.IfExp c a b pos) (tE X.K F fun ρ st => (fc ρ st).bind fun k s => (match k with
    | true => f ρ s
    | false => g ρ s)) :=
  impE (pe_ifExp hc ha hb) fun σ H Q w => by
    obtain ⟨μ, ρ, st, S, w⟩ := w
    refine ⟨μ, ρ, st, S, w.bind.mono fun k s μ1 H1 P1 w1 => ?_⟩
    cases k with
    | true => rw [if_pos rfl]; exact ⟨μ1, ρ, s, S.post P1, w1⟩
    | false => rw [if_neg Bool.false_ne_true]; exact ⟨μ1, ρ, s, S.post P1, w1⟩
theorem notT {fc : Env → Store → R Bool} (hc : PT X c (tCo X.K F fc)) : PT X (.UnaryOp .Not c pos) (tCo X.K F fun ρ st => (fc ρ st).bind fun b s => .ok (!b) s) :=
  impT (pt_not hc) fun σ H Q w => by
    obtain ⟨μ, ρ, st, S, w⟩ := w
    exact ⟨μ, ρ, st, S, w.bind.mono fun k s μ1 H1 P1 w1 => WP.ok P1.sto w1⟩
theorem andT {rest : List Expr} {fa fb : Env → Store → R Bool} (ha : PT X a (tCo X.K F fa)) (hb : PW X (.BoolOp .And (b :: rest) pos) (tCo X.K F fb)) : PW X (.BoolOp .And (a :: b :: rest) pos) (tCo X.K F fun ρ st => (fa ρ st).bind fun k s => (match k with
    | true => fb ρ s
    | false => .ok false s)) :=
  impW (pw_and ha hb) fun σ H Q w => by
    obtain ⟨μ, ρ, st, S, w⟩ := w
    refine ⟨μ, ρ, st, S, w.bind.mono fun k s μ1 H1 P1 w1 => ?_⟩
    cases k with
    | true => rw [if_pos rfl]; exact ⟨μ1, ρ, s, S.post P1, w1⟩
    | false => rw [if_neg Bool.false_ne_true]; exact WP.ok (Φ := fun b _ _ H' => Q b H') P1.sto w1
theorem orT {rest : List Expr} {fa fb : Env → Store → R Bool} (ha : PT X a (tCo X.K F fa)) (hb : PW X (.BoolOp .Or (b :: rest) pos) (tCo X.K F fb)) : PW X (.BoolOp .Or (a :: b :: rest) pos) (tCo X.K F fun ρ st => (fa ρ st).bind fun k s => (match k with
    | true => .ok true s
    | false => fb ρ s)) :=
  impW (pw_or ha hb) fun σ H Q w => by
    obtain ⟨μ, ρ, st, S, w⟩ := w
    refine ⟨μ, ρ, st, S, w.bind.mono fun k s μ1 H1 P1 w1 => ?_⟩
    cases k with
    | true => rw [if_pos rfl]; exact WP.ok (Φ := fun b _ _ H' => Q b H') P1.sto w1
    | false => rw [if_neg Bool.false_ne_true]; exact ⟨μ1, ρ, s, S.post P1, w1⟩
/-! lists of expressions -/
theorem nilA : PA X [] (tAs X.K F fun _ st => .ok [] st) := impA pa_nil fun σ H Q w => by
  obtain ⟨μ, ρ, st, S, w⟩ := w
  exact WP.ok S.sto w [] .nil
theorem consA {es : List Expr} {k : Env → Store → R (List D)} (ha : PE X a (tE X.K F f)) (hb : PA X es (tAs X.K F k)) (hs : starEach (a :: es) X.env = (false, eval a X.env) :: starEach es X.env) : PA X (a :: es) (tAs X.K F fun ρ st => (f ρ st).bind fun x s => (k ρ s).bind fun xs s => .ok (x :: xs) s) :=
  impA (pa_cons ha hb hs) fun σ H Q w => by
    obtain ⟨μ, ρ, st, S, w⟩ := w
    refine ⟨μ, ρ, st, S, w.bind.mono fun d s μ1 H1 P1 w1 v rv => ?_⟩
    refine ⟨μ1, ρ, s, S.post P1, w1.bind.mono fun ds s2 μ2 H2 P2 w2 vs rs => ?_⟩
    exact WP.ok P2.sto w2 _ (.cons (rv.post P2) rs)
theorem tupE {es : List Expr} {k : Env → Store → R (List D)} {n : Nat} (ha : PA X es (tAs X.K F k)) : PE X (.Tuple es n pos) (tE X.K F fun ρ st => (k ρ st).bind fun ds s => newT ds s) :=
  impE (pe_tup ha) fun σ H Q w => by
    obtain ⟨μ, ρ, st, S, w⟩ := w
    exact ⟨μ, ρ, st, S, w.bind.mono fun ds s μ1 H1 P1 w1 vs rs => newT_ok P1.sto rs w1⟩
theorem lstE {es : List Expr} {k : Env → Store → R (List D)} (ha : PA X es (tAs X.K F k)) : PE X (.List es pos) (tE X.K F fun ρ st => (k ρ st).bind fun ds s => newL ds s) :=
  impE (pe_lst ha) fun σ H Q w => by
    obtain ⟨μ, ρ, st, S, w⟩ := w
    exact ⟨μ, ρ, st, S, w.bind.mono fun ds s μ1 H1 P1 w1 vs rs => newL_ok P1.sto rs w1⟩
theorem idxE (hu : X.A.units + 64 < cLine) (ha : PE X a (tE X.K F f)) (hb : PE X b (tE X.K F g)) (hs : PlainIx b) : PE X (.Subscript a b pos) (tE X.K F fun ρ st => (f ρ st).bind fun x s => (g ρ s).bind fun y s => index x y s) :=
  impE (pe_ix (index_ok (F := F) hu) ha hb hs) fun σ H Q w => two_ok (fun _ _ _ _ z => z) w
theorem noneO : PO X none (tOi X.K F fun _ st => .ok none st) := impO po_none fun σ H Q w => by
  obtain ⟨μ, ρ, st, S, w⟩ := w
  exact WP.ok S.sto w
theorem someO (ha : PE X a (tE X.K F f)) : PO X (some a) (tOi X.K F fun ρ st => (f ρ st).bind fun x s => (match x with
    | .int i => .ok (some i) s
    | _ => .no)) := impO (po_some ha) fun σ H Q w => by
  obtain ⟨μ, ρ, st, S, w⟩ := w
  refine ⟨μ, ρ, st, S, w.bind.mono fun d s μ1 H1 P1 w1 v rv => ?_⟩
  cases rv with
  | int i => exact ⟨i, rfl, WP.ok (Φ := fun o _ _ H' => Q o H') P1.sto w1⟩
  | _ => exact w1.elim
theorem slcE {lo hi : Option Expr} {fl fh : Env → Store → R (Option Int)} {p2 : Pos} (ha : PE X a (tE X.K F f)) (hl : PO X lo (tOi X.K F fl)) (hh : PO X hi (tOi X.K F fh)) : PE X (.Subscript a (.Slice lo hi none p2) pos) (tE X.K F fun ρ st => (f ρ st).bind fun x s => (fl ρ s).bind fun l s => (fh ρ s).bind fun h s => slice x l h s) :=
  impE (pe_slice (slice_ok (F := F)) ha hl hh) fun σ H Q w => by
    obtain ⟨μ, ρ, st, S, w⟩ := w
    refine ⟨μ, ρ, st, S, w.bind.mono fun d s μ1 H1 P1 w1 v rv => ?_⟩
    refine ⟨μ1, ρ, s, S.post P1, w1.bind.mono fun l s2 μ2 H2 P2 w2 => ?_⟩
    refine ⟨μ2, ρ, s2, (S.post P1).post P2, w2.bind.mono fun h s3 μ3 H3 P3 w3 => ?_⟩
    exact ⟨μ3, s3, d, P3.sto, (rv.post P2).post P3, w3⟩
/-- a built-in by its rule -/
theorem biE {es : List Expr} {k : Env → Store → R (List D)} {x : Str} {id : String} {j : List D → Store → R D} {p : Pos} (hr : CallR X (.builtin id) (rB X.K F j)) (hg : Gl X x) (hd : (x == ("__debug__" : Str)) = false) (hm : X.mg x = none) (hv : bootBuiltins x = some (.builtin id)) (ha : PA X (a :: es) (tAs X.K F k))
    (hn : x ≠ "__name__") (he : starEach (a :: es) X.env = (false, eval a X.env) :: starEach es X.env) (hpl : (backTo pos (starEach es X.env)).any (·.1) = false) : PE X (.Call (.Name x p) (a :: es) [] pos) (tE X.K F fun ρ st => (k ρ st).bind fun ds s => j ds s) :=
  impE (pe_callB hr hg hm hv ha hn hd he hpl) fun σ H Q w => by
    obtain ⟨μ, ρ, st, S, w⟩ := w
    exact ⟨μ, ρ, st, S, w.bind.mono fun ds s μ1 H1 P1 w1 vs rs => ⟨μ1, s, ds, P1.sto, rs, w1⟩⟩
theorem tyE {es : List Expr} {k : Env → Store → R (List D)} {x : Str} {id : String} {j : List D → Store → R D} {p : Pos} (hr : CallR X (.type id) (rB X.K F j)) (hg : Gl X x) (hd : (x == ("__debug__" : Str)) = false) (hm : X.mg x = none) (hv : bootBuiltins x = some (.type id)) (ha : PA X (a :: es) (tAs X.K F k))
    (hn : x ≠ "__name__") (he : starEach (a :: es) X.env = (false, eval a X.env) :: starEach es X.env) (hpl : (backTo pos (starEach es X.env)).any (·.1) = false) : PE X (.Call (.Name x p) (a :: es) [] pos) (tE X.K F fun ρ st => (k ρ st).bind fun ds s => j ds s) :=
  impE (pe_callTy hr hg hm hv ha hn hd he hpl) fun σ H Q w => by
    obtain ⟨μ, ρ, st, S, w⟩ := w
    exact ⟨μ, ρ, st, S, w.bind.mono fun ds s μ1 H1 P1 w1 vs rs => ⟨μ1, s, ds, P1.sto, rs, w1⟩⟩
/-- an own def -/
theorem callE0 (o : Ok X F T G call) {x : Str} {i : Nat} {p : Pos} (hx : T.fns.lookup x = some i) (hg : Gl X x) (hd : (x == ("__debug__" : Str)) = false) : PE X (.Call (.Name x p) [] [] pos) (tE X.K F fun _ st => call i [] st) := by
  obtain ⟨f, fd, ps, n, hm, hk, hr, hF, hb⟩ := o.fns x i hx
  refine impE (pe_call0 hF hr hg hm hk hb .nil pass0 hd) fun σ H Q w => ?_
  obtain ⟨μ, ρ, st, S, w⟩ := w
  exact ⟨μ, st, [], S.sto, .nil, w⟩
theorem callE (o : Ok X F T G call) {es : List Expr} {k : Env → Store → R (List D)} {x : Str} {i : Nat} {p : Pos} (hx : T.fns.lookup x = some i) (hg : Gl X x) (hd : (x == ("__debug__" : Str)) = false) (ha : PA X (a :: es) (tAs X.K F k))
    (h1 : starEach (a :: es) X.env = (false, eval a X.env) :: starEach es X.env) (h2 : (backTo pos (starEach es X.env)).any (·.1) = false) : PE X (.Call (.Name x p) (a :: es) [] pos) (tE X.K F fun ρ st => (k ρ st).bind fun ds s => call i ds s) := by
  obtain ⟨f, fd, ps, n, hm, hk, hr, hF, hb⟩ := o.fns x i hx
  refine impE (pe_call hF hr hg hm hk hb .nil pass0 ha hd h1 h2) fun σ H Q w => ?_
  obtain ⟨μ, ρ, st, S, w⟩ := w
  exact ⟨μ, ρ, st, S, w.bind.mono fun ds s μ1 H1 P1 w1 vs rs => ⟨μ1, s, ds, P1.sto, by rw [List.append_nil]; exact rs, w1⟩⟩
theorem evs_snoc (G : Ctx) (call : Nat → List D → Store → R D) (e : E) (ρ : Env) : ∀ (es : Es) (st : Store), evs G call (es.snoc e) ρ st = (evs G call es ρ st).bind fun ds s => (ev G call e ρ s).bind fun d s => .ok (ds ++ [d]) s
  | .nil, st => by
    simp only [Es.snoc]
    rw [evs, evs, R.bind_ok]
    cases ev G call e ρ st with
    | no => rfl
    | ok d s => simp only [R.bind_ok]; rw [evs]; rfl
  | .cons a r, st => by
    simp only [Es.snoc]
    rw [evs, evs]
    cases ev G call a ρ st with
    | no => rfl
    | ok d s =>
      simp only [R.bind_ok]
      rw [evs_snoc G call e ρ r s]
      cases evs G call r ρ s with
      | no => rfl
      | ok ds s2 =>
        simp only [R.bind_ok]
        cases ev G call e ρ s2 with
        | no => rfl
        | ok d2 s3 => rfl
  | .spl a r, st => by
    simp only [Es.snoc]
    rw [evs, evs]
    cases ev G call a ρ st with
    | no => rfl
    | ok d s =>
      simp only [R.bind_ok]
      cases seqR d s with
      | no => rfl
      | ok es s1 =>
        simp only [R.bind_ok]
        rw [evs_snoc G call e ρ r s1]
        cases evs G call r ρ s1 with
        | no => rfl
        | ok ds s2 =>
          simp only [R.bind_ok]
          cases ev G call e ρ s2 with
          | no => rfl
          | ok d2 s3 => simp only [R.bind_ok, List.append_assoc]
theorem Rps.app {K : PySem.W.Frag} {μ : Mu} {H : Hp} {ds es : List D} {vs us : List V} (h : Rps K μ H ds vs) (h2 : Rps K μ H es us) : Rps K μ H (ds ++ es) (vs ++ us) := by
  induction ds generalizing vs with
  | nil => cases h; exact h2
  | cons d ds ih => cases h with
    | cons r rs => exact .cons r (ih rs)
/-- f(a, .., k = b) -/
theorem kwE (o : Ok X F T G call) {es : List Expr} {k : Env → Store → R (List D)} {g : Env → Store → R D} {x kn : Str} {i : Nat} {dd : Option D} {p kp : Pos} {b : Expr} (hx : T.kfs.lookup x = some (i, kn, dd)) (hg : Gl X x) (hd : (x == ("__debug__" : Str)) = false) (ha : PA X (a :: es) (tAs X.K F k)) (hb : PE X b (tE X.K F g))
    (h1 : starEach (a :: es) X.env = (false, eval a X.env) :: starEach es X.env) (h2 : (backTo pos (starEach (a :: es) X.env)).any (·.1) = false) : PE X (.Call (.Name x p) (a :: es) [⟨some kn, b, kp⟩] pos) (tE X.K F fun ρ st => ((k ρ st).bind fun ds s => (g ρ s).bind fun d s => .ok (ds ++ [d]) s).bind fun ds s => call i ds s) := by
  obtain ⟨f, fd, ps, m, n, hm, hk, hr, hF, hbn, hl, _⟩ := o.kfs x i kn dd hx
  refine impE (pe_callN hF hr hg hm hk hbn pass0 ha (pk_cons hb pk_nil) rfl rfl hd h1 (by rw [h2]; rfl)) fun σ H Q w => ?_
  obtain ⟨μ, ρ, st, S, w⟩ := w
  simp only [R.bind_assoc, R.bind_ok] at w
  refine ⟨μ, ρ, st, S, w.bind.mono fun ds s μ1 H1 P1 w1 vs rs => ?_⟩
  refine ⟨μ1, ρ, s, S.post P1, w1.bind.mono fun d s2 μ2 H2 P2 w2 v rv => ?_⟩
  have hs : spOf X.K F (call i) (vs ++ [v]) H2 Q E0 := ⟨μ2, s2, ds ++ [d], P2.sto, (rs.post P2).app (.cons rv .nil), w2⟩
  have hlen := hF.len _ _ _ _ hs
  rw [hl, List.length_append] at hlen
  exact ⟨by simpa using hlen, rfl, hs⟩
/-- f(a, ..), the keyword's value by default -/
theorem kwE0 (o : Ok X F T G call) {es : List Expr} {k : Env → Store → R (List D)} {x kn : Str} {i : Nat} {d : D} {p : Pos} (hx : T.kfs.lookup x = some (i, kn, some d)) (hg : Gl X x) (hd : (x == ("__debug__" : Str)) = false) (ha : PA X (a :: es) (tAs X.K F k))
    (h1 : starEach (a :: es) X.env = (false, eval a X.env) :: starEach es X.env) (h2 : (backTo pos (starEach es X.env)).any (·.1) = false) : PE X (.Call (.Name x p) (a :: es) [] pos) (tE X.K F fun ρ st => ((k ρ st).bind fun ds s => .ok (ds ++ [d]) s).bind fun ds s => call i ds s) := by
  obtain ⟨f, fd, ps, m, n, hm, hk, hr, hF, _, _, hdf⟩ := o.kfs x i kn (some d) hx
  obtain ⟨u, v, hb, rv, rp⟩ := hdf d rfl
  refine impE (pe_call hF hr hg hm hk hb (.cons rv .nil) pass0 ha hd h1 h2) fun σ H Q w => ?_
  obtain ⟨μ, ρ, st, S, w⟩ := w
  simp only [R.bind_assoc, R.bind_ok] at w
  exact ⟨μ, ρ, st, S, w.bind.mono fun ds s μ1 H1 P1 w1 vs rs => ⟨μ1, s, ds ++ [d], P1.sto, rs.app (.cons (rp _ _) .nil), w1⟩⟩
/-- a new instance -/
theorem mkSto {K : PySem.W.Frag} {μ : Mu} {H : Hp} {st : Store} {c : Nat} {C x dx : Addr} (S : Sto K F μ st H) (hc : F.cls c = some C) (hx : H x = none) (hd : H dx = none) (hne : dx ≠ x) : Post K F μ H (st ++ [.ins c []]) (μ ++ [(x, false)]) (upd (upd H dx (.own x)) x (.ins C dx [])) := by
  have P1 := Post.fresh (u := .own x) S hd
  exact P1.trans (Post.push (o := .ins c []) P1.sto (by rw [upd_ne (Ne.symm hne)]; exact hx) ⟨C, dx, [], hc, upd_same, .nil⟩)
theorem mkR_ok {K : PySem.W.Frag} {μ : Mu} {H : Hp} {st : Store} {c i : Nat} {C : Addr} {ds : List D} {vs : List V} {Q : VK} (S : Sto K F μ st H) (hc : F.cls c = some C) (hi : G.init[c]? = some (some i)) (rs : Rps K μ H ds vs)
    (w : WP K F μ H (mkR G call c ds st) (VQ K Q)) : ∀ x dx, H x = none → H dx = none → dx ≠ x → spOf K F (call i) (.ref x :: (vs ++ [])) (upd (upd H dx (.own x)) x (.ins C dx [])) (fun v H2 => v = .non ∧ Q (.ref x) H2) E0 := by
  intro x dx hx hd hne
  have P := mkSto (F := F) S hc hx hd hne
  unfold mkR at w
  simp only [hi] at w
  refine ⟨μ ++ [(x, false)], st ++ [.ins c []], .ref st.length :: ds, P.sto, .cons (.ref (b := false) (by rw [← S.len]; simp)) (by rw [List.append_nil]; exact rs.post P), ?_⟩
  have w1 : WP K F (μ ++ [(x, false)]) (upd (upd H dx (.own x)) x (.ins C dx [])) (call i (.ref st.length :: ds) (st ++ [.ins c []])) fun d s _ _ => WP K F μ H (match d with
      | .non => .ok (.ref st.length) s
      | _ => .no) (VQ K Q) := by
    cases e : call i (.ref st.length :: ds) (st ++ [.ins c []]) with
    | no => rw [e] at w; exact w.elim
    | ok d s => rw [e] at w; exact fun _ _ _ => w
  refine w1.mono fun d s μ1 H1 P1 w2 v rv => ?_
  cases rv with
  | non =>
    refine ⟨rfl, w2 μ1 H1 (P.trans P1) _ (.ref (b := false) (pre_get P1.pre (by rw [← S.len]; simp)))⟩
  | _ => exact w2.elim
theorem mkE0 (o : Ok X F T G call) {x : Str} {c i : Nat} {p : Pos} (hx : T.cls.lookup x = some c) (hi : G.init[c]? = some (some i)) (hg : Gl X x) (hd : (x == ("__debug__" : Str)) = false) : PE X (.Call (.Name x p) [] [] pos) (tE X.K F fun _ st => mkR G call c [] st) := by
  obtain ⟨C, f, fd, ps, n, hc, hM, hr, hF, hb⟩ := o.mks x c i hx hi
  obtain ⟨C', hc', hm⟩ := o.cls x c hx
  rw [hc] at hc'
  cases hc'
  refine impE (pe_make0 hM hF hr hg hm hb .nil pass0 hd) fun σ H Q w => ?_
  obtain ⟨μ, ρ, st, S, w⟩ := w
  exact mkR_ok S.sto hc hi .nil w
theorem mkE (o : Ok X F T G call) {es : List Expr} {k : Env → Store → R (List D)} {x : Str} {c i : Nat} {p : Pos} (hx : T.cls.lookup x = some c) (hi : G.init[c]? = some (some i)) (hg : Gl X x) (hd : (x == ("__debug__" : Str)) = false) (ha : PA X (a :: es) (tAs X.K F k))
    (h1 : starEach (a :: es) X.env = (false, eval a X.env) :: starEach es X.env) (h2 : (backTo pos (starEach es X.env)).any (·.1) = false) : PE X (.Call (.Name x p) (a :: es) [] pos) (tE X.K F fun ρ st => (k ρ st).bind fun ds s => mkR G call c ds s) := by
  obtain ⟨C, f, fd, ps, n, hc, hM, hr, hF, hb⟩ := o.mks x c i hx hi
  obtain ⟨C', hc', hm⟩ := o.cls x c hx
  rw [hc] at hc'
  cases hc'
  refine impE (pe_make hM hF hr hg hm hb .nil pass0 ha hd h1 h2) fun σ H Q w => ?_
  obtain ⟨μ, ρ, st, S, w⟩ := w
  exact ⟨μ, ρ, st, S, w.bind.mono fun ds s μ1 H1 P1 w1 vs rs => mkR_ok P1.sto hc hi rs w1⟩
/-- a field -/
theorem getF_ok {K : PySem.W.Frag} {μ : Mu} {H : Hp} (nd : F.fld.Nodup) {i : Nat} {x : Str} (hx : F.fld[i]? = some x) : ∀ {fs : List (Nat × D)} {fv : List (Str × V)} {d : D}, RpF K F μ H fs fv → getF i fs = some d → ∃ v, fv.lookup x = some v ∧ Rp K μ H d v
  | _, _, _, .nil, e => by cases e
  | (j, d) :: fs, (y, v) :: fv, d', .cons h t, e => by
    simp only [getF] at e
    have hj : F.fld[j]? = some y := h.1
    split at e
    · rename_i hji
      cases e
      subst hji
      rw [hx] at hj; cases hj
      exact ⟨v, by simp [List.lookup], h.2⟩
    · rename_i hji
      obtain ⟨v', e1, e2⟩ := getF_ok nd hx t e
      have hne : (x == y) = false := by
        rw [beq_eq_false_iff_ne]
        intro q; subst q
        exact hji (nodup_ix nd hj hx)
      exact ⟨v', by simp only [List.lookup, hne]; exact e1, e2⟩
theorem putF_ok {K : PySem.W.Frag} {μ : Mu} {H : Hp} (nd : F.fld.Nodup) {i : Nat} {x : Str} (hx : F.fld[i]? = some x) {d : D} {v : V} (r : Rp K μ H d v) : ∀ {fs : List (Nat × D)} {fv : List (Str × V)}, RpF K F μ H fs fv → RpF K F μ H (putF i d fs) (L2.putF x v fv)
  | _, _, .nil => .cons ⟨hx, r⟩ .nil
  | (j, d') :: fs, (y, v') :: fv, .cons h t => by
    have hj : F.fld[j]? = some y := h.1
    simp only [putF, L2.putF]
    by_cases e : j = i
    · subst e
      rw [hx] at hj; cases hj
      rw [if_pos rfl, if_pos rfl]
      exact .cons ⟨hx, r⟩ t
    · have e' : ¬ y = x := fun q => by
        subst q
        exact e (nodup_ix nd hj hx)
      rw [if_neg e, if_neg e']
      exact .cons h (putF_ok nd hx r t)
theorem field_ok {K : PySem.W.Frag} {μ : Mu} {H : Hp} {st s' : Store} {i : Nat} {x : Str} {d e : D} {v : V} (nd : F.fld.Nodup) (hx : F.fld[i]? = some x) (S : Sto K F μ st H) (r : Rp K μ H d v) (h : field d i st = .ok e s') :
    s' = st ∧ ∃ (a C dx : Addr) (c : Nat) (fv : List (Str × V)) (z : V), v = .ref a ∧ F.cls c = some C ∧ H a = some (.ins C dx fv) ∧ fv.lookup x = some z ∧ Rp K μ H e z := by
  cases r with
  | @ref l a _ hl =>
    simp only [field] at h
    split at h
    · rename_i c fs hst
      cases hg : getF i fs with
      | none => simp only [hg] at h; cases h
      | some d' =>
        simp only [hg] at h
        cases h
        obtain ⟨C, dx, fv, h1, h2, h3⟩ := S.back hst hl rfl
        obtain ⟨z, e1, e2⟩ := getF_ok nd hx h3 hg
        exact ⟨rfl, a, C, dx, c, fv, z, rfl, h1, h2, e1, e2⟩
    · cases h
  | _ => simp only [field] at h; cases h
theorem fldE (o : Ok X F T G call) {x : Str} {i : Nat} (hx : T.fld[i]? = some x) (ha : PE X a (tE X.K F f)) (hb : attributeBase a x X.env (eval a X.env) = eval a X.env) : PE X (.Attribute a x pos) (tE X.K F fun ρ st => (f ρ st).bind fun d s => field d i s) :=
  impE (pe_fld ha hb) fun σ H Q w => one_ok (r := fun v H1 Q => ∃ a C dx fs z, v = .ref a ∧ H1 a = some (.ins C dx fs) ∧ Cls X.K C ∧ NoAttr X.K C x ∧ fs.lookup x = some z ∧ Q z H1) (fun μ st d v H Q S r w => by
    cases e : field d i st with
    | no => rw [e] at w; exact w.elim
    | ok e' s' =>
      rw [e] at w
      obtain ⟨rfl, a, C, dx, c, fv, z, h1, h2, h3, h4, h5⟩ := field_ok (F := F) (by rw [o.fld]; exact o.fnd) (by rw [o.fld]; exact hx) S r e
      exact ⟨a, C, dx, fv, z, h1, h3, o.kit.cl c C h2, o.noat c C x h2 (List.mem_of_getElem? hx), h4, w.ok S _ h5⟩) w
/-- xs.append(e) -/
theorem appE {apos : Pos} (ha : PE X a (tE X.K F f)) (hb : PE X b (tE X.K F g)) (hbase : attributeBase a "append" X.env (eval a X.env) = eval a X.env) (hline : (apos.endLine == pos.line) = true) (hs : starEach [b] X.env = [(false, eval b X.env)]) :
    PE X (.Call (.Attribute a "append" apos) [b] [] pos) (tE X.K F fun ρ st => (f ρ st).bind fun x s => R.grd (lstOf x s).isSome ((g ρ s).bind fun y s => append x y s)) :=
  impE (pe_bm PySem.F.plainAttrs_list PySem.F.slot_list_append PySem.F.type_list_append mt_append ha (pa_cons hb pa_nil hs) hbase (by simp only [hs]; rfl) hline hs rfl) fun σ H Q w => by
    obtain ⟨μ, ρ, st, S, w⟩ := w
    refine ⟨μ, ρ, st, S, w.bind.mono fun d s μ1 H1 P1 w1 v rv => ?_⟩
    obtain ⟨hl, w1⟩ := w1.grd
    cases hd : lstOf d s with
    | none => rw [hd] at hl; cases hl
    | some ds =>
      obtain ⟨p, vs, rfl, hq, rs⟩ := lstOf_ok P1.sto rv hd
      refine ⟨.inl ⟨rfl, vs, hq⟩, ?_⟩
      refine ⟨μ1, ρ, s, S.post P1, w1.bind.mono fun e s2 μ2 H2 P2 w2 u ru => ?_⟩
      have rv2 := rv.post P2
      cases rv2 with
      | @ref l _ _ hl2 =>
        obtain ⟨es, he, hlen, w3⟩ : ∃ es, s2[l]? = some (.lst es) ∧ es.length < 16777216 ∧ WP X.K F μ2 H2 (.ok .non (s2.set l (.lst (es ++ [e])))) (VQ X.K Q) := by
          simp only [append] at w2
          split at w2
          · obtain ⟨h1, h2⟩ := w2.grd
            exact ⟨_, by assumption, of_decide_eq_true h1, h2⟩
          · exact w2.elim
        obtain ⟨ws, h1, r1⟩ := P2.sto.back he hl2 rfl
        refine ⟨p, ws, u, rfl, rfl, h1, by rw [← r1.length, sizeLine_eq]; exact hlen, ?_⟩
        have kt : ∀ a xs, H2 a = some (.tup xs) → upd H2 p (.lst (ws ++ [u])) a = some (.tup xs) := fun a xs z => by rw [upd_ne (fun q => by subst q; rw [h1] at z; cases z)]; exact z
        have kf : ∀ a o w, H2 a = some (.frz o w) → upd H2 p (.lst (ws ++ [u])) a = some (.frz o w) := fun a o w z => by rw [upd_ne (fun q => by subst q; rw [h1] at z; cases z)]; exact z
        have P := Post.write (u := .lst (ws ++ [u])) (o' := .lst (es ++ [e])) P2.sto he hl2 rfl h1 trivial ⟨_, upd_same, (r1.append (.cons ru .nil)).mono (List.prefix_refl _) kt kf⟩
        exact w3 _ _ P _ .non
      | tup h r => simp only [lstOf] at hd; cases hd
      | wt h r => simp only [lstOf] at hd; cases hd
end
end
end Nz
namespace Nz
open PySem PySem.Spec L2 PyProof.Rows PySem.Calls HT
section
variable {prog : Program} {w : World} {A : Around} {E : Value → Shared → Prop} {s : Shared}
theorem nz_sliceRev {sl : Addr} {vl vu vs : Value} {n : Nat} {Q : Int × Int × Nat → Shared → Prop} (hs : s.heap.IsSliceOf sl vl vu vs) (pl : IsPart vl none) (pu : IsPart vu none) (ps : IsPart vs (some (-1)))
    (h : Q ((n : Int) - 1, -1, n) s) : wpAny (model prog w) A (Builtin.Slice.sliceApplied (.ref sl) (pure (n : Int))) Q E s := by
  obtain ⟨os, hos, hcs, hds⟩ := id hs
  unfold Builtin.Slice.sliceApplied Builtin.Slice.sliceFields
  refine wpAny_bind (wpAny_bind (wpAny_field hos hds (x := vl) rfl (wpAny_bind (wpAny_field hos hds (x := vu) rfl (wpAny_bind (wpAny_field hos hds (x := vs) rfl (wpAny_pure ?_)))))))
  refine wpAny_bind (slicePart_ ps ?_)
  show wpAny _ _ (if ((-1 : Int) == 0) = true then _ else _) _ _ s
  rw [if_neg (by decide)]
  refine wpAny_bind (slicePart_ pl (wpAny_bind (slicePart_ pu (wpAny_bind (wpAny_pure ?_)))))
  have e1 : Builtin.Slice.sliceAdjust none none (-1) (n : Int) = ((n : Int) - 1, -1) := rfl
  have e2 : Builtin.Slice.slicePlaces ((n : Int) - 1) (-1) (-1) = n := by
    unfold Builtin.Slice.slicePlaces
    rw [if_neg (by decide)]
    split
    · rw [show (- -1 : Int) = 1 from rfl, Int.ediv_one]; omega
    · simp; omega
  show wpAny _ _ (match Builtin.Slice.sliceAdjust none none (-1) (n : Int) with | (lo, hi) => pure (lo, (-1 : Int), Builtin.Slice.slicePlaces lo hi (-1))) _ _ s
  rw [e1]
  show wpAny _ _ (pure ((n : Int) - 1, (-1 : Int), Builtin.Slice.slicePlaces ((n : Int) - 1) (-1) (-1))) _ _ s
  rw [e2]
  exact wpAny_pure h
theorem fm_range {α : Type} : ∀ (l : List α) (f : Nat → Option α), (∀ m, m < l.length → f m = l[m]?) → (List.range l.length).filterMap f = l
  | [], f, _ => rfl
  | x :: l, f, h => by
    rw [List.length_cons, List.range_succ_eq_map, List.filterMap_cons, h 0 (by simp)]
    simp only [List.getElem?_cons_zero, List.filterMap_map]
    rw [fm_range l (f ∘ Nat.succ) fun m hm => by
      show f (m + 1) = _
      rw [h (m + 1) (by simp; omega), List.getElem?_cons_succ]]
theorem nz_pickRev (xs : Array Value) : ((List.range xs.size).filterMap fun (m : Nat) => xs[((xs.size : Int) - 1 + (m : Int) * (-1)).toNat]?).toArray = xs.toList.reverse.toArray := by
  have hl : xs.toList.reverse.length = xs.size := by simp
  have := fm_range xs.toList.reverse (fun (m : Nat) => xs[((xs.size : Int) - 1 + (m : Int) * (-1)).toNat]?) fun m hm => by
    rw [hl] at hm
    rw [List.getElem?_reverse (by simpa using hm), Array.length_toList, Array.getElem?_toList]
    congr 1
    omega
  rw [hl] at this
  rw [this]
theorem nz_getItem_rev {t sl : Addr} {items : Array Value} {vl vu vs : Value} {Q : Value → Shared → Prop} (ht : IsTup s.heap t items) (hs : s.heap.IsSliceOf sl vl vu vs) (pl : IsPart vl none) (pu : IsPart vu none) (ps : IsPart vs (some (-1)))
    (h : Q (.ref s.heap.objs.size) { s with heap := s.heap.push { cls := .type "tuple", data := .seq items.toList.reverse.toArray } })
    (hsz : items.size ≤ sizeLine) : wpAny (model prog w) A (getItem (.ref t) (.ref sl)) Q E s := by
  have htake : sizeOk (.seq items.toList.reverse.toArray) := by
    show items.toList.reverse.toArray.size ≤ sizeLine
    rw [List.size_toArray, List.length_reverse, Array.length_toList]
    exact hsz
  obtain ⟨os, hos, hcs, hds⟩ := id hs
  have hTs : s.TypeIs (.ref sl) "slice" := ⟨os, hos, hcs⟩
  unfold getItem
  try with_reducible refine wpAny_holding ?_
  first | refine wpAny_bind (wpAny_pure ?_) | skip
  refine wpAny_bind (wpAny_sequenceKey ht.typeIs (by decide) ?_)
  refine wpAny_bind (wpAny_callSpecial?_slot (name := Str.ofString "__getitem__") ht.typeIs PyProof.Rows.slot_tuple_getitem
    (wpAny_call_entry PyProof.Rows.slot_tuple_getitem ht.typeIs entry_tuple_getitem ?_ (args_tuple_getitem _ _)))
  show wpAny _ _ (Builtin.Tuple.tupleItemsOf (.ref t) >>= _) _ _ s
  refine wpAny_bind (tupleItemsOf_ ht ?_)
  refine wpAny_bind (wpAny_typeOf hTs ?_)
  rw [if_pos (by decide)]
  refine wpAny_bind (nz_sliceRev hs pl pu ps ?_)
  have hno : ¬ ((((items.size : Int) - 1) == 0 && (-1 : Int) == 1 && items.size == items.size) = true) := by
    intro q
    rw [Bool.and_eq_true, Bool.and_eq_true] at q
    exact absurd q.1.2 (by decide)
  show wpAny _ _ (if (((items.size : Int) - 1) == 0 && (-1 : Int) == 1 && items.size == items.size) = true then _ else _) _ _ s
  rw [if_neg hno, nz_pickRev]
  first
    | exact wpAny_bind (m := Builtin.Tuple.tupleExact _) (wpAny_newObj_type (wpAny_pure ⟨_, rfl, wpAny_pure h⟩) htake)
    | exact wpAny_bind (m := Builtin.Tuple.tupleExact _) (wpAny_newObj_type (wpAny_bind (wpAny_pure (wpAny_pure ⟨_, rfl, wpAny_pure h⟩))) htake)
    | exact wpAny_bind (wpAny_bind (m := Builtin.Tuple.tupleExact _) (wpAny_newObj_type (wpAny_pure (wpAny_pure ⟨_, rfl, wpAny_pure h⟩)) htake))
    | exact wpAny_bind (wpAny_bind (m := Builtin.Tuple.tupleExact _) (wpAny_newObj_type (wpAny_pure ⟨_, rfl, wpAny_pure h⟩) htake))
end
/-- e[::-1], of a list or a tuple -/
def tRevD (K : PySem.W.Frag) (te : TE) : TE := fun σ H Q => te σ H fun x H1 => ∃ a xs, x = .ref a ∧ ((SqL K H1 a xs ∧ ∀ p, H1 p = none → Q (.ref p) (upd H1 p (.lst xs.reverse))) ∨ (SqT K H1 a xs ∧ ∀ p, H1 p = none → Q (.ref p) (upd H1 p (.tup xs.reverse))))
theorem pe_revD {X : Cx} {e : Expr} {te : TE} {k : Nat} {p1 p2 p3 pos : Pos} (he : PE X e te) : PE X (.Subscript e (.Slice none none (some (.UnaryOp .USub (.Constant (.int 1) k p1) p2)) p3) pos) (tRevD X.K te) := by
  refine ⟨fun pins s σ H Q I h => ?_⟩
  refine Subscript_ (thn (he.run pins s σ H _ I h) fun v s1 ⟨x, H1, I1, r1, q1⟩ => ?_)
  obtain ⟨a, xs, ex, q⟩ := q1
  subst ex
  cases r1
  have hst : PO X (some (.UnaryOp .USub (.Constant (.int 1) k p1) p2)) (tPart (tUn (rU fun i => .int (-i)) (tC (.int 1)))) := po_some (pe_un un_neg pe_int)
  refine wpAny_Slice (thn (po_none.run pins s1 σ H1 (fun o H2 => o = none ∧ H2 = H1) I1 ⟨rfl, rfl⟩) fun vl s2 ⟨l, H2, I2, pl, el, e2⟩ => ?_)
  subst el e2
  refine thn (po_none.run pins s2 σ H2 (fun o H3 => o = none ∧ H3 = H2) I2 ⟨rfl, rfl⟩) fun vu s3 ⟨u, H3, I3, pu, eu, e3⟩ => ?_
  subst eu e3
  refine thn (hst.run pins s3 σ H3 (fun o H4 => o = some (-1) ∧ H4 = H3) I3 ⟨1, rfl, -1, rfl, rfl, rfl⟩) fun vs s4 ⟨o, H4, I4, ps, eo, e4⟩ => ?_
  subst eo e4
  have I5 : Inv X pins σ H4 { s4 with heap := s4.heap.push { cls := .type "slice", data := .fields #[vl, vu, vs] } } := I4.kept (t' := s4.toks) fun b ob q => Heap.get?_push_of_some _ q
  rcases q with ⟨hx, q⟩ | ⟨hx, q⟩
  · obtain ⟨its, r, ht, hz⟩ := I5.list hx
    have hlen := r.length
    show wpAny (model X.prog X.w) X.A (subscriptTail e (.Slice none none (some (.UnaryOp .USub (.Constant (.int 1) k p1) p2)) p3) (.ref a) (.ref s4.heap.objs.size)) (EP X pins σ Q) X.xe { s4 with heap := s4.heap.push { cls := .type "slice", data := .fields #[vl, vu, vs] } }
    refine tail_any (ops := [.ref a, .ref s4.heap.objs.size]) ht.isList.typeIs (PySem.slot_list_getitem.lookup) ?_ (by with_unfolding_all rfl)
    refine wpAny_getItem_list_slice ht.isList (Heap.IsSliceOf.new _ vl vu vs) pl pu ps (by decide) ?_ (by rw [List.size_toArray]; omega)
    rw [PySem.W.krv_pick]
    refine ⟨.ref _, _, I5.laid (t' := s4.toks) (o := .lst xs.reverse) (fun b ob q => Heap.get?_push_of_some _ q) (Nat.le_refl _) ?_, rfl, q _ (I5.hok.fresh (Nat.le_refl _))⟩
    exact ⟨by rw [List.length_reverse]; exact hz, _, 0, r.reverse, Heap.get?_push_size _ rfl⟩
  · obtain ⟨its, r, ht, hz⟩ := I5.tuple hx
    have hlen := r.length
    show wpAny (model X.prog X.w) X.A (subscriptTail e (.Slice none none (some (.UnaryOp .USub (.Constant (.int 1) k p1) p2)) p3) (.ref a) (.ref s4.heap.objs.size)) (EP X pins σ Q) X.xe { s4 with heap := s4.heap.push { cls := .type "slice", data := .fields #[vl, vu, vs] } }
    refine tail_any (ops := [.ref a, .ref s4.heap.objs.size]) ht.typeIs (PyProof.Rows.slot_tuple_getitem.lookup) ?_ (by with_unfolding_all rfl)
    refine nz_getItem_rev ht (Heap.IsSliceOf.new _ vl vu vs) pl pu ps ?_ (by rw [List.size_toArray]; omega)
    refine ⟨.ref _, _, I5.laid (t' := s4.toks) (o := .tup xs.reverse) (fun b ob q => Heap.get?_push_of_some _ q) (Nat.le_refl _) ?_, rfl, q _ (I5.hok.fresh (Nat.le_refl _))⟩
    exact ⟨by rw [List.length_reverse]; exact hz, _, r.reverse, IsTup.new _ _⟩
section
variable {X : Cx} {F : Nm}
theorem revE {a : Expr} {f : Env → Store → R D} {k : Nat} {p1 p2 p3 pos : Pos} (ha : PE X a (tE X.K F f)) : PE X (.Subscript a (.Slice none none (some (.UnaryOp .USub (.Constant (.int 1) k p1) p2)) p3) pos) (tE X.K F fun ρ st => (f ρ st).bind fun x s => (match x with
    | .tup ds => .ok (.tup ds.reverse) s
    | x => (match lstOf x s with
      | some ds => newL ds.reverse s
      | none => .no))) :=
  impE (pe_revD ha) fun σ H Q w => by
    obtain ⟨μ, ρ, st, S, w⟩ := w
    refine ⟨μ, ρ, st, S, w.bind.mono fun d s μ1 H1 P1 w1 v rv => ?_⟩
    cases rv with
    | @tup ds a vs h1 rs =>
      refine ⟨a, vs, rfl, .inr ⟨.of h1, fun p hp => ?_⟩⟩
      have P := Post.fresh (u := .tup vs.reverse) P1.sto hp
      exact w1 _ _ P _ (.tup upd_same ((rs.rev).post P))
    | @ref l a _ hl =>
      cases hd : lstOf (.ref l) s with
      | none => simp only [hd] at w1; exact w1.elim
      | some ds =>
        simp only [hd] at w1
        obtain ⟨vs, h1, rs⟩ := P1.sto.list (ds := ds) (by
          simp only [lstOf] at hd
          split at hd
          · cases hd; exact .inl (by assumption)
          · cases hd; exact .inr (by assumption)
          · cases hd) hl
        exact ⟨a, vs, rfl, .inl ⟨h1, (newL_ok P1.sto rs.rev w1).2⟩⟩
    | _ => simp only [lstOf] at w1; exact w1.elim
end
end Nz
namespace Nz
open PySem L2 PyProof.Rows
/-! ### targets -/
/-- the slots that may have changed -/
def Near (vs : List Nat) (σ σ' : L2.St) : Prop := σ'.length = σ.length ∧ ∀ i, i ∉ vs → σ'[i]? = σ[i]?
def gT (K : PySem.W.Frag) (F : Nm) (t : T) : TG := fun v σ H Q => ∃ μ ρ st d ρ', Sim K F μ ρ st σ H ∧ Rp K μ H d v ∧ T.asg t d ρ = some ρ' ∧ ∀ σ', Sim K F μ ρ' st σ' H → Near t.slots σ σ' → Q σ' H
def gTs (K : PySem.W.Frag) (F : Nm) (ts : List T) : TGs := fun vs σ H Q => ∃ μ ρ st ds ρ', Sim K F μ ρ st σ H ∧ Rps K μ H ds vs ∧ T.asgs ts ds ρ = some ρ' ∧ ∀ σ', Sim K F μ ρ' st σ' H → Near (T.slotss ts) σ σ' → Q σ' H
theorem impG {X : Cx} {e : Expr} {t t' : TG} (h : PG X e t) (k : ∀ v σ H Q, t' v σ H Q → t v σ H Q) : PG X e t' := ⟨fun pins s σ H v u Q I r w => h.run pins s σ H v u Q I r (k v σ H Q w)⟩
theorem impGs {X : Cx} {e : List Expr} {t t' : TGs} (h : PGs X e t) (k : ∀ v σ H Q, t' v σ H Q → t v σ H Q) : PGs X e t' := ⟨fun pins s σ H v u Q I r w => h.run pins s σ H v u Q I r (k v σ H Q w)⟩
theorem Near.refl {vs : List Nat} {σ : L2.St} : Near vs σ σ := ⟨rfl, fun _ _ => rfl⟩
section
variable {X : Cx} {F : Nm} {T₀ : Tab}
theorem Sim.set {K : PySem.W.Frag} {μ : Mu} {ρ : Env} {st : Store} {σ : L2.St} {H : Hp} {d : D} {v : V} (S : Sim K F μ ρ st σ H) (r : Rp K μ H d v) (i : Nat) : Sim K F μ (ρ.set i (some d)) st (σ.set i (some v)) H := by
  refine ⟨by simp [S.len], fun j e h => ?_, S.sto⟩
  by_cases hj : j = i
  · subst hj
    by_cases hlt : j < ρ.length
    · rw [List.getElem?_set_self hlt] at h
      cases h
      exact ⟨v, List.getElem?_set_self (by rw [← S.len]; exact hlt), r⟩
    · rw [List.getElem?_eq_none (by simpa using hlt)] at h; cases h
  · rw [List.getElem?_set_ne (Ne.symm hj)] at h ⊢
    exact S.env j e h
theorem nameG (hN : X.N = T₀.N) (nd : X.N.Nodup) {sc : Scope} {x : Str} {i : Nat} {pos : Pos} (h : trLoc T₀ sc x = some i) (hl : L2.Loc X.env.scope x) (hf : X.fn x = true ∨ X.env.scope.names.lookup x = some .local) : PG X (.Name x pos) (gT X.K F (.nm i)) := by
  unfold trLoc at h
  split at h
  · rename_i hb
    refine impG (pg_name (i := i) nd (by rw [hN]; exact ixOf_ok h) hl hf) fun v σ H Q w => ?_
    obtain ⟨μ, ρ, st, d, ρ', S, r, e, q⟩ := w
    simp only [T.asg, Option.some.injEq] at e
    subst e
    refine q _ (S.set r i) ⟨by simp, fun j hj => ?_⟩
    simp only [T.slots, List.mem_singleton] at hj
    exact List.getElem?_set_ne (Ne.symm hj)
  · cases h
/-- what an own name's store asks -/
def FnLoc (X : Cx) (sc : Scope) : Prop := ∀ x, L2.Loc sc x → L2.Loc X.env.scope x ∧ (X.fn x = true ∨ X.env.scope.names.lookup x = some .local)
theorem trLoc_loc {sc : Scope} {x : Str} {i : Nat} (h : trLoc T₀ sc x = some i) : L2.Loc sc x := by
  unfold trLoc at h
  split at h
  · exact isLoc_ok (by assumption)
  · cases h
theorem nilG : PGs X [] (gTs X.K F []) := impGs pgs_nil fun vs σ H Q w => by
  obtain ⟨μ, ρ, st, ds, ρ', S, r, e, q⟩ := w
  cases r with
  | nil =>
    simp only [T.asgs, Option.some.injEq] at e
    subst e
    exact ⟨rfl, q _ S .refl⟩
  | cons h t => simp only [T.asgs] at e; cases e
theorem consG {e : Expr} {es : List Expr} {t : T} {ts : List T} (h1 : PG X e (gT X.K F t)) (h2 : PGs X es (gTs X.K F ts)) (hs : (assignEach (e :: es) X.env).map (·.2) = assign e X.env :: (assignEach es X.env).map (·.2)) : PGs X (e :: es) (gTs X.K F (t :: ts)) :=
  impGs (pgs_cons h1 h2 hs) fun vs σ H Q w => by
    obtain ⟨μ, ρ, st, ds, ρ', S, r, e, q⟩ := w
    cases r with
    | nil => simp only [T.asgs] at e; cases e
    | @cons d v ds vs r rs =>
      simp only [T.asgs] at e
      cases e1 : T.asg t d ρ with
      | none => rw [e1] at e; cases e
      | some ρ1 =>
        rw [e1] at e
        simp only at e
        refine ⟨v, vs, rfl, μ, ρ, st, d, ρ1, S, r, e1, fun σ1 S1 n1 => ?_⟩
        refine ⟨μ, ρ1, st, ds, ρ', S1, rs, e, fun σ2 S2 n2 => q σ2 S2 ⟨n2.1.trans n1.1, fun i hi => ?_⟩⟩
        simp only [T.slotss, List.mem_append, not_or] at hi
        rw [n2.2 i hi.2, n1.2 i hi.1]
theorem asgs_len : ∀ {ts : List T} {ds : List D} {ρ ρ' : Env}, T.asgs ts ds ρ = some ρ' → ds.length = ts.length
  | [], [], _, _, _ => rfl
  | [], _ :: _, _, _, h => by simp only [T.asgs] at h; cases h
  | _ :: _, [], _, _, h => by simp only [T.asgs] at h; cases h
  | t :: ts, d :: ds, ρ, ρ', h => by
    simp only [T.asgs] at h
    cases e : T.asg t d ρ with
    | none => rw [e] at h; cases h
    | some ρ1 =>
      rw [e] at h
      simp only [List.length_cons]
      rw [asgs_len (ρ := ρ1) h]
theorem tupG {es : List Expr} {ts : List T} {n : Nat} {pos : Pos} (hc : X.calm = true) (h : PGs X es (gTs X.K F ts)) (hl : ts.length = es.length) (hn : (assignEach es X.env).length = es.length) (hst : (assignEach es X.env).findIdx? (·.1) = none) : PG X (.Tuple es n pos) (gT X.K F (.tp ts)) :=
  impG (pg_tup hc h hn hst) fun v σ H Q w => by
    obtain ⟨μ, ρ, st, d, ρ', S, r, e, q⟩ := w
    cases r with
    | @tup ds a vs hq rs =>
      simp only [T.asg] at e
      refine ⟨a, vs, rfl, .of hq, ?_, μ, ρ, st, ds, ρ', S, rs, e, q⟩
      rw [← rs.length, asgs_len e, hl]
    | @wt ds a vs hq rs =>
      simp only [T.asg] at e
      refine ⟨a, vs, rfl, hq, ?_, μ, ρ, st, ds, ρ', S, rs, e, q⟩
      rw [← rs.length, asgs_len e, hl]
    | _ => simp only [T.asg] at e; cases e
def notStar : Expr → Bool
  | .Starred _ _ => false
  | _ => true
theorem trT_ok (hN : X.N = T₀.N) (nd : X.N.Nodup) (hc : X.calm = true) {sc : Scope} (hf : FnLoc X sc) : ∀ (n : Nat) {e : Expr} {t : T}, trT T₀ sc n e = some t → PG X e (gT X.K F t)
  | 0, e, t, h => by simp only [trT, reduceCtorEq] at h
  | n + 1, e, t, h => by
    have ih := fun {e : Expr} {t : T} => trT_ok hN nd hc hf n (e := e) (t := t)
    cases e with
    | Name x pos =>
      simp only [trT] at h
      cases q : trLoc T₀ sc x with
      | none => rw [q] at h; cases h
      | some i =>
        rw [q] at h
        cases h
        exact nameG hN nd q (hf x (trLoc_loc q)).1 (hf x (trLoc_loc q)).2
    | Tuple es k pos =>
      simp only [trT] at h
      cases q : es.mapM (trT T₀ sc n) with
      | none => rw [q] at h; cases h
      | some ts =>
        rw [q] at h
        cases h
        have all : ∀ (es : List Expr) (ts : List T), es.mapM (trT T₀ sc n) = some ts → PGs X es (gTs X.K F ts) ∧ ts.length = es.length ∧ (assignEach es X.env).length = es.length ∧ (assignEach es X.env).findIdx? (·.1) = none := by
          intro es
          induction es with
          | nil =>
            intro ts q
            simp only [List.mapM_nil, Option.pure_def, Option.some.injEq] at q
            subst q
            exact ⟨nilG, rfl, rfl, rfl⟩
          | cons e es ihs =>
            intro ts q
            rw [List.mapM_cons] at q
            cases q1 : trT T₀ sc n e with
            | none => simp only [q1, Option.bind_eq_bind, Option.bind_none, reduceCtorEq] at q
            | some t =>
              cases q2 : es.mapM (trT T₀ sc n) with
              | none => simp only [q1, q2, Option.bind_eq_bind, Option.bind_none, Option.bind_some, reduceCtorEq] at q
              | some ts' =>
                simp only [q1, q2, Option.bind_eq_bind, Option.bind_some, Option.pure_def, Option.some.injEq] at q
                subst q
                obtain ⟨a1, a2, a3, a4⟩ := ihs ts' q2
                have hs : assignEach (e :: es) X.env = (false, assign e X.env) :: assignEach es X.env := by
                  cases n with
                  | zero => simp only [trT, reduceCtorEq] at q1
                  | succ n => cases e <;> first | rfl | (simp only [trT, reduceCtorEq] at q1)
                refine ⟨consG (ih q1) a1 (by rw [hs]; rfl), by simp [a2], by rw [hs]; simp [a3], by rw [hs, List.findIdx?_cons, a4]; rfl⟩
        obtain ⟨a1, a2, a3, a4⟩ := all es ts q
        exact tupG hc a1 a2 a3 a4
    | _ => simp only [trT, reduceCtorEq] at h
end
end Nz
namespace Nz
open PySem L2 PyProof.Rows
/-! ### comprehensions -/
section
variable {K : PySem.W.Frag} {F : Nm} {μ μ' : Mu} {H H' : Hp} {st s : Store} {ρ : Env} {σ : L2.St}
theorem WP.anchor {α β : Type} {r : R α} {f : α → Store → R β} {Φ : β → Store → Mu → Hp → Prop} (h : WP K F μ H (r.bind f) Φ) : WP K F μ' H' r fun a s _ _ => WP K F μ H (f a s) Φ := by
  cases r with
  | no => exact h
  | ok a s => exact fun _ _ _ => h
theorem forget_get {i : Nat} {d : D} : ∀ {vs : List Nat}, (forget ρ vs)[i]? = some (some d) → ρ[i]? = some (some d) ∧ i ∉ vs
  | [], h => ⟨h, by simp⟩
  | v :: vs, h => by
    simp only [forget] at h
    by_cases e : v = i
    · subst e
      by_cases hv : v < (forget ρ vs).length
      · rw [List.getElem?_set_self hv] at h; cases h
      · rw [List.getElem?_eq_none (by simpa using hv)] at h; cases h
    · rw [List.getElem?_set_ne e] at h
      obtain ⟨h1, h2⟩ := forget_get h
      exact ⟨h1, by simp only [List.mem_cons, not_or]; exact ⟨fun q => e q.symm, h2⟩⟩
theorem forget_len : ∀ vs : List Nat, (forget ρ vs).length = ρ.length
  | [] => rfl
  | v :: vs => by simp only [forget, List.length_set]; exact forget_len vs
theorem wipe_out' {i : Nat} : ∀ {vs : List Nat}, i ∉ vs → (wipe σ vs)[i]? = σ[i]?
  | [], _ => rfl
  | v :: vs, h => by
    simp only [List.mem_cons, not_or] at h
    show ((wipe σ vs).set v none)[i]? = _
    rw [List.getElem?_set_ne (Ne.symm h.1)]
    exact wipe_out' h.2
theorem Sim.wipe (S : Sim K F μ ρ st σ H) (vs : List Nat) : Sim K F μ (forget ρ vs) st (L2.wipe σ vs) H := by
  refine ⟨by rw [forget_len, wipe_length]; exact S.len, fun i d h => ?_, S.sto⟩
  obtain ⟨h1, h2⟩ := forget_get h
  obtain ⟨v, e, r⟩ := S.env i d h1
  exact ⟨v, by rw [wipe_out' h2]; exact e, r⟩
theorem wipe_in {i : Nat} : ∀ {vs : List Nat}, i ∈ vs → i < σ.length → (L2.wipe σ vs)[i]? = some none
  | v :: vs, h, hl => by
    show ((L2.wipe σ vs).set v none)[i]? = _
    by_cases e : v = i
    · subst e
      rw [List.getElem?_set_self (by rw [wipe_length]; exact hl)]
    · rw [List.getElem?_set_ne e]
      rcases List.mem_cons.mp h with q | q
      · exact absurd q.symm e
      · exact wipe_in q hl
theorem wipe_near {σ' : L2.St} {vs ws : List Nat} (n : Near ws (L2.wipe σ vs) σ') (h : ∀ i ∈ ws, i ∈ vs) : L2.wipe σ' vs = L2.wipe σ vs := by
  have l1 : σ'.length = σ.length := by rw [n.1, wipe_length]
  refine List.ext_getElem? fun i => ?_
  by_cases hi : i ∈ vs
  · by_cases hl : i < σ.length
    · rw [wipe_in hi hl, wipe_in hi (by omega)]
    · rw [List.getElem?_eq_none (by rw [wipe_length]; omega), List.getElem?_eq_none (by rw [wipe_length]; omega)]
  · rw [wipe_out' hi, n.2 i (fun q => hi (h i q))]
/-- a list that is made aside, written once more -/
theorem Post.aside {D : Addr} {u w : HO} {s2 : Store} (P : Post K F μ H s2 μ' H') (hD : H D = none) (hn : (D, false) ∉ μ') (hw : H' D = some w) (mw : Mutl w) : Post K F μ H s2 μ' (upd H' D u) := by
  have kt : ∀ a xs, H' a = some (.tup xs) → upd H' D u a = some (.tup xs) := fun a xs z => by rw [upd_ne (fun q => by subst q; rw [hw] at z; cases z; exact mw)]; exact z
  have kf : ∀ a o x, H' a = some (.frz o x) → upd H' D u a = some (.frz o x) := fun a o x z => by rw [upd_ne (fun q => by subst q; rw [hw] at z; cases z; exact mw)]; exact z
  refine ⟨P.pre, fun a o h n => ?_, P.new, ⟨P.sto.len, fun l o a h1 h2 => ?_, fun l o a h1 h2 => (P.sto.atk l o a h1 h2).keep (List.prefix_refl _) kt kf, P.sto.inj⟩⟩
  · rw [upd_ne (fun q => by subst q; rw [hD] at h; cases h)]
    exact P.frm a o h n
  · have hne : a ≠ D := fun q => hn (by subst q; exact List.mem_iff_getElem?.mpr ⟨l, h2⟩)
    exact (P.sto.at_ l o a h1 h2).keep (List.prefix_refl _) kt kf (upd_ne hne)
theorem Post.away {D : Addr} {u : HO} {s2 : Store} (P : Post K F μ H s2 μ' H') (hn : (D, false) ∉ μ) (hD : H D = some u) : (D, false) ∉ μ' ∧ H' D = some u :=
  ⟨fun m => (by have := P.new D m hn; rw [hD] at this; cases this), P.frm D u hD (.inl hn)⟩
end
section
variable {K : PySem.W.Frag} {F : Nm} {μ μ' : Mu} {H H' : Hp} {st s : Store} {ρ : Env} {σ : L2.St}
theorem Post.cut (S : Sto K F μ st H) (P : Post K F μ H s μ' H') (h : pfx st.length st s = true) : Post K F μ H (s.take st.length) μ H' :=
  ⟨List.prefix_refl _, P.frm, fun a h n => absurd h n, S.cutS P h⟩
theorem D.cls_app {n : Nat} : ∀ {as : List D} {b : D}, D.cls n as = true → D.cl n b = true → D.cls n (as ++ [b]) = true
  | [], b, _, h => by simp only [List.nil_append, D.cls, h, Bool.and_true]
  | a :: as, b, h, h2 => by
    simp only [D.cls, Bool.and_eq_true] at h
    simp only [List.cons_append, D.cls, h.1, Bool.true_and]
    exact D.cls_app h.2 h2
theorem Sim.low (S : Sim K F μ' ρ s σ H') (p : μ <+: μ') (so : Sto K F μ st H') (h : envCl μ.length ρ = true) : Sim K F μ ρ st σ H' := by
  refine ⟨S.len, fun i d e => ?_, so⟩
  obtain ⟨v, h1, h2⟩ := S.env i d e
  refine ⟨v, h1, h2.low p ?_⟩
  have := List.all_eq_true.mp h _ (List.mem_of_getElem? e)
  simpa using this
/-- behind a turn -/
theorem cutE_ok (S : Sto K F μ st H) (P : Post K F μ H s μ' H') (M : Sim K F μ' ρ s σ H') : ∃ μ'', Post K F μ H (cutE st ρ s) μ'' H' ∧ Sim K F μ'' ρ (cutE st ρ s) σ H' := by
  unfold cutE
  cases q : pfx st.length st s && envCl st.length ρ with
  | false => exact ⟨μ', P, M⟩
  | true =>
    rw [Bool.and_eq_true] at q
    exact ⟨μ, Post.cut S P q.1, M.low P.pre (S.cutS P q.1) (by rw [S.len]; exact q.2)⟩
end
/-- what one turn of a comprehension does -/
abbrev stepC (t : T) (ρ₀ : Env) (fc : Env → Store → R Bool) (fe : Env → Store → R D) : D → Store → R (Option D) := fun d s => (match T.asg t d ρ₀ with
      | none => .no
      | some ρ1 => (fc ρ1 s).bind fun k s => (match k with
        | true => (fe ρ1 s).bind fun x s => .ok (some x) s
        | false => .ok none s))
section
variable {X : Cx} {F : Nm}
theorem compE {elt tg iter : Expr} {ifs : List Expr} {scope : Scope} {own : List (Str × Nat)} {pos : Pos} {t : T} {fi : Env → Store → R Wk} {fc : Env → Store → R Bool} {fe : Env → Store → R D}
    (hts : ∀ i ∈ t.slots, i ∈ own.map (·.2)) {σ : L2.St} {H : Hp} {Q : VK}
    (w : tE X.K F (fun ρ st => (fi ρ st).bind fun w s => (compLoop (stepC t (forget ρ (own.map (·.2))) fc fe) w.wat s true w.its s).bind fun ds s => newL ds s) σ H Q) :
    tLc (tIt X.K F fi) (gT X.K F t) (tCo X.K F fc) (tE X.K F fe) (own.map (·.2)) σ H Q := by
  obtain ⟨μ, ρ, st, S, w⟩ := w
  refine ⟨μ, ρ, st, S, w.bind.mono fun wk s1 μ1 H1 P1 w1 J hJ D hD => ?_⟩
  have S1 := S.post P1
  -- the state between two turns: what is made so far stands at D
  let Iv := fun (i : Nat) (H2 : Hp) => ∃ (c : Bool) (acc : List Nz.D) (vs : List V) (s2 : Store) (μ2 : Mu), H2 D = some (.lst vs) ∧ (D, false) ∉ μ2 ∧ Rps X.K μ2 H2 acc vs ∧ Post X.K F μ1 H1 s2 μ2 H2 ∧ i ≤ wk.its.length ∧
    (c = true → Nz.D.cls s1.length acc = true) ∧ WP X.K F μ1 H1 ((compLoop (stepC t (forget ρ (own.map (·.2))) fc fe) wk.wat s1 c (wk.its.drop i) s2).bind fun ds s => newL (acc ++ ds) s) (VQ X.K Q)
  refine ⟨fun i m H2 => m = wk.its.length - i ∧ Iv i H2, ⟨wk.its.length, by simp, ?_⟩, ?_⟩
  · refine ⟨true, [], [], s1, μ1, upd_same, P1.sto.free hD, .nil, Post.fresh P1.sto hD, Nat.zero_le _, fun _ => (by simp only [Nz.D.cls]), ?_⟩
    simpa using w1
  · rintro i m H2 ⟨rfl, cc, acc, vs, s2, μ2, hv, hn, ra, P2, hi, hcl, w2⟩
    by_cases hlt : i < wk.its.length
    · have ed : wk.its.drop i = wk.its[i] :: wk.its.drop (i + 1) := List.drop_eq_getElem_cons hlt
      rw [ed] at w2
      simp only [compLoop] at w2
      have hw : watOk wk.wat s2 = true := by
        cases q : watOk wk.wat s2 with
        | true => rfl
        | false => rw [q] at w2; exact w2.elim
      rw [hw, R.grd_true, R.bind_assoc] at w2
      obtain ⟨j1, j2, j3⟩ := hJ s2 μ2 H2 P2 hw
      refine .inr ⟨j1 i hlt, fun H' => Iv (i + 1) H', fun H' h' => ⟨wk.its.length - (i + 1), by omega, rfl, h'⟩, fun x H3 y => ?_⟩
      obtain ⟨d, hd, P3, rd⟩ := j3 i x H3 hlt y
      have hd' : d = wk.its[i] := by
        rw [List.getElem?_eq_getElem hlt] at hd
        exact (Option.some.inj hd).symm
      subst hd'
      obtain ⟨n3, v3⟩ := P3.away hn hv
      have P13 := P2.trans P3
      have S3 := (S1.post P13).wipe (own.map (·.2))
      have w3 := WP.anchor (μ' := μ2) (H' := H3) w2
      cases ha : T.asg t wk.its[i] (forget ρ (own.map (·.2))) with
      | none =>
        simp only [stepC, ha] at w3
        exact w3.elim
      | some ρ1 =>
        simp only [stepC, ha] at w3
        refine ⟨μ2, _, s2, _, ρ1, S3, rd, ha, fun σ2 S4 n4 => ⟨wipe_near n4 hts, ?_⟩⟩
        refine ⟨μ2, ρ1, s2, S4, (WP.bind w3).mono fun b s4 μ4 H4 P4 w4 => ?_⟩
        obtain ⟨n5, v5⟩ := P4.away n3 v3
        cases b with
        | false =>
          rw [if_neg Bool.false_ne_true]
          have w5 := WP.ok P4.sto w4
          rw [R.bind_assoc] at w5
          cases hb : cutB cc s1 none s4 with
          | false =>
            rw [hb] at w5
            exact ⟨false, acc, vs, s4, μ4, v5, n5, (ra.post P3).post P4, P13.trans P4, hlt, fun q => (by cases q), w5⟩
          | true =>
            rw [hb] at w5
            have hb' := hb
            simp only [cutB, Bool.and_eq_true] at hb'
            have hac := hcl hb'.1
            refine ⟨true, acc, vs, s4.take s1.length, μ1, v5, P1.sto.free hD, ((ra.post P3).post P4).low (P13.trans P4).pre (by rw [P1.sto.len]; exact hac), Post.cut P1.sto (P13.trans P4) hb'.2.1, hlt, fun _ => hac, w5⟩
        | true =>
          rw [if_pos rfl]
          refine ⟨μ4, ρ1, s4, S4.post P4, (WP.bind w4).mono fun z s5 μ5 H5 P5 w5 v rv => ?_⟩
          obtain ⟨n6, v6⟩ := P5.away n5 v5
          have w6 := WP.ok P5.sto w5
          have hz : vs.length < sizeLine := by
            have w7 := w6
            rw [R.bind_assoc] at w7
            cases q : compLoop (stepC t (forget ρ (own.map (·.2))) fc fe) wk.wat s1 (cutB cc s1 (some z) s5) (wk.its.drop (i + 1)) (cutT (cutB cc s1 (some z) s5) s1 s5) with
            | no => rw [q] at w7; exact w7.elim
            | ok r s6 =>
              rw [q] at w7
              simp only [R.bind_ok] at w7
              obtain ⟨hl, _⟩ := w7.grd
              have hl : (acc ++ z :: r).length ≤ 16777216 := of_decide_eq_true hl
              rw [List.length_append, List.length_cons, ra.length] at hl
              rw [sizeLine_eq]; omega
          have kt : ∀ a xs, H5 a = some (.tup xs) → upd H5 D (.lst (vs ++ [v])) a = some (.tup xs) := fun a xs z => by rw [upd_ne (fun q => by subst q; rw [v6] at z; cases z)]; exact z
          have kf : ∀ a o x, H5 a = some (.frz o x) → upd H5 D (.lst (vs ++ [v])) a = some (.frz o x) := fun a o x z => by rw [upd_ne (fun q => by subst q; rw [v6] at z; cases z)]; exact z
          have ra6 := ((((ra.post P3).post P4).post P5).append (.cons rv .nil)).mono (List.prefix_refl _) kt kf
          have P6 := Post.aside (u := .lst (vs ++ [v])) ((P13.trans P4).trans P5) hD n6 v6 trivial
          rw [R.bind_assoc] at w6
          cases hb : cutB cc s1 (some z) s5 with
          | false =>
            rw [hb] at w6
            refine ⟨vs, v6, hz, false, acc ++ [z], vs ++ [v], s5, μ5, upd_same, n6, ra6, P6, hlt, fun q => (by cases q), ?_⟩
            simpa [cutT] using w6
          | true =>
            rw [hb] at w6
            have hb' := hb
            simp only [cutB, Bool.and_eq_true] at hb'
            have hac : Nz.D.cls s1.length (acc ++ [z]) = true := Nz.D.cls_app (hcl hb'.1) hb'.2.2
            refine ⟨vs, v6, hz, true, acc ++ [z], vs ++ [v], s5.take s1.length, μ1, upd_same, P1.sto.free hD, ra6.low P6.pre (by rw [P1.sto.len]; exact hac), Post.cut P1.sto P6 hb'.2.1, hlt, fun _ => hac, ?_⟩
            simpa [cutT] using w6
    · have e : i = wk.its.length := by omega
      subst e
      rw [List.drop_length] at w2
      simp only [compLoop] at w2
      have hw : watOk wk.wat s2 = true := by
        cases q : watOk wk.wat s2 with
        | true => rfl
        | false => rw [q] at w2; exact w2.elim
      rw [hw, R.grd_true, R.bind_ok, List.append_nil] at w2
      obtain ⟨j1, j2, j3⟩ := hJ s2 μ2 H2 P2 hw
      refine .inl ⟨j2, ?_⟩
      obtain ⟨_, w3⟩ := w2.grd
      have P4 := Post.adopt (o := .lst acc) P2 hD hn ⟨vs, hv, ra.mono (List.prefix_append _ _) (fun _ _ h => h) (fun _ _ _ h => h)⟩
      exact w3 _ _ P4 _ (.ref (b := false) (by rw [← P2.sto.len]; simp))
end
end Nz
namespace Nz
open PySem L2 PyProof.Rows
/-! ### comprehensions of two walks -/
section
variable {K : PySem.W.Frag} {F : Nm} {μ μ' : Mu} {H H' : Hp} {st s : Store}
theorem WP.up {α : Type} {r : R α} {Φ : α → Store → Mu → Hp → Prop} (P : Post K F μ H st μ' H') (w : WP K F μ H r Φ) : WP K F μ' H' r Φ := by
  cases r with
  | no => exact w
  | ok a s => exact fun μ2 H2 p => w μ2 H2 (P.trans p)
end
abbrev inB (t2 : T) (vs : List Nat) (l : Nat) (fc : Env → Store → R Bool) (fe : Env → Store → R D) (ρ1 : Env) : D → Store → R D := fun d s3 => (match T.asg t2 d (forget ρ1 vs) with
        | none => .no
        | some ρ2 => (fc ρ2 s3).bind fun k s4 => (match k with
          | true => (fe ρ2 s4).bind fun x s5 => append (.ref l) x s5
          | false => .ok .non s4))
abbrev outB (t t2 : T) (vs : List Nat) (l : Nat) (fi1 : Env → Store → R Wk) (fc : Env → Store → R Bool) (fe : Env → Store → R D) (ρ0 : Env) : D → Store → R D := fun d s1 => (match T.asg t d ρ0 with
      | none => .no
      | some ρ1 => (fi1 ρ1 s1).bind fun w1 s2 => lpU (inB t2 vs l fc fe ρ1) w1.wat w1.its s2)
section
variable {X : Cx} {F : Nm}
theorem lpU_cons {K : PySem.W.Frag} {μ : Mu} {H : Hp} {step : D → Store → R D} {wat : List (Nat × O)} {d : D} {ds : List D} {s : Store} {f : D → Store → R D} {Φ : D → Store → Mu → Hp → Prop} (w : WP K F μ H ((lpU step wat (d :: ds) s).bind f) Φ) : watOk wat s = true ∧ WP K F μ H ((step d s).bind fun _ s => (lpU step wat ds s).bind f) Φ := by
  simp only [lpU] at w
  cases q : watOk wat s with
  | false => rw [q] at w; exact w.elim
  | true =>
    rw [q, R.grd_true, R.bind_assoc] at w
    exact ⟨rfl, w⟩
theorem lpU_nil {K : PySem.W.Frag} {μ : Mu} {H : Hp} {step : D → Store → R D} {wat : List (Nat × O)} {s : Store} {f : D → Store → R D} {Φ : D → Store → Mu → Hp → Prop} (w : WP K F μ H ((lpU step wat [] s).bind f) Φ) : watOk wat s = true ∧ WP K F μ H (f .non s) Φ := by
  simp only [lpU] at w
  cases q : watOk wat s with
  | false => rw [q] at w; exact w.elim
  | true =>
    rw [q, R.grd_true, R.bind_ok] at w
    exact ⟨rfl, w⟩
theorem compE2 {own : List (Str × Nat)} {t t2 : T} {fi fi1 : Env → Store → R Wk} {fc : Env → Store → R Bool} {fe : Env → Store → R D}
    (hts : ∀ i ∈ t.slots, i ∈ own.map (·.2)) {σ : L2.St} {H : Hp} {Q : VK}
    (w : tE X.K F (fun ρ st => (fi ρ st).bind fun w s => (lpU (outB t t2 t2.slots s.length fi1 fc fe (forget ρ (own.map (·.2)))) w.wat w.its (s ++ [.lst []])).bind fun _ s' => .ok (.ref s.length) s') σ H Q) :
    tLc2 (tIt X.K F fi) (gT X.K F t) (tCo X.K F fun _ st => .ok true st) (tIt X.K F fi1) (gT X.K F t2) (tCo X.K F fc) (tE X.K F fe) (own.map (·.2)) t2.slots σ H Q := by
  obtain ⟨μ, ρ, st, S, w⟩ := w
  refine ⟨μ, ρ, st, S, w.bind.mono fun wk s1 μ1 H1 P1 w1 J hJ D hD => ?_⟩
  have PD : Post X.K F μ1 H1 (s1 ++ [.lst []]) (μ1 ++ [(D, false)]) (upd H1 D (.lst [])) := Post.push P1.sto hD ⟨[], upd_same, .nil⟩
  have hlD : (μ1 ++ [(D, false)])[s1.length]? = some (D, false) := by rw [← P1.sto.len]; simp
  have SD := (S.post P1).post PD
  have w1 := w1.up PD
  obtain ⟨l, hl⟩ : ∃ l, l = s1.length := ⟨_, rfl⟩
  rw [← hl] at w1 hlD
  generalize hμD : μ1 ++ [(D, false)] = μD at *
  generalize hHD : upd H1 D (.lst []) = HD at *
  let out := outB t t2 t2.slots l fi1 fc fe (forget ρ (own.map (·.2)))
  let fin : Nz.D → Store → R Nz.D := fun _ s' => .ok (.ref l) s'
  let Iv := fun (i : Nat) (H2 : Hp) => ∃ (s2 : Store) (μ2 : Mu), Post X.K F μ1 H1 s2 μ2 H2 ∧ Post X.K F μD HD s2 μ2 H2 ∧ i ≤ wk.its.length ∧ WP X.K F μ2 H2 ((lpU out wk.wat (wk.its.drop i) s2).bind fin) (VQ X.K Q)
  refine ⟨fun i m H2 => m = wk.its.length - i ∧ Iv i H2, ⟨wk.its.length, by simp, s1 ++ [O.lst []], μD, PD, .refl PD.sto, Nat.zero_le _, by rw [List.drop_zero]; exact w1⟩, ?_⟩
  rintro i m H2 ⟨rfl, s2, μ2, P2, Q2, hi, w2⟩
  by_cases hlt : i < wk.its.length
  · rw [List.drop_eq_getElem_cons hlt] at w2
    obtain ⟨hw, w2⟩ := lpU_cons w2
    obtain ⟨j1, j2, j3⟩ := hJ s2 μ2 H2 P2 hw
    refine .inr ⟨j1 i hlt, fun H' => Iv (i + 1) H', fun H' h' => ⟨wk.its.length - (i + 1), by omega, rfl, h'⟩, fun x H3 y => ?_⟩
    obtain ⟨d, hd, P3, rd⟩ := j3 i x H3 hlt y
    have hd' : d = wk.its[i] := by
      rw [List.getElem?_eq_getElem hlt] at hd
      exact (Option.some.inj hd).symm
    subst hd'
    have S3 := (SD.post (Q2.trans P3)).wipe (own.map (·.2))
    have w3 := w2.up P3
    cases ha : T.asg t wk.its[i] (forget ρ (own.map (·.2))) with
    | none =>
      simp only [out, outB, ha] at w3
      exact w3.elim
    | some ρ1 =>
      simp only [out, outB, ha] at w3
      rw [R.bind_assoc] at w3
      refine ⟨μ2, _, s2, _, ρ1, S3, rd, ha, fun σ2 S4 n4 => ⟨wipe_near n4 hts, ?_⟩⟩
      refine ⟨μ2, ρ1, s2, S4, fun μ4 H4 P4 => ?_⟩
      show if true = true then _ else _
      rw [if_pos rfl]
      refine ⟨μ4, ρ1, s2, S4.post P4, (WP.bind (w3.up P4)).mono fun wk1 s5 μ5 H5 P5 w5 J1 hJ1 => ?_⟩
      have S5 := (S4.post P4).post P5
      have Q5 := ((Q2.trans P3).trans P4).trans P5
      have R5 := ((P2.trans P3).trans P4).trans P5
      let Iv1 := fun (j : Nat) (H6 : Hp) => ∃ (s6 : Store) (μ6 : Mu), Post X.K F μ5 H5 s6 μ6 H6 ∧ j ≤ wk1.its.length ∧ WP X.K F μ6 H6 ((lpU (inB t2 t2.slots l fc fe ρ1) wk1.wat (wk1.its.drop j) s6).bind fun _ s => (lpU out wk.wat (wk.its.drop (i + 1)) s).bind fin) (VQ X.K Q)
      refine ⟨fun j k H6 => k = wk1.its.length - j ∧ Iv1 j H6, ⟨wk1.its.length, by simp, s5, μ5, .refl P5.sto, Nat.zero_le _, w5⟩, ?_⟩
      rintro j k H6 ⟨rfl, s6, μ6, P6, hj, w6⟩
      by_cases hlt1 : j < wk1.its.length
      · rw [List.drop_eq_getElem_cons hlt1] at w6
        obtain ⟨hw1, w6⟩ := lpU_cons w6
        obtain ⟨k1, k2, k3⟩ := hJ1 s6 μ6 H6 P6 hw1
        refine .inr ⟨k1 j hlt1, fun H' => Iv1 (j + 1) H', fun H' h' => ⟨wk1.its.length - (j + 1), by omega, rfl, h'⟩, fun x1 H7 y1 => ?_⟩
        obtain ⟨d1, hd1, P7, rd1⟩ := k3 j x1 H7 hlt1 y1
        have hd1' : d1 = wk1.its[j] := by
          rw [List.getElem?_eq_getElem hlt1] at hd1
          exact (Option.some.inj hd1).symm
        subst hd1'
        have S7 := (S5.post (P6.trans P7)).wipe t2.slots
        have w7 := w6.up P7
        cases ha1 : T.asg t2 wk1.its[j] (forget ρ1 t2.slots) with
        | none =>
          simp only [inB, ha1] at w7
          exact w7.elim
        | some ρ2 =>
          simp only [inB, ha1] at w7
          rw [R.bind_assoc] at w7
          refine ⟨μ6, _, s6, _, ρ2, S7, rd1, ha1, fun σ3 S8 n8 => ⟨wipe_near n8 (fun _ h => h), ?_⟩⟩
          refine ⟨μ6, ρ2, s6, S8, (WP.bind w7).mono fun b s8 μ8 H8 P8 w8 => ?_⟩
          cases b with
          | false =>
            rw [if_neg Bool.false_ne_true]
            exact ⟨s8, μ8, (P6.trans P7).trans P8, hlt1, w8⟩
          | true =>
            rw [if_pos rfl]
            simp only [R.bind_assoc] at w8
            refine ⟨μ8, ρ2, s8, S8.post P8, (WP.bind w8).mono fun z s9 μ9 H9 P9 w9 v rv => ?_⟩
            have P59 := ((P6.trans P7).trans P8).trans P9
            have hl9 : μ9[l]? = some (D, false) := pre_get (Q5.trans P59).pre hlD
            obtain ⟨es, he, hlen, w10⟩ : ∃ es, s9[l]? = some (.lst es) ∧ es.length < 16777216 ∧ WP X.K F μ9 H9 ((lpU (inB t2 t2.slots l fc fe ρ1) wk1.wat (wk1.its.drop (j + 1)) (s9.set l (.lst (es ++ [z])))).bind fun _ s => (lpU out wk.wat (wk.its.drop (i + 1)) s).bind fin) (VQ X.K Q) := by
              simp only [append] at w9
              split at w9
              · rename_i es he
                by_cases hle : es.length < 16777216
                · rw [decide_eq_true hle, R.grd_true, R.bind_ok] at w9
                  exact ⟨es, he, hle, w9⟩
                · rw [decide_eq_false hle, R.grd_false] at w9
                  exact w9.elim
              · exact w9.elim
            obtain ⟨ws, h1, r1⟩ := P9.sto.back he hl9 rfl
            have kt : ∀ a xs, H9 a = some (.tup xs) → upd H9 D (.lst (ws ++ [v])) a = some (.tup xs) := fun a xs z => by rw [upd_ne (fun q => by subst q; rw [h1] at z; cases z)]; exact z
            have kf : ∀ a o w, H9 a = some (.frz o w) → upd H9 D (.lst (ws ++ [v])) a = some (.frz o w) := fun a o w z => by rw [upd_ne (fun q => by subst q; rw [h1] at z; cases z)]; exact z
            have P := Post.write (u := .lst (ws ++ [v])) (o' := .lst (es ++ [z])) P9.sto he hl9 rfl h1 trivial ⟨_, upd_same, (r1.append (.cons rv .nil)).mono (List.prefix_refl _) kt kf⟩
            exact ⟨ws, h1, by rw [← r1.length, sizeLine_eq]; exact hlen, _, μ9, P59.trans P, hlt1, w10.up P⟩
      · have e : j = wk1.its.length := by omega
        subst e
        rw [List.drop_length] at w6
        obtain ⟨hw1, w6⟩ := lpU_nil w6
        obtain ⟨k1, k2, k3⟩ := hJ1 s6 μ6 H6 P6 hw1
        exact .inl ⟨k2, s6, μ6, R5.trans P6, Q5.trans P6, hlt, w6⟩
  · have e : i = wk.its.length := by omega
    subst e
    rw [List.drop_length] at w2
    obtain ⟨hw, w2⟩ := lpU_nil w2
    obtain ⟨j1, j2, j3⟩ := hJ s2 μ2 H2 P2 hw
    exact .inl ⟨j2, WP.ok (Φ := VQ X.K Q) P2.sto w2 _ (.ref (b := false) (pre_get Q2.pre hlD))⟩
end
end Nz
namespace Nz
open PySem L2 PyProof.Rows
section
variable {X : Cx} {F : Nm} {T : Tab} {G : Ctx} {call : Nat → List D → Store → R D}
/-! ### arguments without stars -/
theorem star_cons {e : Expr} {es : List Expr} {env : PySem.Env} (h : isStar e = false) : starEach (e :: es) env = (false, eval e env) :: starEach es env := by
  cases e <;> first | rfl | cases h
theorem star_one {e : Expr} {env : PySem.Env} (h : isStar e = false) : starEach [e] env = [(false, eval e env)] := by rw [star_cons h]; rfl
theorem star_two {e f : Expr} {env : PySem.Env} (h : isStar e = false) (h' : isStar f = false) : starEach [e, f] env = [(false, eval e env), (false, eval f env)] := by rw [star_cons h, star_one h']
/-- no star in a list -/
def noStar (es : List Expr) : Prop := ∀ e ∈ es, isStar e = false
theorem noStar.any {env : PySem.Env} {pos : Pos} : ∀ {es : List Expr}, noStar es → (backTo pos (starEach es env)).any (·.1) = false
  | [], _ => rfl
  | e :: es, h => by
    rw [star_cons (h e (List.mem_cons_self ..))]
    show (false || (backTo pos (starEach es env)).any (·.1)) = false
    rw [noStar.any fun e' he => h e' (List.mem_cons_of_mem _ he)]; rfl
theorem noStar.form {env : PySem.Env} {pos : Pos} {es : List Expr} (h : noStar es) (hl : es.length < 20) : methodCallForm (es.length + 0) (backTo pos (starEach es env)) [] = true := by
  unfold methodCallForm
  have h1 : (backTo pos (starEach es env)).all (fun x => !x.1) = true := by
    have q := h.any (env := env) (pos := pos)
    rw [List.all_eq_true]
    intro x hx
    cases e : x.1 with
    | false => rfl
    | true =>
      rw [List.any_eq_false] at q
      exact absurd e (q x hx)
  rw [h1]
  simp; omega
theorem methTree {env : PySem.Env} {o : Expr} {m : Str} {apos pos : Pos} {args : List Expr} (h : attributeBase o m env (eval o env) = eval o env) (hline : (apos.endLine == pos.line) = true) (hfew : methodCallForm (args.length + 0) (backTo pos (starEach args env)) [] = true) :
  eval (.Call (.Attribute o m apos) args [] pos) env = (do
      let ov ← eval o env
      standAt apos.atName
      let (f, first) ← holding [ov] (getMethod ov m (do return (← importBound o env).getD true))
      callWith pos f first (backTo pos (starEach args env)) (backToKw pos (keywordEach [] env))) := by
  conv => lhs; unfold eval
  rw [h]
  have e1 : methodCallForm (args.length + ([] : List Keyword).length) (backTo pos (starEach args env)) (backToKw pos (keywordEach [] env)) = true := by
    have : keywordEach [] env = [] := by unfold keywordEach; rfl
    rw [this]; exact hfew
  unfold methodCall
  rw [e1]
  simp only [methodCallPos, hline, calleeOf, Bool.not_true, Bool.false_or, if_true, pure_bind]
  try rfl
theorem base_ok {o : Expr} {m : Str} {env : PySem.Env} (h : isCall o = false) : attributeBase o m env (eval o env) = eval o env := by
  cases o with
  | Call f as kws p =>
    cases f with
    | Name x q =>
      cases as with
      | nil => cases kws with
        | nil => cases h
        | cons _ _ => rfl
      | cons _ _ => rfl
    | _ => rfl
  | _ => rfl
/-! ### methods, properties -/
theorem cls_ok {K : PySem.W.Frag} {μ : Mu} {H : Hp} {st : Store} {d : D} {v : V} {c : Nat} (S : Sto K F μ st H) (r : Rp K μ H d v) (h : clsOf d st = some c) :
    ∃ (l : Nat) (a C dx : Addr) (fs : List (Nat × D)) (fv : List (Str × V)), d = .ref l ∧ v = .ref a ∧ F.cls c = some C ∧ H a = some (.ins C dx fv) ∧ RpF K F μ H fs fv := by
  cases r with
  | @ref l a b hl =>
    unfold clsOf at h
    simp only at h
    split at h
    · rename_i c' fs hst
      cases h
      obtain ⟨C, dx, fv, h1, h2, h3⟩ := S.back hst hl rfl
      exact ⟨l, a, C, dx, fs, fv, rfl, rfl, h1, h2, h3⟩
    · cases h
  | _ => unfold clsOf at h; cases h
theorem methF_ok {l : List (List (Nat × Nat))} {m f : Nat} {d : D} {st : Store} (h : methF l m d st = some f) : ∃ c, clsOf d st = some c ∧ atOf l m c = some f := by
  unfold methF at h
  cases e : clsOf d st with
  | none => rw [e] at h; cases h
  | some c => rw [e] at h; exact ⟨c, rfl, h⟩
theorem fv_none {K : PySem.W.Frag} {μ : Mu} {H : Hp} {x : Str} (hx : x ∉ F.fld) : ∀ {fs : List (Nat × D)} {fv : List (Str × V)}, RpF K F μ H fs fv → fv.lookup x = none
  | _, _, .nil => rfl
  | (j, d) :: fs, (y, v) :: fv, .cons h t => by
    have hne : (x == y) = false := by
      rw [beq_eq_false_iff_ne]
      intro q; subst q
      exact hx (List.mem_of_getElem? (show F.fld[j]? = some x from h.1))
    simp only [List.lookup, hne]
    exact fv_none hx t
theorem methE0 (o : Ok X F T G call) {a : Expr} {g : Env → Store → R D} {m : Nat} {x : Str} {apos pos : Pos} (hx : T.mth[m]? = some x) (ha : PE X a (tE X.K F g)) (hb : isCall a = false) (hline : (apos.endLine == pos.line) = true) :
    PE X (.Call (.Attribute a x apos) [] [] pos) (tE X.K F fun ρ st => (g ρ st).bind fun y s => (match methF G.meth m y s with
    | some f => call f [y] s
    | none => .no)) := by
  refine ⟨fun pins s σ H Q I w => ?_⟩
  obtain ⟨μ, ρ, st, S, w⟩ := w
  dsimp only at w
  cases hg : g ρ st with
  | no => rw [hg] at w; exact w.elim
  | ok d s1 =>
    have w' := WP.bind w
    rw [hg] at w w'
    simp only [R.bind_ok] at w
    cases hf : methF G.meth m d s1 with
    | none => rw [hf] at w; exact w.elim
    | some f =>
      obtain ⟨c, hc, hm⟩ := methF_ok hf
      obtain ⟨hnf, C, fa, fd, ps, k, hC, hM, hr, hF, hB⟩ := o.mth m x c f hx hm
      refine (pe_meth0 ha (o.kit.cl c C hC) hM hF hr hB .nil pass0 (methTree (base_ok hb) hline (noStar.form (by intro e h; cases h) (by simp)))).run pins s σ H Q I ⟨μ, ρ, st, S, ?_⟩
      rw [hg]
      intro μ1 H1 P1 v rv
      have w1 := w' μ1 H1 P1
      obtain ⟨l, p, C', dx, fs, fv, rfl, rfl, e1, e2, e3⟩ := cls_ok P1.sto rv hc
      rw [hC] at e1
      cases e1
      refine ⟨p, dx, fv, rfl, e2, fv_none (by rw [o.fld]; exact hnf) e3, ?_⟩
      rw [hf] at w1
      exact ⟨μ1, s1, [.ref l], P1.sto, .cons rv .nil, w1⟩
theorem methE (o : Ok X F T G call) {a b : Expr} {es : List Expr} {g : Env → Store → R D} {k : Env → Store → R (List D)} {m : Nat} {x : Str} {apos pos : Pos} (hx : T.mth[m]? = some x) (ha : PE X a (tE X.K F g)) (hb : isCall a = false) (hline : (apos.endLine == pos.line) = true)
    (hA : PA X (b :: es) (tAs X.K F k)) (hs : noStar (b :: es)) (hl : (b :: es).length < 20) :
    PE X (.Call (.Attribute a x apos) (b :: es) [] pos) (tE X.K F fun ρ st => (g ρ st).bind fun y s => (match methF G.meth m y s with
    | some f => (k ρ s).bind fun ds s => call f (y :: ds) s
    | none => .no)) := by
  have hs2 : noStar es := fun e he => hs e (List.mem_cons_of_mem _ he)
  refine ⟨fun pins s σ H Q I w => ?_⟩
  obtain ⟨μ, ρ, st, S, w⟩ := w
  dsimp only at w
  cases hg : g ρ st with
  | no => rw [hg] at w; exact w.elim
  | ok d s1 =>
    have w' := WP.bind w
    rw [hg] at w w'
    simp only [R.bind_ok] at w
    cases hf : methF G.meth m d s1 with
    | none => rw [hf] at w; exact w.elim
    | some f =>
      obtain ⟨c, hc, hm⟩ := methF_ok hf
      obtain ⟨hnf, C, fa, fd, ps, n, hC, hM, hr, hF, hB⟩ := o.mth m x c f hx hm
      refine (pe_meth ha (o.kit.cl c C hC) hM hF hr hB .nil pass0 hA (star_cons (hs b (List.mem_cons_self ..))) hs2.any (methTree (base_ok hb) hline (hs.form hl))).run pins s σ H Q I ⟨μ, ρ, st, S, ?_⟩
      rw [hg]
      intro μ1 H1 P1 v rv
      have w1 := w' μ1 H1 P1
      obtain ⟨l, p, C', dx, fs, fv, rfl, rfl, e1, e2, e3⟩ := cls_ok P1.sto rv hc
      rw [hC] at e1
      cases e1
      refine ⟨p, dx, fv, rfl, e2, fv_none (by rw [o.fld]; exact hnf) e3, ?_⟩
      rw [hf] at w1
      refine ⟨μ1, ρ, s1, S.post P1, w1.bind.mono fun ds s2 μ2 H2 P2 w2 vs rs => ?_⟩
      refine ⟨μ2, s2, .ref l :: ds, P2.sto, ?_, w2⟩
      rw [List.append_nil]
      exact .cons (rv.post P2) rs
theorem propE (o : Ok X F T G call) {a : Expr} {g : Env → Store → R D} {m : Nat} {x : Str} {pos : Pos} (hx : T.prp[m]? = some x) (ha : PE X a (tE X.K F g)) (hb : isCall a = false) :
    PE X (.Attribute a x pos) (tE X.K F fun ρ st => (g ρ st).bind fun y s => propR G call m y s) := by
  refine ⟨fun pins s σ H Q I w => ?_⟩
  obtain ⟨μ, ρ, st, S, w⟩ := w
  dsimp only at w
  cases hg : g ρ st with
  | no => rw [hg] at w; exact w.elim
  | ok d s1 =>
    have w' := WP.bind w
    rw [hg] at w w'
    simp only [R.bind_ok] at w
    unfold propR at w w'
    cases hf : methF G.prop m d s1 with
    | none => rw [hf] at w; exact w.elim
    | some f =>
      obtain ⟨c, hc, hm⟩ := methF_ok hf
      obtain ⟨C, q, fa, fd, ps, k, hC, hP, hr, hF, hB⟩ := o.prp m x c f hx hm
      refine (pe_prop ha (o.kit.cl c C hC) hP hF hr hB .nil pass0 (base_ok hb)).run pins s σ H Q I ⟨μ, ρ, st, S, ?_⟩
      rw [hg]
      intro μ1 H1 P1 v rv
      have w1 := w' μ1 H1 P1
      obtain ⟨l, p, C', dx, fs, fv, rfl, rfl, e1, e2, e3⟩ := cls_ok P1.sto rv hc
      rw [hC] at e1
      cases e1
      rw [hf] at w1
      exact ⟨p, dx, fv, rfl, e2, μ1, s1, [.ref l], P1.sto, .cons rv .nil, w1⟩
/-! ### isinstance -/
theorem tyN_ok (o : Ok X F T G call) {x : Str} {k : Ty} {p : Pos} (h : trTy T X.env.scope x = some k) : ∃ u, tyVal F k = some u ∧ PE X (.Name x p) (tC (tyV u)) := by
  unfold trTy at h
  split at h
  · rename_i hf
    obtain ⟨hg, hd, hm⟩ := isFree_ok o hf
    split at h
    · rename_i e; subst e; cases h; exact ⟨_, rfl, pe_bltn hg hm boot_int rfl (by decide) hd⟩
    · split at h
      · rename_i e; subst e; cases h; exact ⟨_, rfl, pe_bltn hg hm boot_bool rfl (by decide) hd⟩
      · split at h
        · rename_i e; subst e; cases h; exact ⟨_, rfl, pe_bltn hg hm boot_str rfl (by decide) hd⟩
        · split at h
          · rename_i e; subst e; cases h; exact ⟨_, rfl, pe_bltn hg hm boot_tuple rfl (by decide) hd⟩
          · split at h
            · rename_i e; subst e; cases h; exact ⟨_, rfl, pe_bltn hg hm boot_list rfl (by decide) hd⟩
            · cases h
  · split at h
    · rename_i hgl
      obtain ⟨hg, hd⟩ := isGl_ok hgl
      cases e : T.cls.lookup x with
      | none => rw [e] at h; cases h
      | some c =>
        rw [e] at h
        cases h
        obtain ⟨C, hC, hm⟩ := o.cls x c e
        exact ⟨.ref C, by simp [tyVal, hC], pe_glob hg hm rfl hd⟩
    · cases h
/-- args that are class names -/
def tVals (vs : List V) : TA := fun _ H Q => Q vs H
theorem tysN_ok (o : Ok X F T G call) : ∀ {es : List Expr} {ks : List Ty}, trTys T X.env.scope es = some ks → ∃ us, tyVals F ks = some us ∧ PA X es (tVals (us.map tyV))
  | [], ks, h => by
    simp only [trTys, Option.some.injEq] at h
    subst h
    exact ⟨[], rfl, impA pa_nil fun σ H Q w => w⟩
  | e :: es, ks, h => by
    cases e <;> simp only [trTys, reduceCtorEq] at h
    rename_i x p
    cases q : trTy T X.env.scope x with
    | none => rw [q] at h; cases h
    | some k =>
      rw [q] at h
      cases q' : trTys T X.env.scope es with
      | none => rw [q'] at h; cases h
      | some ks' =>
        rw [q'] at h
        simp only [Option.some.injEq] at h
        subst h
        obtain ⟨u, h1, h2⟩ := tyN_ok o q (p := p)
        obtain ⟨us, h3, h4⟩ := tysN_ok o q'
        refine ⟨u :: us, by simp only [tyVals, h1, h3], impA (pa_cons h2 h4 rfl) fun σ H Q w => w⟩
theorem isiE (o : Ok X F T G call) {a b : Expr} {ks : List Ty} {f : Env → Store → R D} {p pos : Pos} (ha : PE X a (tE X.K F f)) (hb : trIsi T X.env.scope b = some ks) (hg : Gl X "isinstance") (hm : X.mg "isinstance" = none) (sa : isStar a = false) (sb : isStar b = false) :
    PE X (.Call (.Name "isinstance" p) [a, b] [] pos) (tE X.K F fun ρ st => (f ρ st).bind fun x s => R.ofB (isAny x s ks) s) := by
  have hpl : (backTo pos (starEach [b] X.env)).any (·.1) = false := by rw [star_one sb]; rfl
  cases b with
  | Name y q =>
    simp only [trIsi] at hb
    cases e : trTy T X.env.scope y with
    | none => rw [e] at hb; cases hb
    | some k =>
      rw [e] at hb
      cases hb
      obtain ⟨u, h1, h2⟩ := tyN_ok o e (p := q)
      refine impE (pe_callB call_isi hg hm boot_isinstance (pa_cons ha (pa_cons h2 pa_nil rfl) (star_cons sa)) (by decide) (by decide) (star_cons sa) hpl) fun σ H Q w => ?_
      obtain ⟨μ, ρ, st, S, w⟩ := w
      refine ⟨μ, ρ, st, S, w.bind.mono fun d s μ1 H1 P1 w1 v rv => ?_⟩
      cases hk : isAny d s [k] with
      | none => rw [hk] at w1; exact w1.elim
      | some c =>
        rw [hk] at w1
        obtain ⟨t, ht⟩ := isTy_ok o.kit P1.sto rv
        have hk' : isTy k d s = some c := by
          simp only [isAny] at hk
          cases z : isTy k d s with
          | none => rw [z] at hk; cases hk
          | some c' => rw [z] at hk; cases c' <;> simpa using hk
        obtain ⟨g1, g2⟩ := ht hk' h1
        exact ⟨v, _, t, u, c, rfl, tyVal_cls h1, g1, g2, WP.ok (Φ := VQ X.K Q) P1.sto w1 _ (.bl c)⟩
  | Tuple es n q =>
    simp only [trIsi] at hb
    cases et : trTys T X.env.scope es with
    | none => rw [et] at hb; cases hb
    | some ks' =>
    rw [et] at hb
    simp only at hb
    split at hb
    · cases hb
    rename_i hz
    cases hb
    simp only [Bool.or_eq_true, not_or, Bool.not_eq_true, Bool.not_eq_eq_eq_not, Bool.not_false, decide_eq_true_eq, List.isEmpty_eq_false_iff] at hz
    obtain ⟨us, h1, h2⟩ := tysN_ok o et
    have hlen : us.length = ks.length := by
      have : ∀ (ks : List Ty) (us : List Value), tyVals F ks = some us → us.length = ks.length := by
        intro ks
        induction ks with
        | nil => intro us h; simp only [tyVals, Option.some.injEq] at h; subst h; rfl
        | cons k ks ih =>
          intro us h
          simp only [tyVals] at h
          cases q : tyVal F k with
          | none => rw [q] at h; cases h
          | some u =>
            rw [q] at h
            cases q' : tyVals F ks with
            | none => rw [q'] at h; cases h
            | some vs =>
              rw [q'] at h
              simp only [Option.some.injEq] at h
              subst h
              rw [List.length_cons, List.length_cons, ih vs q']
      exact this _ _ h1
    refine impE (pe_callB call_isiT hg hm boot_isinstance (pa_cons ha (pa_cons (pe_tup h2) pa_nil rfl) (star_cons sa)) (by decide) (by decide) (star_cons sa) hpl) fun σ H Q w => ?_
    obtain ⟨μ, ρ, st, S, w⟩ := w
    refine ⟨μ, ρ, st, S, w.bind.mono fun d s μ1 H1 P1 w1 v rv => ?_⟩
    cases hk : isAny d s ks with
    | none => rw [hk] at w1; exact w1.elim
    | some c =>
      rw [hk] at w1
      have hz2 : ks.length ≤ 16 := by simpa using hz.2
      refine ⟨by rw [List.length_map, hlen, sizeLine_eq]; omega, fun tp htp => ?_⟩
      have P2 := Post.fresh (u := .tup (us.map tyV)) P1.sto htp
      have rv2 := rv.post P2
      obtain ⟨t, ht⟩ := isAny_ok o.kit P2.sto rv2
      obtain ⟨g1, g2⟩ := ht hz.1 hk h1
      exact ⟨v, tp, us.map tyV, t, us, c, rfl, upd_same, tyVals_cls h1, g1, g2, w1 _ _ P2 _ (.bl c)⟩
  | _ => simp only [trIsi, reduceCtorEq] at hb
end
end Nz
namespace Nz
open PySem L2 PyProof.Rows
section
variable {X : Cx} {F : Nm}
theorem dnewE {t : Bool} {pos : Pos} : PE X (.Dict [] [] pos) (tE X.K F fun _ st => .ok (.ref st.length) (st ++ [.dct t []])) := by
  cases t with
  | false =>
    refine impE pe_dnewK fun σ H Q ⟨μ, ρ, st, S, w⟩ p hp => ?_
    have P := Post.push (u := .dK []) (o := .dct false []) S.sto hp ⟨[], upd_same, .nil⟩
    exact w _ _ P _ (.ref (b := false) (by rw [← S.sto.len]; simp))
  | true =>
    refine impE pe_dnewT fun σ H Q ⟨μ, ρ, st, S, w⟩ p hp => ?_
    have P := Post.push (u := .dT []) (o := .dct true []) S.sto hp ⟨[], upd_same, .nil⟩
    exact w _ _ P _ (.ref (b := false) (by rw [← S.sto.len]; simp))
theorem m2_of {a b c : Expr} {m : Str} {apos pos : Pos} (h : isCall a = false) (hs : isStar b = false) (hs2 : isStar c = false) (hl : (apos.endLine == pos.line) = true) : M2 X a m apos b c pos := by
  refine ⟨base_ok h, ?_, hl, ?_⟩
  · rw [star_two hs hs2]; rfl
  · rw [star_two hs hs2]; rfl
theorem dgetE (hu : X.A.units + 64 < cLine) {a b c : Expr} {f g h : Env → Store → R D} {apos pos : Pos} (ha : PE X a (tE X.K F f)) (hb : PE X b (tE X.K F g)) (hc : PE X c (tE X.K F h)) (h1 : isCall a = false) (hs : isStar b = false) (hs2 : isStar c = false) (hl : (apos.endLine == pos.line) = true) :
    PE X (.Call (.Attribute a "get" apos) [b, c] [] pos) (tE X.K F fun ρ st => (f ρ st).bind fun x s => R.grd (dctOf x s).isSome ((g ρ s).bind fun y s => (h ρ s).bind fun z s => dGet2 x y z s)) := by
  refine impE (pe_dget2 (by omega) ha hb hc (m2_of h1 hs hs2 hl)) fun σ H Q ⟨μ, ρ, st, S, w⟩ => ?_
  refine ⟨μ, ρ, st, S, w.bind.mono fun x s μ1 H1 P1 w1 v rv => ?_⟩
  obtain ⟨hd, w1⟩ := w1.grd
  cases hdc : dctOf x s with
  | none => rw [hdc] at hd; cases hd
  | some tk =>
    obtain ⟨t, kvs⟩ := tk
    obtain ⟨l, p, rfl, rfl, e1, e2, e3⟩ := dctOf_ok P1.sto rv hdc
    refine ⟨p, rfl, ?_, μ1, ρ, s, S.post P1, w1.bind.mono fun y s2 μ2 H2 P2 w2 u ru => ⟨μ2, ρ, s2, (S.post P1).post P2, w2.bind.mono fun z s3 μ3 H3 P3 w3 zv rz => ?_⟩⟩
    · cases t with
      | false => obtain ⟨kv, q, _⟩ := e3; exact .inl ⟨kv, .inl q⟩
      | true => obtain ⟨kv, q, _⟩ := e3; exact .inr ⟨kv, .inl q⟩
    · have rv3 := (rv.post P2).post P3
      have ru3 := ru.post P3
      unfold dGet2 at w3
      cases hdc : dctOf (.ref l) s3 with
      | none => rw [hdc] at w3; exact w3.elim
      | some tk =>
        obtain ⟨t, kvs⟩ := tk
        obtain ⟨l', p', q1, q2, e1, e2, e3⟩ := dctOf_ok P3.sto rv3 hdc
        cases q1; cases q2
        rw [hdc] at w3
        obtain ⟨hk, w3⟩ := WP.grd w3
        rcases dget_ok e3 ru3 hk with ⟨q1, g⟩ | ⟨d, dv, q1, g, rd⟩
        · rw [q1] at w3
          exact ⟨none, g, WP.ok (Φ := VQ X.K Q) P3.sto w3 _ rz⟩
        · rw [q1] at w3
          exact ⟨some dv, g, WP.ok (Φ := VQ X.K Q) P3.sto w3 _ rd⟩
end
end Nz
namespace Nz
open PySem L2 PyProof.Rows
/-! ### dict comprehensions, keys of both kinds -/
def nD : Bool → HO
  | true => .dT []
  | false => .dK []
theorem nD_ok {P : Program} {w : World} {H : Hp} (t : Bool) (h : Heap) (hb : sysModules < h.objs.size) : ObjOk P w H (h.push { cls := .type "dict", data := .dict #[] }) h.objs.size (nD t) := by
  cases t
  · exact dk_empty h hb
  · exact dt_empty h hb
/-- a pair is put by a comprehension -/
theorem dPutC {X : Cx} {ps : List (Addr × Obj)} {σ : L2.St} {H H' : Hp} {s : Shared} {E : Value → Shared → Prop} {D : Addr} {y z : V} {u r : Value} {Q : Unit → Shared → Prop}
    (hu : X.A.units + 64 < cLine) (I : Inv X ps σ H s) (g : DPut H D y z H') (ry : RelV y u) (rz : RelV z r) (k : ∀ s', Inv X ps σ H' s' → Q () s') :
    wpAny (model X.prog X.w) X.A (dictSet D u r) Q E s := by
  rcases g with ⟨kvs, j, e, rfl, l, rfl⟩ | ⟨kvs, j, b, e, rfl, eb, l, rfl⟩
  · exact d_dictSet I e l ry rz k
  · cases (show u = Value.ref b from ry)
    obtain ⟨n1, n2, xs, rl, dd⟩ := dt_of I.hok e
    have n3 : xs.length ≤ sizeLine := by rw [← Paired.length rl]; exact n1
    have n4 : (putK kvs j z).length ≤ sizeLine := by have := length_putK kvs j z; omega
    have hr : (tupleKind (mixKind X.prog X.w)).room X.A := by show X.A.units < cLine; omega
    refine wpAny_dictSet_heap (hsz := n3) hr (key_of I.hok eb) dd fun h' d2 sb => k _ ?_
    obtain ⟨q, es, ep, g1, g2, g3, g4, _, g5⟩ := d2
    exact d_write I (by rw [e]; trivial) sb ⟨q, g1⟩ ⟨n4, n2, _, (rl.put j eb rz).keeps fun c ys ec => by
      rw [upd_ne (ne_of ec e (by intro w; cases w))]
      exact ec, q, es, ep, g1, g2, g3, g4, g5⟩
section
variable {X : Cx}
/-- {k: v for .. if ..}; D: the new dict -/
def tDk (t : Bool) (wi : TI) (g : TG) (tt : TT) (tk tv : TE) (vs : List Nat) : TE := fun σ H Q => wi σ H fun J H1 => ∀ D, H1 D = none →
  ∃ W : Nat → Nat → Hp → Prop, (∃ m, W 0 m (upd H1 D (nD t))) ∧ ∀ i m H, W i m H → (J.stop i H ∧ Q (.ref D) H) ∨ (J.go i H ∧
    ∃ Nx : Hp → Prop, (∀ H', Nx H' → ∃ m', m' < m ∧ W (i + 1) m' H') ∧ ∀ x H', J.yld i H x H' → g x (L2.wipe σ vs) H' fun σ2 H2 => L2.wipe σ2 vs = L2.wipe σ vs ∧
      tt σ2 H2 fun b H3 => if b = true then tk σ2 H3 fun y H4 => tv σ2 H4 fun z H5 => ∃ H6, DPut H5 D y z H6 ∧ Nx H6 else Nx H3)
theorem peDk (t : Bool) (hu : X.A.units + 64 < cLine) {kx vx tg iter : Expr} {ifs : List Expr} {scope : Scope} {own : List (Str × Nat)} {pos : Pos} {wi : TI} {g : TG} {tt : TT} {tk tv : TE} (hc : X.calm = true) (nd : X.N.Nodup) (pi : PI X tg iter wi) (bk : BlkOk X.N X.env.scope scope own)
    (pg : ∀ (s : Shared) (H : Hp) (C : Addr) (cl : List (Str × Addr)) (fp : List Addr), PG (X.blk s H scope (compEnvC scope cl C X.env) fp) tg g)
    (pt : ∀ (s : Shared) (H : Hp) (C : Addr) (cl : List (Str × Addr)) (fp : List Addr), PTs (X.blk s H scope (compEnvC scope cl C X.env) fp) ifs tt)
    (pk : ∀ (s : Shared) (H : Hp) (C : Addr) (cl : List (Str × Addr)) (fp : List Addr), PE (X.blk s H scope (compEnvC scope cl C X.env) fp) kx tk)
    (pv : ∀ (s : Shared) (H : Hp) (C : Addr) (cl : List (Str × Addr)) (fp : List Addr), PE (X.blk s H scope (compEnvC scope cl C X.env) fp) vx tv)
    (hs : ∀ x, foldedSetIterable iter X.env x = pure x) : PE X (.DictComp kx vx [⟨tg, iter, ifs, 0⟩] scope pos) (tDk t wi g tt tk tv (own.map (·.2))) := by
  refine ⟨fun ps s0 σ H Q I0 wish => ?_⟩
  rw [arm_eval_DictComp]
  -- the name of a captured cell
  have cap : ∀ y ∈ scope.names, y.2 = .free → ∃ c, X.env.cells.lookup y.1 = some c := fun y hy e => (bk.free y hy e).elim (fun k => I0.ok.has _ (.inl k)) (fun k => I0.ok.has _ (.inr k))
  refine wpAny_comprehension_free rfl hs (closure_ok cap) bk.kind (fun y hy e => by rw [bk.uniq y hy, e]) (thn (pi.run ps s0 σ H _ I0 wish) fun xv s1 hx => thn hx fun itv s2 h2 => ?_)
  obtain ⟨it, fp, tn, J, H2, rfl, I2, T, n2, f2, go⟩ := h2
  refine wpAny_newObj_type (newEnv_comp ?_)
  obtain ⟨D, hD⟩ : ∃ D, D = s2.heap.objs.size := ⟨_, rfl⟩
  rw [← hD]
  obtain ⟨W, ⟨m0, w0⟩, turn⟩ := go D (I2.hok.fresh (Nat.le_of_eq hD.symm))
  -- the new dict is laid
  obtain ⟨s3, hs3⟩ : ∃ s3 : Shared, s3 = { s2 with heap := s2.heap.push { cls := .type "dict", data := .dict #[] } } := ⟨_, rfl⟩
  have e3 : s3.heap = s2.heap.push { cls := .type "dict", data := .dict #[] } := by rw [hs3]
  have I3 : Inv X ps σ (upd H2 D (nD t)) s3 := by
    rw [hs3]
    refine I2.laid (t' := s2.toks) (fun b o e => Heap.get?_push_of_some _ e) (Nat.le_of_eq hD.symm) ?_
    rw [hD]
    exact nD_ok t s2.heap I2.big
  obtain ⟨H3, hH3⟩ : ∃ H3, H3 = upd H2 D (nD t) := ⟨_, rfl⟩
  rw [← hH3] at I3 w0
  have small : ∀ b ∈ fp, b < s2.heap.objs.size := fun b hb => let ⟨o, e, _⟩ := T.obj _ _ n2 b hb; Heap.lt_size e
  have f3 : ∀ b ∈ fp, FpOk X ps H3 b ∧ b < s3.heap.objs.size := fun b hb => by
    have lt := small b hb
    have ne : b ≠ D := by rw [hD]; exact Nat.ne_of_lt lt
    exact ⟨⟨by rw [hH3, upd_ne ne]; exact (f2 b hb).1, (f2 b hb).2⟩, by rw [e3, Heap.size_push]; exact Nat.lt_succ_of_lt lt⟩
  have n3 : tn 0 s3.heap := T.keep _ _ _ n2 fun b _ o e => by rw [e3]; exact Heap.get?_push_of_some _ e
  have I4 := block_start I3 bk nd f3
  obtain ⟨C, hC⟩ : ∃ C, C = s3.heap.objs.size := ⟨_, rfl⟩
  obtain ⟨cl, hcl⟩ : ∃ cl, cl = cellsFrom (C + 1) scope.names (cloFrom X.env.cells scope.names []) := ⟨_, rfl⟩
  rw [← hs3]
  rw [← hC, ← hcl] at I4 ⊢
  obtain ⟨ce, hce⟩ : ∃ ce, ce = compEnvC scope cl C X.env := ⟨_, rfl⟩
  have xg := pg s3 H3 C cl fp
  have xt := pt s3 H3 C cl fp
  have xk := pk s3 H3 C cl fp
  have xv := pv s3 H3 C cl fp
  show codeAny _ _ (.compStart _ 0 (.ref it) (.ref D) (compEnvC scope cl C X.env)) _ _
  rw [← hce] at I4 xg xt xk xv ⊢
  have hcL : ce.locals = C := by rw [hce]; rfl
  obtain ⟨s4, hs4⟩ : ∃ s4 : Shared, s4 = { s3 with heap := pushCells (s3.heap.push { cls := .type "dict", data := .dict #[] }) scope.names } := ⟨_, rfl⟩
  rw [← hs4] at I4
  have n4 : tn 0 s4.heap := T.keep _ _ _ n3 fun b _ o e => by rw [hs4]; exact pushCells_keeps _ _ _ _ (Heap.get?_push_of_some _ e)
  have foot : ∀ {σ' : L2.St} {H' : Hp} {s' : Shared}, Inv (X.blk s3 H3 scope ce fp) [] σ' H' s' → (∀ b ∈ fp, H' b = none) → ∀ b ∈ fp, FpOk (X.blk s3 H3 scope ce fp) [] H' b := fun I' n b hb =>
    ⟨n b hb, (I'.ok.exf b hb).1, I'.ok.exfs b hb, .inl hb, fun x c e => (I'.ok.exf b hb).2 x c e, fun p hp => by cases hp⟩
  let Iv : Nat → Shared → Prop := fun n s' => ∃ i H', Inv (X.blk s3 H3 scope ce fp) [] (L2.wipe σ (own.map (·.2))) H' s' ∧ tn i s'.heap ∧ (∀ b ∈ fp, H' b = none) ∧ W i n H'
  have lp : codeAny (model X.prog X.w) X.A (.compLoop (.DictComp kx vx [⟨tg, iter, ifs, 0⟩] scope pos) 0 (.ref it) (.ref D) ce)
      (compPost (model X.prog X.w) X.A X.xe none (EP X ps σ Q) (.ref D) C) s4 := by
    refine compLoop_anyD Iv ?_ m0 ⟨0, H3, I4, n4, fun b hb => (f3 b hb).1.1, w0⟩
    rintro n s5 ⟨i, H5, I5, n5, c5, w5⟩
    rcases turn i n H5 w5 with ⟨stop, fin⟩ | ⟨goes, Nx, nx, step⟩
    · have dn := T.done (X.blk s3 H3 scope ce fp) rfl rfl rfl hc i [] s5 _ H5 (fun _ _ => False) I5 (foot I5 c5) n5 stop
      refine thnF dn fun r s6 ⟨hr, I6⟩ => ?_
      subst hr
      have I7 : Inv X ps σ H5 s6 := I3.call' (ch := fp) I6.os I6.base I6.hok I6.bare fun b hb => ⟨(f3 b hb).1.2.2.2.1, (f3 b hb).1.2.1, (f3 b hb).1.2.2.2.2.1, (f3 b hb).1.2.2.2.2.2⟩
      have zC : H5 C = none := by
        have z : H5 ce.locals = none := I6.free
        rwa [hcL] at z
      obtain ⟨m, mn, _⟩ := I6.loc
      have mn : s6.heap.Ns ce.locals m := mn
      rw [hcL] at mn
      obtain ⟨a0, a1, a2, a3, a4, a5⟩ := I3.fpOk (Nat.le_of_eq hC.symm) zC
      exact ⟨m, mn, fun h'' sb => ⟨.ref D, H5, I7.turned (t' := s6.toks) (fun b o hb e => (sb.2 b hb).trans e) a0 a1 a3 a4 a5, rfl, fin⟩⟩
    · have it1 := T.item (X.blk s3 H3 scope ce fp) rfl rfl rfl hc i [] s5 _ H5 (fun _ _ => False) I5 (foot I5 c5) n5 goes
      refine thnF it1 fun r s6 ⟨u, hr, h6⟩ => ?_
      subst hr
      refine thnF h6 fun _ s7 ⟨x, H7, I7, r7, y7, n7, c7⟩ => ?_
      have I7' := I7.pinned (foot I7 c7) (T.obj _ _ n7)
      refine thnF (xg.run _ s7 _ H7 x u _ I7' r7 (step x H7 y7)) fun _ s8 ⟨σ8, H8, I8, w8, q8⟩ => ?_
      refine thnF (xt.run _ s8 σ8 H8 _ I8 q8) fun b s9 ⟨H9, I9, q9⟩ => ?_
      have again : ∀ {s' : Shared} {H' : Hp}, Inv (X.blk s3 H3 scope ce fp) ([] ++ pinsAt fp s7.heap) σ8 H' s' → Nx H' → ∃ m, m < n ∧ Iv m s' := fun {s' H'} I' q => by
        obtain ⟨m', lt, w'⟩ := nx H' q
        have pin : ∀ b ∈ fp, ∀ o, s7.heap.get? b = some o → s'.heap.get? b = some o ∧ H' b = none := fun b hb o e => by
          have z := I'.pin (b, o) (List.mem_append_right _ (List.mem_append_right _ (mem_pinsAt hb e)))
          exact ⟨z.1, z.2.1⟩
        have len : (L2.wipe σ (own.map (·.2))).length = σ8.length := by rw [← w8, wipe_length]
        refine ⟨m', lt, i + 1, H', (I'.unpinned (pins := [])).weak len (fun j v e => ?_), T.keep _ _ _ n7 (fun b hb o e => (pin b hb o e).1), (fun b hb => ?_), w'⟩
        · rw [← w8] at e
          exact (wipe_some e).1
        · obtain ⟨o, e, _⟩ := T.obj _ _ n7 b hb
          exact (pin b hb o e).2
      cases b with
      | false =>
        rw [if_neg Bool.false_ne_true] at q9 ⊢
        exact again I9 q9
      | true =>
        rw [if_pos rfl] at q9 ⊢
        refine thnF (xk.run _ s9 σ8 H9 _ I9 q9) fun z s10 ⟨yk, H10, I10, r10, q10⟩ => ?_
        refine thnF (xv.run _ s10 σ8 H10 _ I10 q10) fun z2 s11 ⟨yv, H11, I11, r11, H12, put, q11⟩ => ?_
        exact dPutC (X := X.blk s3 H3 scope ce fp) hu I11 put r10 r11 fun s12 I12 => again I12 q11
  have st := codeAny_compStart_dict lp (T.self X.A 0 _ _ _ n4 lp)
  rw [hs4] at st
  exact st
end
/-! ### .. over plain data -/
abbrev dkB (t : T) (l : Nat) (b : Bool) (fc : Env → Store → R Bool) (fk fv : Env → Store → R D) (ρ0 : Env) : D → Store → R D := fun d s1 => (match T.asg t d ρ0 with
      | none => .no
      | some ρ1 => (fc ρ1 s1).bind fun k s2 => (match k with
        | true => (fk ρ1 s2).bind fun x s3 => (fv ρ1 s3).bind fun y s4 => dPutR l b x y s4
        | false => .ok .non s2))
section
variable {X : Cx} {F : Nm}
theorem nD_rp {K : PySem.W.Frag} {μ : Mu} {H : Hp} {D : Addr} (t : Bool) : RpH K F μ (upd H D (nD t)) D (.dct t []) := by
  cases t
  · exact ⟨[], upd_same, .nil⟩
  · exact ⟨[], upd_same, .nil⟩
theorem dcmpE (b : Bool) {own : List (Str × Nat)} {t : T} {fi : Env → Store → R Wk} {fc : Env → Store → R Bool} {fk fv : Env → Store → R D}
    (hts : ∀ i ∈ t.slots, i ∈ own.map (·.2)) {σ : L2.St} {H : Hp} {Q : VK}
    (w : tE X.K F (fun ρ st => (fi ρ st).bind fun w s => (lpU (dkB t s.length b fc fk fv (forget ρ (own.map (·.2)))) w.wat w.its (s ++ [.dct b []])).bind fun _ s' => .ok (.ref s.length) s') σ H Q) :
    tDk b (tIt X.K F fi) (gT X.K F t) (tCo X.K F fc) (tE X.K F fk) (tE X.K F fv) (own.map (·.2)) σ H Q := by
  obtain ⟨μ, ρ, st, S, w⟩ := w
  refine ⟨μ, ρ, st, S, w.bind.mono fun wk s1 μ1 H1 P1 w1 J hJ D hD => ?_⟩
  have PD : Post X.K F μ1 H1 (s1 ++ [.dct b []]) (μ1 ++ [(D, false)]) (upd H1 D (nD b)) := Post.push P1.sto hD (nD_rp b)
  have hlD : (μ1 ++ [(D, false)])[s1.length]? = some (D, false) := by rw [← P1.sto.len]; simp
  have SD := (S.post P1).post PD
  have w1 := w1.up PD
  obtain ⟨l, hl⟩ : ∃ l, l = s1.length := ⟨_, rfl⟩
  rw [← hl] at w1 hlD
  generalize hμD : μ1 ++ [(D, false)] = μD at *
  generalize hHD : upd H1 D (nD b) = HD at *
  let out := dkB t l b fc fk fv (forget ρ (own.map (·.2)))
  let fin : Nz.D → Store → R Nz.D := fun _ s' => .ok (.ref l) s'
  let Iv := fun (i : Nat) (H2 : Hp) => ∃ (s2 : Store) (μ2 : Mu), Post X.K F μ1 H1 s2 μ2 H2 ∧ Post X.K F μD HD s2 μ2 H2 ∧ i ≤ wk.its.length ∧ WP X.K F μ2 H2 ((lpU out wk.wat (wk.its.drop i) s2).bind fin) (VQ X.K Q)
  refine ⟨fun i m H2 => m = wk.its.length - i ∧ Iv i H2, ⟨wk.its.length, by simp, s1 ++ [O.dct b []], μD, PD, .refl PD.sto, Nat.zero_le _, by rw [List.drop_zero]; exact w1⟩, ?_⟩
  rintro i m H2 ⟨rfl, s2, μ2, P2, Q2, hi, w2⟩
  by_cases hlt : i < wk.its.length
  · rw [List.drop_eq_getElem_cons hlt] at w2
    obtain ⟨hw, w2⟩ := lpU_cons w2
    obtain ⟨j1, j2, j3⟩ := hJ s2 μ2 H2 P2 hw
    refine .inr ⟨j1 i hlt, fun H' => Iv (i + 1) H', fun H' h' => ⟨wk.its.length - (i + 1), by omega, rfl, h'⟩, fun x H3 y => ?_⟩
    obtain ⟨d, hd, P3, rd⟩ := j3 i x H3 hlt y
    have hd' : d = wk.its[i] := by
      rw [List.getElem?_eq_getElem hlt] at hd
      exact (Option.some.inj hd).symm
    subst hd'
    have S3 := (SD.post (Q2.trans P3)).wipe (own.map (·.2))
    have w3 := w2.up P3
    cases ha : T.asg t wk.its[i] (forget ρ (own.map (·.2))) with
    | none =>
      simp only [out, dkB, ha] at w3
      exact w3.elim
    | some ρ1 =>
      simp only [out, dkB, ha] at w3
      rw [R.bind_assoc] at w3
      refine ⟨μ2, _, s2, _, ρ1, S3, rd, ha, fun σ2 S4 n4 => ⟨wipe_near n4 hts, ?_⟩⟩
      refine ⟨μ2, ρ1, s2, S4, (WP.bind w3).mono fun k s5 μ5 H5 P5 w5 => ?_⟩
      have S5 := S4.post P5
      have Q5 := (Q2.trans P3).trans P5
      have R5 := (P2.trans P3).trans P5
      cases k with
      | false =>
        show if false = true then _ else _
        rw [if_neg Bool.false_ne_true]
        exact ⟨s5, μ5, R5, Q5, hlt, w5⟩
      | true =>
        simp only [R.bind_assoc] at w5
        show if true = true then _ else _
        rw [if_pos rfl]
        refine ⟨μ5, ρ1, s5, S5, (WP.bind w5).mono fun kd s6 μ6 H6 P6 w6 v rv => ?_⟩
        refine ⟨μ6, ρ1, s6, S5.post P6, (WP.bind w6).mono fun z s7 μ7 H7 P7 w7 u ru => ?_⟩
        have Q7 := (Q5.trans P6).trans P7
        have R7 := (R5.trans P6).trans P7
        have hl7 : μ7[l]? = some (D, false) := pre_get Q7.pre hlD
        obtain ⟨kvs, he, hk, hlen, w10⟩ : ∃ kvs, s7[l]? = some (.dct b kvs) ∧ kd.keyOk b = true ∧ kvs.length < 16777216 ∧ WP X.K F μ7 H7 ((lpU out wk.wat (wk.its.drop (i + 1)) (s7.set l (.dct b (dPut kvs kd z)))).bind fin) (VQ X.K Q) := by
          simp only [dPutR] at w7
          split at w7
          · rename_i u kvs he
            cases hq : (u == b && (kd.keyOk b && decide (kvs.length < LINE))) with
            | false => rw [hq, R.grd_false] at w7; exact w7.elim
            | true =>
              rw [hq, R.grd_true, R.bind_ok] at w7
              simp only [Bool.and_eq_true, beq_iff_eq, decide_eq_true_eq] at hq
              obtain ⟨q1, q2, q3⟩ := hq
              subst q1
              exact ⟨kvs, he, q2, q3, w7⟩
          · exact w7.elim
        obtain ⟨H8, put, P8⟩ := dput_ok P7.sto hl7 he (rv.post P7) ru hk hlen
        exact ⟨H8, put, _, μ7, R7.trans P8, Q7.trans P8, hlt, w10.up P8⟩
  · have e : i = wk.its.length := by omega
    subst e
    rw [List.drop_length] at w2
    obtain ⟨hw, w2⟩ := lpU_nil w2
    obtain ⟨j1, j2, j3⟩ := hJ s2 μ2 H2 P2 hw
    exact .inl ⟨j2, WP.ok (Φ := VQ X.K Q) P2.sto w2 _ (.ref (b := false) (pre_get Q2.pre hlD))⟩
end
end Nz
namespace Nz
open PySem L2 PyProof.Rows
/-! ### x.count(y), x.pop(i), displays -/
section
variable {X : Cx} {F : Nm} {a b : Expr} {f g : Env → Store → R D} {pos : Pos}
theorem cntE {apos : Pos} (ha : PE X a (tE X.K F f)) (hb : PE X b (tE X.K F g)) (hbase : attributeBase a "count" X.env (eval a X.env) = eval a X.env) (hline : (apos.endLine == pos.line) = true) (hs : starEach [b] X.env = [(false, eval b X.env)]) :
    PE X (.Call (.Attribute a "count" apos) [b] [] pos) (tE X.K F fun ρ st => (f ρ st).bind fun x s => R.grd (lstOf x s).isSome ((g ρ s).bind fun y s => cntR x y s)) :=
  impE (pe_bm PySem.F.plainAttrs_list PySem.F.slot_list_count PySem.F.type_list_count mt_lcount ha (pa_cons hb pa_nil hs) hbase (by simp only [hs]; rfl) hline hs rfl) fun σ H Q w => by
    obtain ⟨μ, ρ, st, S, w⟩ := w
    refine ⟨μ, ρ, st, S, w.bind.mono fun d s μ1 H1 P1 w1 v rv => ?_⟩
    obtain ⟨hl, w1⟩ := w1.grd
    cases hd : lstOf d s with
    | none => rw [hd] at hl; cases hl
    | some ds =>
      obtain ⟨p, vs, rfl, hq, rs⟩ := lstOf_ok P1.sto rv hd
      refine ⟨.inl ⟨rfl, vs, hq⟩, ?_⟩
      refine ⟨μ1, ρ, s, S.post P1, w1.bind.mono fun e s2 μ2 H2 P2 w2 u ru => ?_⟩
      have rv2 := rv.post P2
      simp only [cntR] at w2
      cases hd2 : lstOf d s2 with
      | none => rw [hd2] at w2; exact w2.elim
      | some es =>
        rw [hd2] at w2
        obtain ⟨p2, ws, e2, hq2, rs2⟩ := lstOf_ok P2.sto rv2 hd2
        cases e2
        cases ru with
        | int k =>
          simp only at w2
          cases hi : intsOf es with
          | none => rw [hi] at w2; exact w2.elim
          | some ns =>
            rw [hi] at w2
            have := intsOf_ok rs2 hi
            subst this
            exact ⟨p, ns, k, rfl, rfl, hq2, WP.ok (Φ := VQ X.K Q) P2.sto w2 _ (.int _)⟩
        | _ => exact w2.elim
theorem place_seq {n : Nat} {i : Int} {j : Nat} (h : place n i = some j) : seqIndex? i n = some j ∧ j < n := by
  unfold place at h
  split at h
  · rename_i h0
    split at h
    · rename_i h1
      cases h
      exact ⟨seqIndex_of h0 (by omega), by omega⟩
    · cases h
  · rename_i h0
    split at h
    · rename_i h1
      cases h
      exact ⟨seqIndex_neg (by omega) h1, by omega⟩
    · cases h
theorem Rps.erase {K : PySem.W.Frag} {μ : Mu} {H : Hp} : ∀ {ds : List D} {vs : List V} (i : Nat), Rps K μ H ds vs → Rps K μ H (ds.eraseIdx i) (vs.eraseIdx i)
  | _, _, _, .nil => .nil
  | _, _, 0, .cons _ t => t
  | _, _, i + 1, .cons q t => .cons q (Rps.erase i t)
theorem popiE {apos : Pos} (ha : PE X a (tE X.K F f)) (hb : PE X b (tE X.K F g)) (hbase : attributeBase a "pop" X.env (eval a X.env) = eval a X.env) (hline : (apos.endLine == pos.line) = true) (hs : starEach [b] X.env = [(false, eval b X.env)]) :
    PE X (.Call (.Attribute a "pop" apos) [b] [] pos) (tE X.K F fun ρ st => (f ρ st).bind fun x s => R.grd (lstOf x s).isSome ((g ρ s).bind fun y s => popR x y s)) :=
  impE (pe_bm PySem.F.plainAttrs_list PySem.F.slot_list_pop PySem.F.type_list_pop mt_popAt ha (pa_cons hb pa_nil hs) hbase (by simp only [hs]; rfl) hline hs rfl) fun σ H Q w => by
    obtain ⟨μ, ρ, st, S, w⟩ := w
    refine ⟨μ, ρ, st, S, w.bind.mono fun d s μ1 H1 P1 w1 v rv => ?_⟩
    obtain ⟨hl, w1⟩ := w1.grd
    cases hd : lstOf d s with
    | none => rw [hd] at hl; cases hl
    | some ds =>
      obtain ⟨p, vs, rfl, hq, rs⟩ := lstOf_ok P1.sto rv hd
      refine ⟨.inl ⟨rfl, vs, hq⟩, ?_⟩
      refine ⟨μ1, ρ, s, S.post P1, w1.bind.mono fun e s2 μ2 H2 P2 w2 u ru => ?_⟩
      have rv2 := rv.post P2
      cases rv2 with
      | @ref l _ _ hl2 =>
        simp only [popR] at w2
        split at w2
        · rename_i es he
          cases ru with
          | int i =>
            simp only at w2
            obtain ⟨hr, w2⟩ := w2.grd
            have hr := of_decide_eq_true hr
            cases hp : place es.length i with
            | none => simp only [hp] at w2; exact w2.elim
            | some j =>
              simp only [hp] at w2
              obtain ⟨e1, e2⟩ := place_seq hp
              rw [List.getElem?_eq_getElem e2] at w2
              simp only at w2
              obtain ⟨ws, h1, r1⟩ := P2.sto.back he hl2 rfl
              obtain ⟨y, hy, ry⟩ := r1.get (List.getElem?_eq_getElem e2)
              refine ⟨p, ws, i, j, y, rfl, rfl, h1, ?_, ?_, by rw [← r1.length]; exact e1, hy, ?_⟩
              · have : (2 : Int) ^ 63 = 9223372036854775808 := by decide
                omega
              · have : (2 : Int) ^ 63 = 9223372036854775808 := by decide
                omega
              · have kt : ∀ a xs, H2 a = some (.tup xs) → upd H2 p (.lst (ws.eraseIdx j)) a = some (.tup xs) := fun a xs z => by rw [upd_ne (fun q => by subst q; rw [h1] at z; cases z)]; exact z
                have kf : ∀ a o w, H2 a = some (.frz o w) → upd H2 p (.lst (ws.eraseIdx j)) a = some (.frz o w) := fun a o w z => by rw [upd_ne (fun q => by subst q; rw [h1] at z; cases z)]; exact z
                have P := Post.write (u := .lst (ws.eraseIdx j)) (o' := .lst (es.eraseIdx j)) P2.sto he hl2 rfl h1 trivial ⟨_, upd_same, (r1.erase j).mono (List.prefix_refl _) kt kf⟩
                exact w2 _ _ P _ (ry.mono (List.prefix_refl _) kt kf)
          | _ => exact w2.elim
        · exact w2.elim
      | _ => simp only [popR] at w2; exact w2.elim
/-! #### displays -/
theorem pps_of {F : Nm} {T : Tab} {G : Ctx} {call : Nat → List D → Store → R D} {n : Nat} (he : ∀ {e : Expr} {E : Nz.E}, trE T n X.env.scope e = some E → PE X e (tE X.K F (ev G call E))) :
    ∀ {ks : List (Option Expr)} {vs : List Expr} {xs : List Str} {es : List Nz.E}, trKs ks = some xs → vs.mapM (trE T n X.env.scope) = some es → ks.length = vs.length →
      ∃ trs, PPs X pos ks vs trs ∧ ks.all (·.isSome) = true ∧ xs.length = ks.length ∧ es.length = vs.length ∧ ∀ σ H (Q : List (V × V) → Hp → Prop), (∃ μ ρ st, Sim X.K F μ ρ st σ H ∧ WP X.K F μ H (evs G call (Es.ofL es) ρ st) fun ds s μ' H' => ∀ ws, Rps X.K μ' H' ds ws → ds.length = es.length → Q ((xs.map fun k => V.str k).zip ws) H') → tPairs trs σ H Q
  | [], [], xs, es, h1, h2, _ => by
    simp only [trKs, Option.some.injEq] at h1
    simp only [List.mapM_nil, Option.pure_def, Option.some.injEq] at h2
    subst h1 h2
    refine ⟨[], pps_nil, rfl, rfl, rfl, fun σ H Q ⟨μ, ρ, st, S, w⟩ => ?_⟩
    rw [Es.ofL, evs] at w
    exact (WP.ok S.sto w) [] .nil rfl
  | [], _ :: _, _, _, _, _, h => by cases h
  | _ :: _, [], _, _, _, _, h => by cases h
  | k :: ks, v :: vs, xs, es, h1, h2, hl => by
    obtain ⟨s, kk, p, rfl, xs', q1, rfl⟩ : ∃ s kk p, k = some (.Constant (.str s) kk p) ∧ ∃ xs', trKs ks = some xs' ∧ xs = s :: xs' := by
      rw [trKs.eq_def] at h1
      split at h1
      · rename_i e; cases e
      · rename_i s kk p r e
        cases e
        cases q : trKs ks with
        | none => rw [q] at h1; cases h1
        | some xs' =>
          rw [q] at h1
          exact ⟨s, kk, p, rfl, xs', rfl, (Option.some.inj h1).symm⟩
      · cases h1
    rw [List.mapM_cons] at h2
    cases q2 : trE T n X.env.scope v with
    | none => rw [q2] at h2; simp at h2
    | some E1 =>
      cases q3 : vs.mapM (trE T n X.env.scope) with
      | none => rw [q2, q3] at h2; simp at h2
      | some es' =>
        rw [q2, q3] at h2
        simp only [Option.pure_def, Option.bind_eq_bind, Option.bind_some, Option.some.injEq] at h2
        subst h2
        obtain ⟨trs, g1, g2, g3, g4, g5⟩ := pps_of he q1 q3 (by simpa using hl)
        refine ⟨_, pps_cons pe_str (he q2) g1, by simpa using g2, by simp [g3], by simp [g4], fun σ H Q ⟨μ, ρ, st, S, w⟩ => ?_⟩
        refine (fun z => z : _ → tPairs (_ :: trs) σ H Q) ?_
        show (tC (.str s)) σ H fun x H1 => tE X.K F (ev G call E1) σ H1 fun y H2 => tPairs trs σ H2 fun ps H3 => Q ((x, y) :: ps) H3
        refine (show tE X.K F (ev G call E1) σ H fun y H2 => tPairs trs σ H2 fun ps H3 => Q ((.str s, y) :: ps) H3 from ?_)
        rw [Es.ofL, evs] at w
        refine ⟨μ, ρ, st, S, (WP.bind w).mono fun d s1 μ1 H1 P1 w1 y ry => g5 _ _ _ ⟨μ1, ρ, s1, S.post P1, (WP.bind w1).mono fun ds s2 μ2 H2 P2 w2 ws rs hlen => ?_⟩⟩
        have w3 := WP.ok P2.sto w2
        have := w3 (y :: ws) (.cons (ry.post P2) rs) (by simp [hlen])
        simpa using this
theorem dispK_ok {K : PySem.W.Frag} {μ : Mu} {H : Hp} : ∀ {ks : List Str} {ds : List D} {ws : List V} {kvs : List (D × D)} {kv : List (L2.Key × V)}, Rps K μ H ds ws → ks.length = ds.length → RpD keyD K μ H kvs kv →
    ∃ more : List (L2.Key × V), (ks.map fun k => V.str k).zip ws = more.map (fun p => (kV p.1, p.2)) ∧ more.length = ks.length ∧ RpD keyD K μ H (dispK ks ds kvs) (mergeK kv more)
  | [], [], _, kvs, kv, .nil, _, q => ⟨[], rfl, rfl, q⟩
  | [], _ :: _, _, _, _, _, h, _ => by cases h
  | _ :: _, [], _, _, _, _, h, _ => by cases h
  | k :: ks, d :: ds, _, kvs, kv, .cons (v := v) (vs := vs) r t, h, q => by
    obtain ⟨more, h1, h2, h3⟩ := dispK_ok (ks := ks) (kvs := dPut kvs (.str k) d) (kv := putK kv (.inr k) v) t (by simpa using h) (RpD.put (kd := keyD) (fun _ _ => keyD_inj) (.inr k) q r)
    refine ⟨(.inr k, v) :: more, ?_, by simp [h2], h3⟩
    simp only [List.map_cons, List.zip_cons_cons, h1]
    rfl
theorem dispE {T : Tab} {G : Ctx} {call : Nat → List D → Store → R D} {n : Nat} {ks : List (Option Expr)} {vs : List Expr} {xs : List Str} {es : List Nz.E} (he : ∀ {e : Expr} {E : Nz.E}, trE T n X.env.scope e = some E → PE X e (tE X.K F (ev G call E)))
    (h1 : trKs ks = some xs) (h2 : vs.mapM (trE T n X.env.scope) = some es) (hl : ks.length = vs.length) (h15 : ks.length ≤ 15) (h0 : ks.isEmpty = false) :
    PE X (.Dict ks vs pos) (tE X.K F (ev G call (.disp xs (Es.ofL es)))) := by
  obtain ⟨trs, g1, g2, g3, g4, g5⟩ := pps_of (pos := pos) he h1 h2 hl
  refine impE (pe_disp g1 g2 hl (by intro z; rw [z] at h0; cases h0) h15) fun σ H Q ⟨μ, ρ, st, S, w⟩ p hp => ?_
  have PD : Post X.K F μ H (st ++ [.dct false []]) (μ ++ [(p, false)]) (upd H p (.dK [])) := Post.push S.sto hp ⟨[], upd_same, .nil⟩
  have hl0 : (μ ++ [(p, false)])[st.length]? = some (p, false) := by rw [← S.sto.len]; simp
  have w : WP X.K F μ H ((evs G call (Es.ofL es) ρ (st ++ [.dct false []])).bind fun ds s => dispR xs st.length ds s) (VQ X.K Q) := by
    have := w
    rw [ev] at this
    exact this
  refine g5 _ _ _ ⟨_, ρ, _, S.post PD, (WP.bind (w.up PD)).mono fun ds s1 μ1 H1 P1 w1 ws rs hlen => ?_⟩
  have hl1 := pre_get P1.pre hl0
  unfold dispR at w1
  split at w1
  · rename_i hst
    obtain ⟨kv, e1, q1⟩ := P1.sto.back hst hl1 rfl
    cases q1
    obtain ⟨more, m1, m2, m3⟩ := dispK_ok (kvs := []) (kv := []) rs (by rw [g3, hl, hlen, g4]) .nil
    refine ⟨e1, more, m1, by omega, ?_⟩
    have kt : ∀ a xs, H1 a = some (.tup xs) → upd H1 p (.dK (mergeK [] more)) a = some (.tup xs) := fun a xs z => by rw [upd_ne (fun q => by subst q; rw [e1] at z; cases z)]; exact z
    have kf : ∀ a o w, H1 a = some (.frz o w) → upd H1 p (.dK (mergeK [] more)) a = some (.frz o w) := fun a o w z => by rw [upd_ne (fun q => by subst q; rw [e1] at z; cases z)]; exact z
    have P := Post.write (u := .dK (mergeK [] more)) (o' := .dct false (dispK xs ds [])) P1.sto hst hl1 rfl e1 trivial ⟨_, upd_same, m3.mono (List.prefix_refl _) kt kf⟩
    exact w1 _ _ P _ (.ref hl1)
  · exact w1.elim
end
end Nz
namespace Nz
open PySem L2 PyProof.Rows
/-! ### a dict is locked while it is walked -/
theorem RpH.dctU {K : PySem.W.Frag} {F : Nm} {μ : Mu} {H : Hp} {a : Addr} {t : Bool} {kvs : List (D × D)} (r : RpH K F μ H a (.dct t kvs)) :
    ∃ u, H a = some u ∧ Mutl u ∧ Mut (some u) ∧ (∀ xs, u ≠ .tup xs) ∧ ∀ od, RpH K F μ (upd H a (.frz od u)) a (.dlk t kvs) := by
  have kt : ∀ {u : HO} {od : Obj}, H a = some u → (∀ xs, u ≠ .tup xs) → ∀ b xs, H b = some (.tup xs) → upd H a (.frz od u) b = some (.tup xs) := fun h n b xs e => by
    rw [upd_ne (fun z => by subst z; rw [h] at e; cases e; exact n _ rfl)]; exact e
  have kf : ∀ {u : HO} {od : Obj}, H a = some u → (∀ o w, u ≠ .frz o w) → ∀ b o w, H b = some (.frz o w) → upd H a (.frz od u) b = some (.frz o w) := fun h n b o w e => by
    rw [upd_ne (fun z => by subst z; rw [h] at e; cases e; exact n _ _ rfl)]; exact e
  cases t with
  | false =>
    obtain ⟨kv, h, q⟩ := r
    exact ⟨.dK kv, h, trivial, trivial, fun _ z => HO.noConfusion z, fun od => ⟨od, kv, upd_same, q.mono (List.prefix_refl _) (kt h fun _ z => HO.noConfusion z) (kf h fun _ _ z => HO.noConfusion z)⟩⟩
  | true =>
    obtain ⟨kv, h, q⟩ := r
    exact ⟨.dT kv, h, trivial, trivial, fun _ z => HO.noConfusion z, fun od => ⟨od, kv, upd_same, q.mono (List.prefix_refl _) (kt h fun _ z => HO.noConfusion z) (kf h fun _ _ z => HO.noConfusion z)⟩⟩
theorem RpH.dlkU {K : PySem.W.Frag} {F : Nm} {μ : Mu} {H : Hp} {a : Addr} {od : Obj} {u : HO} {t : Bool} {kvs : List (D × D)} (r : RpH K F μ H a (.dlk t kvs)) (h : H a = some (.frz od u)) (nt : ∀ xs, u ≠ .tup xs) : RpH K F μ (upd H a u) a (.dct t kvs) := by
  have kt : ∀ b xs, H b = some (.tup xs) → upd H a u b = some (.tup xs) := fun b xs e => by
    rw [upd_ne (fun z => by subst z; rw [h] at e; cases e)]; exact e
  have kf : ∀ b o xs, H b = some (.frz o (.tup xs)) → upd H a u b = some (.frz o (.tup xs)) := fun b o xs e => by
    rw [upd_ne (fun z => by subst z; rw [h] at e; injection e with e; injection e with _ e; exact nt _ e)]; exact e
  cases t with
  | false =>
    obtain ⟨od', kv, h', q⟩ := r
    rw [h] at h'; injection h' with h'; injection h' with _ h'; subst h'
    exact ⟨kv, upd_same, q.monoT (List.prefix_refl _) kt kf⟩
  | true =>
    obtain ⟨od', kv, h', q⟩ := r
    rw [h] at h'; injection h' with h'; injection h' with _ h'; subst h'
    exact ⟨kv, upd_same, q.monoT (List.prefix_refl _) kt kf⟩
/-- what is to be shown of a step under a lock -/
theorem lck_ok {α : Type} {K : PySem.W.Frag} {F : Nm} {μ : Mu} {H : Hp} {st : Store} {x : R D} {g : Store → R α} {Φ : α → Store → Mu → Hp → Prop} (S : Sto K F μ st H) (w : WP K F μ H (lckR x st g) Φ) :
    ∃ (l : Nat) (a : Addr) (u : HO) (t : Bool) (kvs : List (D × D)), H a = some u ∧ Mut (some u) ∧ ∀ od, Post K F μ H (st.set l (.dlk t kvs)) μ (upd H a (.frz od u)) ∧
      WP K F μ (upd H a (.frz od u)) (g (st.set l (.dlk t kvs))) fun r s μ' H' => H' a = some (.frz od u) ∧ ∃ s2, Post K F μ H s2 μ' (upd H' a u) ∧ (∀ d v, Rp K μ' H' d v → Rp K μ' (upd H' a u) d v) ∧ Φ r s2 μ' (upd H' a u) := by
  unfold lckR at w
  split at w
  · rename_i l s0
    split at w
    · rename_i t kvs hl
      obtain ⟨a, b, e1, _⟩ := S.addr hl
      have hb := S.flag hl e1 rfl
      subst hb
      obtain ⟨u, hu, mu, mu2, nt, hr⟩ := (S.at_ l _ a hl e1).dctU
      have am : (a, false) ∈ μ := List.mem_iff_getElem?.mpr ⟨l, e1⟩
      refine ⟨l, a, u, t, kvs, hu, mu2, fun od => ⟨Post.lock S hl e1 rfl hu mu (hr od), ?_⟩⟩
      cases hg : g (st.set l (.dlk t kvs)) with
      | no => rw [hg] at w; exact w.elim
      | ok r s =>
        rw [hg] at w
        intro μ' H' P
        have hz : H' a = some (.frz od u) := P.frm a _ upd_same (.inr fun z => z)
        simp only [R.bind_ok] at w
        split at w
        · rename_i t' kvs' hl'
          have e2 : μ'[l]? = some (a, false) := pre_get P.pre e1
          obtain ⟨Q1, Q2⟩ := Post.unlock am hu mu nt P hl' e2 ((P.sto.at_ l _ a hl' e2).dlkU hz nt)
          exact ⟨hz, _, Q1, Q2, w _ _ Q1⟩
        · exact w.elim
    · exact w.elim
  · exact w.elim
section
variable {X : Cx} {F : Nm} {tg : Expr}
theorem lckE {e : Expr} {f g : Env → Store → R D} (he : PE X e (tE X.K F g)) : PE X e (tE X.K F fun ρ st => lckR (f ρ st) st fun s => g ρ s) :=
  impE (pe_lock he) fun σ H Q w => by
    obtain ⟨μ, ρ, st, S, w⟩ := w
    obtain ⟨l, a, u, t, kvs, hu, mu, k⟩ := lck_ok S.sto w
    refine ⟨a, u, hu, mu, fun od => ?_⟩
    obtain ⟨P, w1⟩ := k od
    refine ⟨μ, ρ, _, S.post P, w1.mono fun d s μ1 H1 P1 w2 v rv => ?_⟩
    obtain ⟨hz, s2, P2, q, w3⟩ := w2
    exact ⟨hz, w3 v (q d v rv)⟩
/-! ### the pairs of a locked dict -/
theorem pr_get {α β : Type} {P : α → β → Prop} : ∀ {l : List α} {m : List β} {i : Nat} {a : α} {b : β}, Paired P l m → l[i]? = some a → m[i]? = some b → P a b
  | _, _, 0, _, _, .cons h _, e1, e2 => by simp at e1 e2; subst e1 e2; exact h
  | _, _, i + 1, _, _, .cons _ t, e1, e2 => pr_get t (by simpa using e1) (by simpa using e2)
theorem keyV_rp {K : PySem.W.Frag} {μ : Mu} {H : Hp} (k : L2.Key) : Rp K μ H (keyD k) (L2.kV k) := by
  cases k with
  | inl i => exact .int i
  | inr x => exact .str x
theorem wlk_itm {K : PySem.W.Frag} {F : Nm} {μ : Mu} {H : Hp} {st : Store} {l : Nat} {a : Addr} {od : Obj} {kv : List (L2.Key × V)} {kvs : List (D × D)} (hl : μ[l]? = some (a, false)) (ha : H a = some (.frz od (.dK kv))) : Wlk K F μ H ⟨kvs.map fun p => .tup [p.1, p.2], [(l, .dlk false kvs)]⟩ (Iti a od kv) := by
  intro s2 μ2 H2 P hw
  have e := watOk_mem hw (l := l) (o := .dlk false kvs) (by simp)
  have h2 : H2 a = some (.frz od (.dK kv)) := P.frm a _ ha (.inr fun z => z)
  obtain ⟨od', kv', h3, r⟩ := P.sto.at_ l _ a e (pre_get P.pre hl)
  rw [h2] at h3; injection h3 with h3; injection h3 with _ h3; injection h3 with h3; subst h3
  have hlen : kvs.length = kv.length := Paired.length r
  have W := walk_items (d := a) (o := od) (kvs := kv)
  rw [show (⟨kvs.map fun p => D.tup [p.1, p.2], [(l, O.dlk false kvs)]⟩ : Wk).its.length = kv.length from by simp [hlen]]
  refine ⟨fun i hi => W.goes i H2 hi h2, W.stops H2 h2, fun i x H3 hi y => ?_⟩
  obtain ⟨T, x1, x2, rfl, hT, rfl, e1, e2⟩ := W.yields i H2 x H3 hi h2 y
  have hi' : i < kvs.length := by omega
  have hg := pr_get r (List.getElem?_eq_getElem hi') (List.getElem?_eq_getElem hi)
  obtain ⟨k1, k2⟩ := hg
  have g1 : kv[i]? = some kv[i] := List.getElem?_eq_getElem hi
  simp only [g1, Option.map_some, Option.some.injEq] at e1 e2
  subst e1 e2
  have PT := Post.fresh (u := .tup [L2.kV kv[i].1, kv[i].2]) P.sto hT
  refine ⟨.tup [kvs[i].1, kvs[i].2], by simp [List.getElem?_eq_getElem hi'], PT, .tup upd_same (.cons (by rw [k1]; exact keyV_rp _) (.cons (k2.post PT) .nil))⟩
theorem pi_itmN {e : Expr} {f : Env → Store → R D} {apos cpos tpos : Pos} {elts : List Expr} {kk : Nat} (he : PE X e (tE X.K F f)) (hbase : attributeBase e "items" X.env (eval e X.env) = eval e X.env) (hline : (apos.endLine == cpos.line) = true) :
    PI X (.Tuple elts kk tpos) (.Call (.Attribute e "items" apos) [] [] cpos) (tIt X.K F fun ρ st => (f ρ st).bind fun x s => wkItm x s) :=
  impI (pi_items he hbase hline) fun σ H R h => by
    obtain ⟨μ, ρ, st, S, w⟩ := h
    refine ⟨μ, ρ, st, S, w.bind.mono fun d s μ1 H1 P1 w1 v rv => ?_⟩
    cases rv with
    | @ref l a b hl =>
      simp only [wkItm] at w1
      split at w1
      · rename_i kvs hs
        have hb := P1.sto.flag hs hl rfl
        subst hb
        obtain ⟨od, kv, h, r⟩ := P1.sto.at_ l _ a hs hl
        exact ⟨a, od, kv, rfl, h, WP.ok P1.sto w1 _ (wlk_itm (st := s) hl h)⟩
      · exact w1.elim
    | _ => exact w1.elim
end
end Nz
namespace Nz
open PySem L2 PyProof.Rows
/-! ### methods of lists -/
/-- xs.extend(a tuple) -/
theorem ext_meets (l b : Addr) (u v : Array Value) (n m : Nat) (od : Option Addr) (sl : Array (Option Value)) (h0 : ¬(!u.isEmpty && Builtin.List.listTooLong (u.size + v.size)) = true) (h1 : u.size ≤ sizeLine) (h2 : u.size + v.size ≤ sizeLine + 1) :
    Meets (Builtin.«list.extend» ⟨[.ref l, .ref b], []⟩) (fun _ R s => s.heap.get? l = some { cls := .type "list", dict := none, data := .seq u n, slots := #[] } ∧ s.heap.get? b = some { cls := .type "tuple", dict := od, data := .seq v m, slots := sl } ∧
      R (.ok (.ret Value.none)) { s with heap := s.heap.update l (Obj.mapSeq fun x => x ++ v), toks := s.toks }) :=
  .of_wp fun prog w A R s h => by
    obtain ⟨hp, g, d, tk, os⟩ := s
    obtain ⟨hl, hb, h⟩ := h
    have f1 := AutoSeq1.idx_int; have f2 := AutoSeq1.sub_tuple_tuple; have f3 := AutoSeq1.sub_list_list
    have f4 := AutoSeq1.sub_tuple_list; have f5 := AutoSeq1.sub_list_tuple
    have h3 : (u ++ v).size ≤ sizeLine + 1 := by rw [Array.size_append]; exact h2
    wp_walk using (wpAny_updateSeq hl rfl (hz := h1) (_hz' := h3)), wpAny_loadPart' hl, wpAny_loadPart' hb
    exact ⟨_, rfl, h⟩
def rExtA (K : PySem.W.Frag) : V → List V → Hp → VK → Prop := fun x vs H Q => ∃ l b xs zs, x = .ref l ∧ vs = [.ref b] ∧ H l = some (.lst xs) ∧ (SqT K H b zs ∨ H b = some (.lst zs)) ∧ xs.length + zs.length ≤ sizeLine ∧ Q .non (upd H l (.lst (xs ++ zs)))
theorem mt_extA {X : Cx} : MtR X "list.extend" (rExtA X.K) := by
  intro pins s σ H x vs v us Q I rx rv h
  obtain ⟨l, b, xs, zs, rfl, rfl, hH, hB, hz, q⟩ := h
  rcases hB with hB | hB
  · cases rx
    obtain ⟨u, rfl, ru⟩ := rv.one
    cases ru
    obtain ⟨z, its, n, r, hl, e⟩ := I.lstM hH
    obtain ⟨its2, r2, ⟨o2, e2, c2, n2, d2⟩, hz2⟩ := I.tuple hB
    obtain ⟨oc, od, dt, sl⟩ := o2
    simp only at c2 d2
    subst c2 d2
    have hl2 := r2.length
    have hsz : its.toArray.size + its2.toArray.size ≤ sizeLine := by rw [List.size_toArray, List.size_toArray]; omega
    have hlong : ¬ (!its.toArray.isEmpty && Builtin.List.listTooLong (its.toArray.size + its2.toArray.size)) = true := by
      rw [notLongL hsz, Bool.and_false]
      exact Bool.false_ne_true
    refine call_meets PySem.F.slot_list_extend ⟨_, e, rfl⟩ PySem.F.entry_list_extend (PySem.F.args_list_extend_2 _ _)
      (ext_meets l b its.toArray its2.toArray n n2 od sl hlong (by rw [List.size_toArray]; omega) (by omega)) ⟨e, e2, ?_⟩
    refine ⟨.non, _, I.lset (its' := its ++ its2) hH e (by simp) (r.append r2) ?_, rfl, q⟩
    rw [List.length_append]
    omega
  · exact mt_extend pins s σ H _ _ v us Q I rx rv ⟨l, b, xs, zs, rfl, rfl, hH, hB, hz, q⟩
theorem extOf_ok {K : PySem.W.Frag} {F : Nm} {μ : Mu} {H : Hp} {st : Store} {y : D} {u : V} {ys : List D} (S : Sto K F μ st H) (r : Rp K μ H y u) (h : extOf y st = some ys) : ∃ (c : Addr) (zs : List V), u = V.ref c ∧ (SqT K H c zs ∨ H c = some (.lst zs)) ∧ Rps K μ H ys zs := by
  cases r with
  | @tup _ c zs g1 g2 =>
    cases h
    exact ⟨c, zs, rfl, .inl (.of g1), g2⟩
  | @ref m c b2 g1 =>
    simp only [extOf] at h
    split at h
    · rename_i zs' hz'
      cases h
      obtain ⟨zs, k1, k2⟩ := S.back hz' g1 rfl
      exact ⟨c, zs, rfl, .inr k1, k2⟩
    · cases h
  | _ => cases h
/-- what a method asks, by values -/
def rLm (K : PySem.W.Frag) : Lm → V → List V → Hp → VK → Prop
  | .ext => rExtA K
  | .ins => fun x vs H Q => ∃ (l : Addr) (xs : List V) (i : Int) (y : V), x = .ref l ∧ vs = [.int i, y] ∧ H l = some (.lst xs) ∧ xs.length < sizeLine ∧ 0 ≤ i ∧ i < 2 ^ 63 ∧ Q .non (upd H l (.lst (xs.take i.toNat ++ [y] ++ xs.drop i.toNat)))
  | .idx => rIndex K
  | .rem => rRemI
theorem lm_ok {K : PySem.W.Frag} {F : Nm} {μ : Mu} {H : Hp} {st : Store} {m : Lm} {x : D} {ds : List D} {v : V} {vs : List V} {Q : VK} (S : Sto K F μ st H) (rx : Rp K μ H x v) (rs : Rps K μ H ds vs) (w : WP K F μ H (lmR m x ds st) (VQ K Q)) : rLm K m v vs H Q := by
  cases rx with
  | @ref l a b hl =>
    unfold lmR at w
    simp only at w
    split at w
    · rename_i y xs hx
      obtain ⟨vs1, h1, r1⟩ := S.back hx hl rfl
      cases rs with
      | cons ry t =>
        cases t
        split at w
        · rename_i ys hy
          obtain ⟨hg, w⟩ := w.grd
          have hg : xs.length + ys.length ≤ 16777216 := of_decide_eq_true hg
          obtain ⟨c, zs, e, hz, rz⟩ := extOf_ok S ry hy
          subst e
          have kt : ∀ b xs, H b = some (.tup xs) → upd H a (.lst (vs1 ++ zs)) b = some (.tup xs) := fun b xs e => by
            rw [upd_ne (fun z => by subst z; rw [h1] at e; cases e)]; exact e
          have kf : ∀ b o w, H b = some (.frz o w) → upd H a (.lst (vs1 ++ zs)) b = some (.frz o w) := fun b o w e => by
            rw [upd_ne (fun z => by subst z; rw [h1] at e; cases e)]; exact e
          have P := Post.write (u := .lst (vs1 ++ zs)) (o' := .lst (xs ++ ys)) S hx hl rfl h1 trivial ⟨_, upd_same, (r1.append rz).mono (List.prefix_refl _) kt kf⟩
          exact ⟨a, c, vs1, zs, rfl, rfl, h1, hz, by rw [← r1.length, ← rz.length, sizeLine_eq]; exact hg, w _ _ P _ .non⟩
        · exact w.elim
    · rename_i i d xs hx
      obtain ⟨vs1, h1, r1⟩ := S.back hx hl rfl
      cases rs with
      | cons ri t =>
        cases t with
        | cons rd t2 =>
          cases t2
          cases ri
          obtain ⟨hg, w⟩ := w.grd
          simp only [Bool.and_eq_true, decide_eq_true_eq] at hg
          obtain ⟨⟨g1, g2⟩, g3⟩ := hg
          rename_i u
          have kt : ∀ b xs, H b = some (.tup xs) → upd H a (.lst (vs1.take i.toNat ++ [u] ++ vs1.drop i.toNat)) b = some (.tup xs) := fun b xs e => by
            rw [upd_ne (fun z => by subst z; rw [h1] at e; cases e)]; exact e
          have kf : ∀ b o w, H b = some (.frz o w) → upd H a (.lst (vs1.take i.toNat ++ [u] ++ vs1.drop i.toNat)) b = some (.frz o w) := fun b o w e => by
            rw [upd_ne (fun z => by subst z; rw [h1] at e; cases e)]; exact e
          have P := Post.write (u := .lst (vs1.take i.toNat ++ [u] ++ vs1.drop i.toNat)) (o' := .lst (xs.take i.toNat ++ [d] ++ xs.drop i.toNat)) S hx hl rfl h1 trivial ⟨_, upd_same, (((r1.take _).append (.cons rd .nil)).append (r1.drop _)).mono (List.prefix_refl _) kt kf⟩
          have g3 : xs.length < 16777216 := g3
          exact ⟨a, vs1, i, u, rfl, rfl, h1, by rw [← r1.length, sizeLine_eq]; exact g3, g1, by omega, w _ _ P _ .non⟩
    · rename_i y xs hx
      obtain ⟨vs1, h1, r1⟩ := S.back hx hl rfl
      cases rs with
      | cons ry t =>
        cases t
        obtain ⟨hg, w⟩ := w.grd
        simp only [Bool.and_eq_true] at hg
        obtain ⟨g1, g2⟩ := hg
        split at w
        · rename_i j hj
          rw [List.findIdx?_eq_some_iff_getElem] at hj
          obtain ⟨j1, j2, j3⟩ := hj
          obtain ⟨z, z1, z2⟩ := r1.get (List.getElem?_eq_getElem j1)
          have fl : ∀ {ds : List D} {vs : List V}, Rps K μ H ds vs → ds.all D.flat = true → vs.all flatV = true := by
            intro ds
            induction ds with
            | nil => intro vs r _; cases r; rfl
            | cons d ds ih =>
              intro vs r h
              cases r with
              | cons q t =>
                rw [List.all_cons, Bool.and_eq_true] at h
                rw [List.all_cons, ih t h.2, Bool.and_true]
                exact flat_ok q h.1
          refine ⟨a, vs1, _, j, z, rfl, rfl, .of h1, flat_ok ry g1, fl r1 g2, z1, by rw [eqF_ok z2 ry (List.all_eq_true.mp g2 _ (List.getElem_mem j1)) g1]; exact j2, fun m z' hm hz' => ?_, WP.ok S w _ (.int _)⟩
          have hm' : m < xs.length := by omega
          obtain ⟨z3, z4, z5⟩ := r1.get (List.getElem?_eq_getElem hm')
          rw [hz'] at z4; cases z4
          rw [eqF_ok z5 ry (List.all_eq_true.mp g2 _ (List.getElem_mem hm')) g1]
          have := j3 m hm
          simpa using this
        · exact w.elim
    · rename_i k xs hx
      obtain ⟨vs1, h1, r1⟩ := S.back hx hl rfl
      cases rs with
      | cons ry t =>
        cases t
        cases ry
        split at w
        · rename_i is hi
          obtain ⟨hg, w⟩ := w.grd
          have := intsOf_ok r1 hi
          subst this
          have hk : k ∈ is := by simpa using hg
          have hj : is.idxOf k < is.length := List.idxOf_lt_length_of_mem hk
          have kt : ∀ b xs, H b = some (.tup xs) → upd H a (.lst ((is.erase k).map V.int)) b = some (.tup xs) := fun b xs e => by
            rw [upd_ne (fun z => by subst z; rw [h1] at e; cases e)]; exact e
          have kf : ∀ b o w, H b = some (.frz o w) → upd H a (.lst ((is.erase k).map V.int)) b = some (.frz o w) := fun b o w e => by
            rw [upd_ne (fun z => by subst z; rw [h1] at e; cases e)]; exact e
          have rr : ∀ l : List Int, Rps K μ H (l.map .int) (l.map V.int) := by
            intro l
            induction l with
            | nil => exact .nil
            | cons i l ih => exact .cons (.int _) ih
          have P := Post.write (u := .lst ((is.erase k).map V.int)) (o' := .lst ((is.erase k).map .int)) S hx hl rfl h1 trivial ⟨_, upd_same, (rr _).mono (List.prefix_refl _) kt kf⟩
          refine ⟨a, is, k, is.idxOf k, rfl, rfl, h1, by rw [List.getElem?_eq_getElem hj, List.getElem_idxOf], fun m hm e => ?_, ?_⟩
          · have := List.not_of_lt_findIdx (p := (· == k)) (xs := is) (i := m) hm
            have hm2 : m < is.length := by omega
            rw [List.getElem?_eq_getElem hm2] at e
            simp only [Option.some.injEq] at e
            rw [e] at this
            simp at this
          · rw [← List.erase_eq_eraseIdx_of_idxOf (i := is.idxOf k) rfl]
            exact w _ _ P _ .non
        · exact w.elim
    · exact w.elim
  | _ => exact w.elim
def lmId : Lm → String
  | .ext => "list.extend" | .ins => "list.insert" | .idx => "list.index" | .rem => "list.remove"
def lmNm : Lm → Str
  | .ext => "extend" | .ins => "insert" | .idx => "index" | .rem => "remove"
theorem lmOf_name {m : Str} {k : Lm} (h : lmOf m = some k) : m = lmNm k := by
  unfold lmOf at h
  split at h
  · cases h; assumption
  · split at h
    · cases h; assumption
    · split at h
      · cases h; assumption
      · split at h
        · cases h; assumption
        · cases h
section
variable {X : Cx} {F : Nm} {a b : Expr} {r : List Expr} {f : Env → Store → R D} {g : Env → Store → R (List D)} {pos : Pos}
theorem lmE {m : Str} {k : Lm} {apos : Pos} (hm : lmOf m = some k) (ha : PE X a (tE X.K F f)) (hb : PA X (b :: r) (tAs X.K F g)) (hbase : attributeBase a m X.env (eval a X.env) = eval a X.env) (hline : (apos.endLine == pos.line) = true)
    (hs : starEach (b :: r) X.env = (false, eval b X.env) :: starEach r X.env) (hn : ∀ e ∈ b :: r, isStar e = false) (hl : (b :: r).length < 20) :
    PE X (.Call (.Attribute a m apos) (b :: r) [] pos) (tE X.K F fun ρ st => (f ρ st).bind fun x s => R.grd (lstOf x s).isSome ((g ρ s).bind fun ds s => lmR k x ds s)) := by
  have hall : (backTo pos (starEach (b :: r) X.env)).all (fun x => !x.1) = true := by
    have q := noStar.any (env := X.env) (pos := pos) (es := b :: r) hn
    rw [List.all_eq_true]
    intro x hx
    cases e : x.1 with
    | false => rfl
    | true =>
      rw [List.any_eq_false] at q
      exact absurd e (q x hx)
  have hplain : (backTo pos (starEach r X.env)).any (·.1) = false := noStar.any fun e he => hn e (List.mem_cons_of_mem _ he)
  have hfew : ((backTo pos (starEach (b :: r) X.env)).all (fun x => !x.1) && (backToKw pos (keywordEach [] X.env)).all (fun x => x.1.isSome)
      && decide ((b :: r).length + ([] : List Keyword).length + (if ([] : List Keyword).isEmpty then 0 else 1) < 30)) = true := by
    rw [hall]
    have : decide ((b :: r).length + ([] : List Keyword).length + (if ([] : List Keyword).isEmpty then 0 else 1) < 30) = true := by
      apply decide_eq_true
      simp only [List.length_cons, List.length_nil, List.isEmpty_nil, if_true] at hl ⊢
      omega
    rw [this]
    have e0 : keywordEach [] X.env = [] := by unfold keywordEach; rfl
    rw [e0]; rfl
  have key : PE X (.Call (.Attribute a m apos) (b :: r) [] pos) (tBM X.K "list" (rLm X.K k) (tE X.K F f) (tAs X.K F g)) := by
    have hx := lmOf_name hm
    cases k with
    | ext =>
      obtain rfl : m = "extend" := hx
      exact pe_bm PySem.F.plainAttrs_list PySem.F.slot_list_extend PySem.F.type_list_extend mt_extA ha hb hbase hfew hline hs hplain
    | ins =>
      obtain rfl : m = "insert" := hx
      exact pe_bm PySem.F.plainAttrs_list PySem.F.slot_list_insert PySem.F.type_list_insert mt_insert ha hb hbase hfew hline hs hplain
    | idx =>
      obtain rfl : m = "index" := hx
      exact pe_bm PySem.F.plainAttrs_list PySem.F.slot_list_index PySem.F.type_list_index mt_index ha hb hbase hfew hline hs hplain
    | rem =>
      obtain rfl : m = "remove" := hx
      exact pe_bm PySem.F.plainAttrs_list PySem.F.slot_list_remove PySem.F.type_list_remove mt_remove ha hb hbase hfew hline hs hplain
  refine impE key fun σ H Q w => ?_
  obtain ⟨μ, ρ, st, S, w⟩ := w
  refine ⟨μ, ρ, st, S, w.bind.mono fun d s μ1 H1 P1 w1 v rv => ?_⟩
  obtain ⟨hl, w1⟩ := w1.grd
  cases hd : lstOf d s with
  | none => rw [hd] at hl; cases hl
  | some ds =>
    obtain ⟨p, vs, rfl, hq, rs⟩ := lstOf_ok P1.sto rv hd
    refine ⟨.inl ⟨rfl, vs, hq⟩, ?_⟩
    refine ⟨μ1, ρ, s, S.post P1, w1.bind.mono fun e s2 μ2 H2 P2 w2 us ru => ?_⟩
    exact lm_ok P2.sto (rv.post P2) ru w2
end
end Nz
namespace Nz
open PySem L2 PyProof.Rows
/-! ### list(range(..)) -/
section
variable {X : Cx} {F : Nm} {T : Tab} {G : Ctx} {call : Nat → List D → Store → R D}
theorem rgRps {K : PySem.W.Frag} {μ : Mu} {H : Hp} {i : Int} : ∀ n : Nat, Rps K μ H (rangeL i n) ((List.range n).map fun k => V.int (i + (k : Nat)))
  | 0 => .nil
  | n + 1 => by
    unfold rangeL
    rw [List.range_succ, List.map_append, List.map_append]
    exact (rgRps n).append (.cons (.int _) .nil)
theorem lrng_ok {K : PySem.W.Frag} {μ : Mu} {H : Hp} {st : Store} {x y : D} {v u : V} {Q : VK} (S : Sto K F μ st H) (r1 : Rp K μ H x v) (r2 : Rp K μ H y u) (w : WP K F μ H ((wkRng x y st).bind fun w s => newL w.its s) (VQ K Q)) :
    ∃ i j, v = .int i ∧ u = .int j ∧ RgOk i j ∧ ∀ q, H q = none → Q (.ref q) (upd H q (.lst (rgV i j))) := by
  obtain ⟨i, j, rfl, rfl, hb, q⟩ := wkRng_ok S r1 r2 w.bind
  have hz : (rangeL i (j - i).toNat).length ≤ 16777216 := of_decide_eq_true q.grd.1
  have r : Rps K μ H (rangeL i (j - i).toNat) (rgV i j) := rgRps _
  refine ⟨i, j, rfl, rfl, ⟨hb.1, hb.2.1, hb.2.2.1, hb.2.2.2, ?_⟩, (newL_ok S r q).2⟩
  simp only [rangeL, List.length_map, List.length_range] at hz
  have e : (2 : Nat) ^ 24 = 16777216 := by decide
  rw [e]; exact hz
theorem lrng1E (o : Ok X F T G call) {a : Expr} {f : Env → Store → R D} {p q pos pos2 : Pos} (ha : PE X a (tE X.K F f)) (hg : Gl X "list") (hm : X.mg "list" = none) (hg2 : Gl X "range") (hm2 : X.mg "range" = none) (sa : isStar a = false) :
    PE X (.Call (.Name "list" p) [.Call (.Name "range" q) [a] [] pos2] [] pos) (tE X.K F fun ρ st => ((f ρ st).bind fun x s => wkRng (.int 0) x s).bind fun w s => newL w.its s) :=
  impE (pe_listRg o.calm hg hm (prg_1 hg2 hm2 ha (star_one sa))) fun σ H Q w => by
    obtain ⟨μ, ρ, st, S, w⟩ := w
    simp only [R.bind_assoc] at w
    refine ⟨μ, ρ, st, S, w.bind.mono fun d s μ1 H1 P1 w1 v rv => ?_⟩
    obtain ⟨i, j, e, rfl, h1, h2⟩ := lrng_ok P1.sto (.int 0) rv w1
    cases e
    exact ⟨j, rfl, h1, h2⟩
theorem lrng2E (o : Ok X F T G call) {a b : Expr} {f g : Env → Store → R D} {p q pos pos2 : Pos} (ha : PE X a (tE X.K F f)) (hb : PE X b (tE X.K F g)) (hg : Gl X "list") (hm : X.mg "list" = none) (hg2 : Gl X "range") (hm2 : X.mg "range" = none) (sa : isStar a = false) (sb : isStar b = false) :
    PE X (.Call (.Name "list" p) [.Call (.Name "range" q) [a, b] [] pos2] [] pos) (tE X.K F fun ρ st => ((f ρ st).bind fun x s => (g ρ s).bind fun y s => wkRng x y s).bind fun w s => newL w.its s) :=
  impE (pe_listRg o.calm hg hm (prg_2 hg2 hm2 ha hb (star_cons sa) (star_one sb) (by rw [star_one sb]; rfl))) fun σ H Q w => by
    obtain ⟨μ, ρ, st, S, w⟩ := w
    simp only [R.bind_assoc] at w
    refine ⟨μ, ρ, st, S, w.bind.mono fun d s μ1 H1 P1 w1 v rv => ?_⟩
    refine ⟨μ1, ρ, s, S.post P1, w1.bind.mono fun d2 s2 μ2 H2 P2 w2 v2 rv2 => ?_⟩
    obtain ⟨i, j, rfl, rfl, h1, h2⟩ := lrng_ok P2.sto (rv.post P2) rv2 w2
    exact ⟨i, j, rfl, rfl, h1, h2⟩
/-! ### comprehensions' scopes -/
theorem blk_ok {N : List Str} {sc scope : Scope} {own : List (Str × Nat)} (h : blkB N sc scope own = true) : BlkOk N sc scope own := by
  unfold blkB at h
  simp only [Bool.and_eq_true] at h
  obtain ⟨⟨⟨⟨h1, h2⟩, h3⟩, h4⟩, h5⟩ := h
  refine ⟨by simpa using h1, fun y hy => ?_, fun p hp => ?_, fun y hy e => ?_, fun y hy e => ?_⟩
  · simpa using List.all_eq_true.mp h2 y hy
  · simpa using List.all_eq_true.mp h3 p hp
  · have := List.all_eq_true.mp h4 y hy
    rw [e] at this
    simpa using this
  · have := List.all_eq_true.mp h5 y hy
    rcases e with e | e
    · rw [e] at this; simpa using this
    · rw [e] at this; simpa using this
theorem fnLoc_blk {X : Cx} {s : Shared} {H : Hp} {scope : Scope} {C : Addr} {cl : List (Str × Addr)} {fp : List Addr} : FnLoc (X.blk s H scope (compEnvC scope cl C X.env) fp) scope := by
  intro x hx
  have keep : ∀ k, k ≠ NameKind.free → scope.names.lookup x = some k → (relS scope X.env.scope).names.lookup x = some k := fun k hk e => lookup_relS_keep hk e
  rcases hx with e | e
  · have e' := keep _ (by decide) e
    exact ⟨.inl e', .inr e'⟩
  · have e' := keep _ (by decide) e
    refine ⟨.inr e', .inl ?_⟩
    show (scope.names.lookup x == some NameKind.cell) = true
    rw [e]; rfl
theorem setBehind {op : CmpOp} {b : Expr} (h : isSet b = false) : behindInMarks op b = false := by
  cases b <;> first | rfl | cases h
theorem setFold {e : Expr} (h : isSet e = false) (env : PySem.Env) (x : Value) : foldedSetIterable e env x = pure x := by
  cases e <;> first | rfl | cases h
/-- what an index may be -/
theorem plainIx {e : Expr} (h : ∀ lo hi st p, e ≠ .Slice lo hi st p) : PlainIx e := by
  intro o i
  cases e <;> first | rfl | exact absurd rfl (h _ _ _ _)
end
end Nz
namespace Nz
open PySem L2 PyProof.Rows
/-- all parts of an expression's translation, at one depth -/
structure AllE (F : Nm) (T : Tab) (G : Ctx) (call : Nat → List D → Store → R D) (n : Nat) : Prop where
  e : ∀ {X : Cx} {e : Expr} {E : Nz.E}, Ok X F T G call → trE T n X.env.scope e = some E → PE X e (tE X.K F (ev G call E))
  and : ∀ {X : Cx} {es : List Expr} {E : Nz.E} {pos : Pos}, Ok X F T G call → trAnd T n X.env.scope es = some E → PE X (.BoolOp .And es pos) (tE X.K F (ev G call E))
  or : ∀ {X : Cx} {es : List Expr} {E : Nz.E} {pos : Pos}, Ok X F T G call → trOr T n X.env.scope es = some E → PE X (.BoolOp .Or es pos) (tE X.K F (ev G call E))
  ix : ∀ {X : Cx} {e : Expr} {E : Nz.E}, Ok X F T G call → trIx T n X.env.scope e = some E → PE X e (tE X.K F (ev G call E)) ∧ PlainIx e
  bi : ∀ {X : Cx} {x : Str} {as : List Expr} {E : Nz.E} {p pos : Pos}, Ok X F T G call → isFree T X.env.scope x = true → trBi T n X.env.scope x as = some E → PE X (.Call (.Name x p) as [] pos) (tE X.K F (ev G call E))
  es : ∀ {X : Cx} {as : List Expr} {E : Nz.Es}, Ok X F T G call → trEs T n X.env.scope as = some E → PA X as (tAs X.K F (evs G call E)) ∧ noStar as ∧ (as = [] → E = .nil)
  ed : ∀ {X : Cx} {as : List Expr} {E : Nz.Es}, Ok X F T G call → trEd T n X.env.scope as = some E → PA X as (tAs X.K F (evs G call E))
  o : ∀ {X : Cx} {a : Option Expr} {E : Nz.Oe}, Ok X F T G call → trO T n X.env.scope a = some E → PO X a (tOi X.K F (evO G call E))
  c : ∀ {X : Cx} {e : Expr} {E : Nz.C}, Ok X F T G call → trC T n X.env.scope e = some E → PT X e (tCo X.K F (evC G call E))
  cand : ∀ {X : Cx} {es : List Expr} {E : Nz.C} {pos : Pos}, Ok X F T G call → trCAnd T n X.env.scope es = some E → PW X (.BoolOp .And es pos) (tCo X.K F (evC G call E))
  cor : ∀ {X : Cx} {es : List Expr} {E : Nz.C} {pos : Pos}, Ok X F T G call → trCOr T n X.env.scope es = some E → PW X (.BoolOp .Or es pos) (tCo X.K F (evC G call E))
  i : ∀ {X : Cx} {tg e : Expr} {tt : Bool} {E : Nz.Iw}, Ok X F T G call → (tt = true → isTup tg = true) → trI T n X.env.scope tt e = some E → PI X tg e (tIt X.K F (evi G call E)) ∧ isSet e = false
section
variable {F : Nm} {T : Tab} {G : Ctx} {call : Nat → List D → Store → R D} {n : Nat}
theorem isRng_ok {X : Cx} {e : Expr} {as : List Expr} (o : Ok X F T G call) (h : isRng T X.env.scope e = some as) : ∃ p pos, e = .Call (.Name "range" p) as [] pos ∧ Gl X "range" ∧ X.mg "range" = none := by
  unfold isRng at h
  split at h
  · split at h
    · rename_i hx
      cases h
      obtain ⟨h1, h2⟩ := hx
      obtain ⟨g1, _, g3⟩ := isFree_ok o h2
      subst h1
      exact ⟨_, _, rfl, g1, g3⟩
    · cases h
  · cases h
theorem isCallOf_ok {X : Cx} {e : Expr} {as : List Expr} {y : Str} (o : Ok X F T G call) (h : isCallOf T X.env.scope y e = some as) : ∃ p pos, e = .Call (.Name y p) as [] pos ∧ Gl X y ∧ X.mg y = none := by
  unfold isCallOf at h
  split at h
  · split at h
    · rename_i hx
      cases h
      obtain ⟨h1, h2⟩ := hx
      obtain ⟨g1, _, g3⟩ := isFree_ok o h2
      subst h1
      exact ⟨_, _, rfl, g1, g3⟩
    · cases h
  · cases h
theorem s_o (A : AllE F T G call n) {X : Cx} {a : Option Expr} {E : Nz.Oe} (o : Ok X F T G call) (h : trO T (n + 1) X.env.scope a = some E) : PO X a (tOi X.K F (evO G call E)) := by
  cases a with
  | none => simp only [trO, Option.some.injEq] at h; subst h; exact noneO
  | some e =>
    simp only [trO] at h
    cases q : trE T n X.env.scope e with
    | none => rw [q] at h; cases h
    | some E' => rw [q] at h; cases h; exact someO (A.e o q)
theorem s_es (A : AllE F T G call n) {X : Cx} {as : List Expr} {E : Nz.Es} (o : Ok X F T G call) (h : trEs T (n + 1) X.env.scope as = some E) : PA X as (tAs X.K F (evs G call E)) ∧ noStar as ∧ (as = [] → E = .nil) := by
  cases as with
  | nil => simp only [trEs, Option.some.injEq] at h; subst h; exact ⟨nilA, fun _ h => (nomatch h), fun _ => rfl⟩
  | cons a as =>
    simp only [trEs] at h
    split at h
    · cases h
    rename_i hs
    have hs : isStar a = false := by simpa using hs
    cases q : trE T n X.env.scope a with
    | none => rw [q] at h; cases h
    | some E1 =>
      cases q' : trEs T n X.env.scope as with
      | none => rw [q, q'] at h; cases h
      | some E2 =>
        rw [q, q'] at h
        cases h
        obtain ⟨h1, h2, _⟩ := A.es o q'
        refine ⟨consA (A.e o q) h1 (star_cons hs), fun e he => ?_, fun z => by cases z⟩
        rcases List.mem_cons.mp he with z | z
        · rw [z]; exact hs
        · exact h2 e z
theorem s_ed (A : AllE F T G call n) {X : Cx} {as : List Expr} {E : Nz.Es} (o : Ok X F T G call) (h : trEd T (n + 1) X.env.scope as = some E) : PA X as (tAs X.K F (evs G call E)) := by
  simp only [trEd] at h
  split at h
  · cases h; exact nilA
  · rename_i e p es
    cases q : trE T n X.env.scope e with
    | none => rw [q] at h; cases h
    | some E1 =>
      cases q' : trEd T n X.env.scope es with
      | none => rw [q, q'] at h; cases h
      | some E2 => rw [q, q'] at h; cases h; exact splA (A.e o q) (A.ed o q')
  · rename_i e es _
    split at h
    · cases h
    rename_i hs
    have hs : isStar e = false := by simpa using hs
    cases q : trE T n X.env.scope e with
    | none => rw [q] at h; cases h
    | some E1 =>
      cases q' : trEd T n X.env.scope es with
      | none => rw [q, q'] at h; cases h
      | some E2 => rw [q, q'] at h; cases h; exact consA (A.e o q) (A.ed o q') (star_cons hs)
theorem s_and (A : AllE F T G call n) {X : Cx} {es : List Expr} {E : Nz.E} {pos : Pos} (o : Ok X F T G call) (h : trAnd T (n + 1) X.env.scope es = some E) : PE X (.BoolOp .And es pos) (tE X.K F (ev G call E)) := by
  cases es with
  | nil => simp only [trAnd, reduceCtorEq] at h
  | cons a r =>
    cases r with
    | nil => simp only [trAnd] at h; exact pe_one (A.e o h)
    | cons b r =>
      simp only [trAnd] at h
      cases q : trE T n X.env.scope a with
      | none => rw [q] at h; cases h
      | some E1 =>
        cases q' : trAnd T n X.env.scope (b :: r) with
        | none => rw [q, q'] at h; cases h
        | some E2 => rw [q, q'] at h; cases h; exact andE (A.e o q) (A.and o q')
theorem s_or (A : AllE F T G call n) {X : Cx} {es : List Expr} {E : Nz.E} {pos : Pos} (o : Ok X F T G call) (h : trOr T (n + 1) X.env.scope es = some E) : PE X (.BoolOp .Or es pos) (tE X.K F (ev G call E)) := by
  cases es with
  | nil => simp only [trOr, reduceCtorEq] at h
  | cons a r =>
    cases r with
    | nil => simp only [trOr] at h; exact pe_one (A.e o h)
    | cons b r =>
      simp only [trOr] at h
      cases q : trE T n X.env.scope a with
      | none => rw [q] at h; cases h
      | some E1 =>
        cases q' : trOr T n X.env.scope (b :: r) with
        | none => rw [q, q'] at h; cases h
        | some E2 => rw [q, q'] at h; cases h; exact orE (A.e o q) (A.or o q')
theorem s_cand (A : AllE F T G call n) {X : Cx} {es : List Expr} {E : Nz.C} {pos : Pos} (o : Ok X F T G call) (h : trCAnd T (n + 1) X.env.scope es = some E) : PW X (.BoolOp .And es pos) (tCo X.K F (evC G call E)) := by
  cases es with
  | nil => simp only [trCAnd, reduceCtorEq] at h
  | cons a r =>
    cases r with
    | nil => simp only [trCAnd] at h; exact pw_and1 (A.c o h)
    | cons b r =>
      simp only [trCAnd] at h
      cases q : trC T n X.env.scope a with
      | none => rw [q] at h; cases h
      | some E1 =>
        cases q' : trCAnd T n X.env.scope (b :: r) with
        | none => rw [q, q'] at h; cases h
        | some E2 => rw [q, q'] at h; cases h; exact andT (A.c o q) (A.cand o q')
theorem s_cor (A : AllE F T G call n) {X : Cx} {es : List Expr} {E : Nz.C} {pos : Pos} (o : Ok X F T G call) (h : trCOr T (n + 1) X.env.scope es = some E) : PW X (.BoolOp .Or es pos) (tCo X.K F (evC G call E)) := by
  cases es with
  | nil => simp only [trCOr, reduceCtorEq] at h
  | cons a r =>
    cases r with
    | nil => simp only [trCOr] at h; exact pw_or1 (A.c o h)
    | cons b r =>
      simp only [trCOr] at h
      cases q : trC T n X.env.scope a with
      | none => rw [q] at h; cases h
      | some E1 =>
        cases q' : trCOr T n X.env.scope (b :: r) with
        | none => rw [q, q'] at h; cases h
        | some E2 => rw [q, q'] at h; cases h; exact orT (A.c o q) (A.cor o q')
theorem itmOf_ok {e a : Expr} (h : itmOf e = some a) : ∃ ap p, e = .Call (.Attribute a "items" ap) [] [] p ∧ (ap.endLine == p.line) = true ∧ isCall a = false := by
  unfold itmOf at h
  split at h
  · split at h
    · rename_i hm
      subst hm
      split at h
      · rename_i hh
        cases h
        rw [Bool.and_eq_true, Bool.not_eq_true'] at hh
        exact ⟨_, _, rfl, hh.1, hh.2⟩
      · cases h
    · cases h
  · cases h
theorem trI_no {K : Tab} {m : Nat} {sc : Scope} {tt : Bool} {e : Expr} {i : Nz.Iw} (h : trI K m sc tt e = some i) (hn : itmOf e = none) : ∀ E, wrapC i E = E := by
  intro E
  cases m with
  | zero => simp only [trI, reduceCtorEq] at h
  | succ m =>
    simp only [trI, hn] at h
    repeat' split at h
    all_goals first
      | (cases h; done)
      | (simp only [Option.some.injEq] at h; subst h; rfl)
theorem wrapE {X : Cx} {e : Expr} {E : Nz.E} {i : Nz.Iw} (h : PE X e (tE X.K F (ev G call E))) : PE X e (tE X.K F (ev G call (wrapC i E))) := by
  cases i <;> first
    | exact h
    | exact impE (lckE (f := ev G call _) h) fun σ H Q ⟨μ, ρ, st, S, w⟩ => ⟨μ, ρ, st, S, by rw [wrapC, ev] at w; exact w⟩
theorem s_i (A : AllE F T G call n) {X : Cx} {tg e : Expr} {tt : Bool} {E : Nz.Iw} (o : Ok X F T G call) (ht : tt = true → isTup tg = true) (h : trI T (n + 1) X.env.scope tt e = some E) : PI X tg e (tIt X.K F (evi G call E)) ∧ isSet e = false := by
  simp only [trI] at h
  split at h
  · rename_i a hr
    obtain ⟨p, pos, rfl, hg, hm⟩ := isRng_ok o hr
    split at h
    · cases h
    rename_i hs
    have hs : isStar a = false := by simpa using hs
    cases q : trE T n X.env.scope a with
    | none => rw [q] at h; cases h
    | some E1 => rw [q] at h; cases h; exact ⟨pi_rng1N hg hm (A.e o q) (star_one hs), rfl⟩
  · rename_i a b hr
    obtain ⟨p, pos, rfl, hg, hm⟩ := isRng_ok o hr
    split at h
    · cases h
    rename_i hs
    have hs : isStar a = false ∧ isStar b = false := by simpa using hs
    cases q : trE T n X.env.scope a with
    | none => rw [q] at h; cases h
    | some E1 =>
      cases q' : trE T n X.env.scope b with
      | none => rw [q, q'] at h; cases h
      | some E2 => rw [q, q'] at h; cases h; exact ⟨pi_rng2N hg hm (A.e o q) (A.e o q') (star_two hs.1 hs.2) (star_one hs.2), rfl⟩
  · rename_i a b c hr
    obtain ⟨p, pos, rfl, hg, hm⟩ := isRng_ok o hr
    split at h
    · cases h
    rename_i hs
    have hs : (isStar a = false ∧ isStar b = false) ∧ isStar c = false := by simpa using hs
    cases q : trE T n X.env.scope a with
    | none => rw [q] at h; cases h
    | some E1 =>
      cases q' : trE T n X.env.scope b with
      | none => rw [q, q'] at h; cases h
      | some E2 =>
        cases q2 : trE T n X.env.scope c with
        | none => rw [q, q', q2] at h; cases h
        | some E3 => rw [q, q', q2] at h; cases h; exact ⟨pi_rng3N hg hm (A.e o q) (A.e o q') (A.e o q2) (star_cons hs.1.1) (star_two hs.1.2 hs.2) (star_one hs.2), rfl⟩
  · cases h
  · split at h
    · rename_i a hr
      obtain ⟨p, pos, rfl, hg, hm⟩ := isCallOf_ok o hr
      split at h
      · cases h
      rename_i hs
      have hs : isStar a = false ∧ tt = true := by simpa using hs
      have h3 := ht hs.2
      cases q : trE T n X.env.scope a with
      | none => rw [q] at h; cases h
      | some E1 =>
        rw [q] at h; cases h
        cases tg <;> simp only [isTup, Bool.false_eq_true] at h3
        exact ⟨pi_enumN hg hm (A.e o q) (star_one hs.1), rfl⟩
    · cases h
    · split at h
      · rename_i b hr
        obtain ⟨p, pos, rfl, hg, hm⟩ := isCallOf_ok o hr
        split at h
        · rename_i a hr2
          obtain ⟨p2, pos2, rfl, hg2, hm2⟩ := isRng_ok o hr2
          split at h
          · cases h
          rename_i hs
          have hs : isStar a = false := by simpa using hs
          cases q : trE T n X.env.scope a with
          | none => rw [q] at h; cases h
          | some E1 => rw [q] at h; cases h; exact ⟨pi_rrng1N hg hm hg2 hm2 (A.e o q) (star_one hs), rfl⟩
        · cases h
      · cases h
      · split at h
        · rename_i a b hr
          obtain ⟨p, pos, rfl, hg, hm⟩ := isCallOf_ok o hr
          split at h
          · cases h
          rename_i hs
          have hs : (isStar a = false ∧ isStar b = false) ∧ tt = true := by simpa using hs
          have h3 := ht hs.2
          cases q : trE T n X.env.scope a with
          | none => rw [q] at h; cases h
          | some E1 =>
            cases q' : trE T n X.env.scope b with
            | none => rw [q, q'] at h; cases h
            | some E2 =>
              rw [q, q'] at h; cases h
              cases tg <;> simp only [isTup, Bool.false_eq_true] at h3
              exact ⟨pi_zipN hg hm (A.e o q) (A.e o q') (star_two hs.1.1 hs.1.2) (star_one hs.1.2), rfl⟩
        · cases h
        · split at h
          · rename_i a hr
            obtain ⟨ap, p, rfl, h1, h2⟩ := itmOf_ok hr
            split at h
            · cases h
            rename_i hs
            have hs : tt = true := by simpa using hs
            have h3 := ht hs
            cases q : trE T n X.env.scope a with
            | none => rw [q] at h; cases h
            | some E1 =>
              rw [q] at h; cases h
              cases tg <;> simp only [isTup, Bool.false_eq_true] at h3
              refine ⟨impI (pi_itmN (A.e o q) (base_ok h2) h1) fun σ H R w => ?_, rfl⟩
              obtain ⟨μ, ρ, st, S, w⟩ := w
              exact ⟨μ, ρ, st, S, by rw [evi] at w; exact w⟩
          · split at h
            · cases h
            rename_i hs
            have hs : isSet e = false := by simpa using hs
            cases q : trE T n X.env.scope e with
            | none => rw [q] at h; cases h
            | some E1 => rw [q] at h; cases h; exact ⟨pi_seqN (A.e o q), hs⟩
theorem s_ix (A : AllE F T G call n) {X : Cx} {e : Expr} {E : Nz.E} (o : Ok X F T G call) (h : trIx T (n + 1) X.env.scope e = some E) : PE X e (tE X.K F (ev G call E)) ∧ PlainIx e := by
  cases e <;> simp only [trIx, reduceCtorEq] at h <;> exact ⟨A.e o h, plainIx (by intro _ _ _ _ z; cases z)⟩
theorem s_c (A : AllE F T G call n) {X : Cx} {e : Expr} {E : Nz.C} (o : Ok X F T G call) (h : trC T (n + 1) X.env.scope e = some E) (hcmp : ∀ {a ops bs pos E'}, trE T n X.env.scope (.Compare a ops bs pos) = some E' → PT X (.Compare a ops bs pos) (tCo X.K F fun ρ st => (ev G call E' ρ st).bind fun d s => R.asB d s)) : PT X e (tCo X.K F (evC G call E)) := by
  have gen : ∀ {e : Expr} {E : Nz.C}, (∀ whole, isTrue e X.env whole = (do let v ← whole; standAt e.pos; holding [v] (truthy v))) → (match trE T n X.env.scope e with
      | some e => some (C.val e)
      | none => none) = some E → PT X e (tCo X.K F (evC G call E)) := fun {e E} he h => by
    cases q : trE T n X.env.scope e with
    | none => rw [q] at h; cases h
    | some E1 => rw [q] at h; cases h; exact valT (A.e o q) he
  cases e <;> simp only [trC, reduceCtorEq] at h <;> first
    | exact gen (fun _ => rfl) h
    | skip
  · rename_i op es pos
    cases op <;> simp only at h
    · exact (A.cand o h).pt
    · exact (A.cor o h).pt
  · rename_i op a pos
    cases op <;> simp only at h
    · exact gen (fun _ => rfl) h
    · cases q : trC T n X.env.scope a with
      | none => rw [q] at h; cases h
      | some E1 => rw [q] at h; cases h; exact notT (A.c o q)
    · exact gen (fun _ => rfl) h
    · exact gen (fun _ => rfl) h
  · rename_i a ops bs pos
    cases q : trE T n X.env.scope (.Compare a ops bs pos) with
    | none => rw [q] at h; cases h
    | some E1 => rw [q] at h; cases h; exact hcmp q
theorem s_bi (A : AllE F T G call n) {X : Cx} {x : Str} {as : List Expr} {E : Nz.E} {p pos : Pos} (o : Ok X F T G call) (hf : isFree T X.env.scope x = true) (h : trBi T (n + 1) X.env.scope x as = some E) : PE X (.Call (.Name x p) as [] pos) (tE X.K F (ev G call E)) := by
  obtain ⟨hg, hd, hm⟩ := isFree_ok o hf
  simp only [trBi] at h
  split at h
  · rename_i a
    split at h
    · cases h
    rename_i hs
    have hs : isStar a = false := by simpa using hs
    have one : ∀ {E : Nz.E}, trE T n X.env.scope a = some E → PA X [a] (tAs X.K F (evs G call (.cons E .nil))) := fun q => consA (A.e o q) nilA (star_one hs)
    have hpl : (backTo pos (starEach ([] : List Expr) X.env)).any (·.1) = false := rfl
    split at h
    · rename_i hx
      subst hx
      split at h
      · rename_i b hr
        obtain ⟨p2, pos2, rfl, hg2, hm2⟩ := isRng_ok o hr
        split at h
        · cases h
        rename_i hs2
        have hs2 : isStar b = false := by simpa using hs2
        cases q : trE T n X.env.scope b with
        | none => rw [q] at h; cases h
        | some E1 => rw [q] at h; cases h; exact lrng1E o (A.e o q) hg hm hg2 hm2 hs2
      · rename_i b c hr
        obtain ⟨p2, pos2, rfl, hg2, hm2⟩ := isRng_ok o hr
        split at h
        · cases h
        rename_i hs2
        have hs2 : isStar b = false ∧ isStar c = false := by simpa using hs2
        cases q : trE T n X.env.scope b with
        | none => rw [q] at h; cases h
        | some E1 =>
          cases q' : trE T n X.env.scope c with
          | none => rw [q, q'] at h; cases h
          | some E2 => rw [q, q'] at h; cases h; exact lrng2E o (A.e o q) (A.e o q') hg hm hg2 hm2 hs2.1 hs2.2
      · cases h
      · cases q : trE T n X.env.scope a with
        | none => rw [q] at h; cases h
        | some E1 => rw [q] at h; cases h; exact tyE (mkl_ok (F := F) o.calm) hg hd hm boot_list (one q) (by decide) (star_one hs) hpl
    · cases qb : bi1.lookup x with
      | none => rw [qb] at h; cases h
      | some b =>
        rw [qb] at h
        cases q : trE T n X.env.scope a with
        | none => rw [q] at h; cases h
        | some E1 =>
          rw [q] at h
          cases h
          have hmem : (x, b) ∈ bi1 := PySem.mem_of_lookup qb
          have A1 := one q
          simp only [bi1, List.mem_cons, Prod.mk.injEq, List.not_mem_nil, or_false] at hmem
          rcases hmem with ⟨rfl, rfl⟩ | ⟨rfl, rfl⟩ | ⟨rfl, rfl⟩ | ⟨rfl, rfl⟩ | ⟨rfl, rfl⟩ | ⟨rfl, rfl⟩ | ⟨rfl, rfl⟩ | ⟨rfl, rfl⟩ | ⟨rfl, rfl⟩ | ⟨rfl, rfl⟩ | ⟨rfl, rfl⟩
          · exact biE (len_ok (F := F)) hg hd hm boot_len A1 (by decide) (star_one hs) hpl
          · exact biE (abs_ok (F := F)) hg hd hm (by decide +kernel) A1 (by decide) (star_one hs) hpl
          · exact tyE (int_ok (F := F)) hg hd hm boot_int A1 (by decide) (star_one hs) hpl
          · exact tyE (mkt_ok (F := F)) hg hd hm boot_tuple A1 (by decide) (star_one hs) hpl
          · exact biE (sum_ok (F := F) o.calm) hg hd hm boot_sum A1 (by decide) (star_one hs) hpl
          · exact biE (all_ok (F := F) o.calm) hg hd hm boot_all A1 (by decide) (star_one hs) hpl
          · exact biE (any_ok (F := F) o.calm) hg hd hm boot_any A1 (by decide) (star_one hs) hpl
          · exact biE (max1_ok (F := F) o.calm) hg hd hm boot_max A1 (by decide) (star_one hs) hpl
          · exact biE (min1_ok (F := F) o.hu o.calm) hg hd hm boot_min A1 (by decide) (star_one hs) hpl
          · exact biE (sorted_ok (F := F)) hg hd hm (by decide +kernel) A1 (by decide) (star_one hs) hpl
          · exact tyE (mkd_ok (F := F)) hg hd hm (by decide +kernel) A1 (by decide) (star_one hs) hpl
  · rename_i a b
    split at h
    · cases h
    rename_i hs
    have hs : isStar a = false ∧ isStar b = false := by simpa using hs
    have hpl : (backTo pos (starEach [b] X.env)).any (·.1) = false := by rw [star_one hs.2]; rfl
    split at h
    · rename_i hx
      subst hx
      cases q : trE T n X.env.scope a with
      | none => rw [q] at h; cases h
      | some E1 =>
        cases q' : trIsi T X.env.scope b with
        | none => rw [q, q'] at h; cases h
        | some ks => rw [q, q'] at h; cases h; exact isiE o (A.e o q) q' hg hm hs.1 hs.2
    · split at h
      · rename_i hx
        subst hx
        cases q : trEs T n X.env.scope [a, b] with
        | none => rw [q] at h; cases h
        | some E1 => rw [q] at h; cases h; exact biE (min2_ok (F := F) o.calm) hg hd hm boot_min (A.es o q).1 (by decide) (star_cons hs.1) hpl
      · split at h
        · rename_i hx
          subst hx
          cases q : trEs T n X.env.scope [a, b] with
          | none => rw [q] at h; cases h
          | some E1 => rw [q] at h; cases h; exact biE (max2_ok (F := F) o.calm) hg hd hm boot_max (A.es o q).1 (by decide) (star_cons hs.1) hpl
        · cases h
  · cases h
end
end Nz
namespace Nz
open PySem L2 PyProof.Rows
section
variable {F : Nm} {T : Tab} {G : Ctx} {call : Nat → List D → Store → R D} {n : Nat}
theorem s_cmp (A : AllE F T G call n) {X : Cx} {a : Expr} {ops : List CmpOp} {bs : List Expr} {pos : Pos} {E : Nz.E} (o : Ok X F T G call) (h : trE T (n + 1) X.env.scope (.Compare a ops bs pos) = some E) :
    PE X (.Compare a ops bs pos) (tE X.K F (ev G call E)) ∧ PT X (.Compare a ops bs pos) (tCo X.K F fun ρ st => (ev G call E ρ st).bind fun d s => R.asB d s) := by
  simp only [trE] at h
  split at h
  · rename_i op b
    split at h
    · cases h
    rename_i hs
    have hs : isSet b = false := by simpa using hs
    cases q : trE T n X.env.scope a with
    | none => rw [q] at h; cases h
    | some E1 =>
      cases q' : trE T n X.env.scope b with
      | none => rw [q, q'] at h; cases h
      | some E2 =>
        rw [q, q'] at h; cases h
        exact ⟨cmpE o.hu (A.e o q) (A.e o q') (setBehind hs), cmpT o.hu (A.e o q) (A.e o q') (setBehind hs)⟩
  · rename_i op op' b c
    split at h
    · cases h
    rename_i hs
    have hs : isSet c = false := by simpa using hs
    cases q : trE T n X.env.scope a with
    | none => rw [q] at h; cases h
    | some E1 =>
      cases q' : trE T n X.env.scope b with
      | none => rw [q, q'] at h; cases h
      | some E2 =>
        cases q'' : trE T n X.env.scope c with
        | none => rw [q, q', q''] at h; cases h
        | some E3 =>
          rw [q, q', q''] at h; cases h
          exact ⟨chnE o.hu (A.e o q) (A.e o q') (A.e o q'') (setBehind hs), chnT o.hu (A.e o q) (A.e o q') (A.e o q'') (setBehind hs)⟩
  · cases h
theorem s_call (A : AllE F T G call n) {X : Cx} {f : Expr} {as : List Expr} {kws : List Keyword} {pos : Pos} {E : Nz.E} (o : Ok X F T G call) (h : trE T (n + 1) X.env.scope (.Call f as kws pos) = some E) : PE X (.Call f as kws pos) (tE X.K F (ev G call E)) := by
  simp only [trE] at h
  split at h
  · rename_i x p
    cases qk : T.kfs.lookup x with
    | some r =>
      obtain ⟨i, kn, dd⟩ := r
      simp only [qk] at h
      split at h
      · rename_i hg
        simp only [Bool.and_eq_true, Bool.not_eq_true'] at hg
        obtain ⟨hgl, hd⟩ := isGl_ok hg.1
        cases as with
        | nil => simp at hg
        | cons a as =>
          cases q : trEs T n X.env.scope (a :: as) with
          | none => rw [q] at h; cases h
          | some E1 =>
            simp only [q] at h
            obtain ⟨h1, h2, h3⟩ := A.es o q
            split at h
            · cases dd with
              | none => cases h
              | some d =>
                cases h
                refine impE (kwE0 o qk hgl hd h1 (star_cons (h2 a (List.mem_cons_self ..))) (noStar.any fun e he => h2 e (List.mem_cons_of_mem _ he))) fun σ H Q w => ?_
                obtain ⟨μ, ρ, st, S, w⟩ := w
                refine ⟨μ, ρ, st, S, ?_⟩
                rw [ev, evs_snoc] at w
                simpa only [ev, R.bind_ok] using w
            · rename_i nm b kp
              split at h
              · rename_i hn
                subst hn
                cases q2 : trE T n X.env.scope b with
                | none => rw [q2] at h; cases h
                | some E2 =>
                  rw [q2] at h; cases h
                  refine impE (kwE o qk hgl hd h1 (A.e o q2) (star_cons (h2 a (List.mem_cons_self ..))) (noStar.any h2)) fun σ H Q w => ?_
                  obtain ⟨μ, ρ, st, S, w⟩ := w
                  refine ⟨μ, ρ, st, S, ?_⟩
                  rw [ev, evs_snoc] at w
                  exact w
              · cases h
            · cases h
      · cases h
    | none =>
    simp only [qk] at h
    split at h
    · split at h
      · rename_i hg
        obtain ⟨hgl, hd⟩ := isGl_ok hg
        cases qf : T.fns.lookup x with
        | some i =>
          simp only [qf] at h
          cases q : trEs T n X.env.scope as with
          | none => rw [q] at h; cases h
          | some E1 =>
            rw [q] at h; cases h
            obtain ⟨h1, h2, h3⟩ := A.es o q
            cases as with
            | nil =>
              cases h3 rfl
              exact callE0 o qf hgl hd
            | cons a r => exact callE o qf hgl hd h1 (star_cons (h2 a (List.mem_cons_self ..))) (noStar.any fun e he => h2 e (List.mem_cons_of_mem _ he))
        | none =>
          simp only [qf] at h
          cases qc : T.cls.lookup x with
          | some c =>
            simp only [qc] at h
            cases q : trEs T n X.env.scope as with
            | none => rw [q] at h; cases h
            | some E1 =>
              rw [q] at h; cases h
              obtain ⟨h1, h2, h3⟩ := A.es o q
              cases qi : G.init[c]? with
              | none =>
                refine impE (t := fun _ _ _ => False) ⟨fun _ _ _ _ _ _ w => w.elim⟩ fun σ H Q w => ?_
                obtain ⟨μ, ρ, st, S, w⟩ := w
                have w : WP X.K F μ H ((evs G call E1 ρ st).bind fun ds s => mkR G call c ds s) (VQ X.K Q) := w
                cases qe : evs G call E1 ρ st with
                | no => rw [qe] at w; exact w
                | ok ds s => rw [qe] at w; unfold mkR at w; simp only [qi, R.bind_ok] at w; exact w
              | some oi =>
                cases oi with
                | none =>
                  refine impE (t := fun _ _ _ => False) ⟨fun _ _ _ _ _ _ w => w.elim⟩ fun σ H Q w => ?_
                  obtain ⟨μ, ρ, st, S, w⟩ := w
                  have w : WP X.K F μ H ((evs G call E1 ρ st).bind fun ds s => mkR G call c ds s) (VQ X.K Q) := w
                  cases qe : evs G call E1 ρ st with
                  | no => rw [qe] at w; exact w
                  | ok ds s => rw [qe] at w; unfold mkR at w; simp only [qi, R.bind_ok] at w; exact w
                | some i =>
                  cases as with
                  | nil =>
                    cases h3 rfl
                    exact mkE0 o qc qi hgl hd
                  | cons a r => exact mkE o qc qi hgl hd h1 (star_cons (h2 a (List.mem_cons_self ..))) (noStar.any fun e he => h2 e (List.mem_cons_of_mem _ he))
          | none =>
            simp only [qc] at h
            split at h
            · rename_i hf; exact A.bi o hf h
            · cases h
      · cases h
    · cases h
  · rename_i a m ap
    split at h
    · split at h
      · cases h
      rename_i hs
      have hs : isCall a = false ∧ (ap.endLine == pos.line) = true ∧ as.length < 20 := by
        simpa [Bool.or_eq_true, not_or, and_assoc] using hs
      obtain ⟨s1, s2, s3⟩ := hs
      cases q : trE T n X.env.scope a with
      | none => rw [q] at h; cases h
      | some E1 =>
        simp only [q] at h
        cases qm : ixOf m T.mth with
        | some i =>
          simp only [qm] at h
          have hm := ixOf_ok qm
          cases q' : trEs T n X.env.scope as with
          | none => rw [q'] at h; cases h
          | some E2 =>
            rw [q'] at h; cases h
            obtain ⟨h1, h2, h3⟩ := A.es o q'
            cases as with
            | nil =>
              cases h3 rfl
              exact methE0 o hm (A.e o q) s1 s2
            | cons b r => exact methE o hm (A.e o q) s1 s2 h1 h2 s3
        | none =>
          simp only [qm] at h
          split at h
          · rename_i hx
            subst hx
            split at h
            · rename_i b
              split at h
              · cases h
              rename_i hs
              have hs : isStar b = false := by simpa using hs
              cases q' : trE T n X.env.scope b with
              | none => rw [q'] at h; cases h
              | some E2 => rw [q'] at h; cases h; exact appE (A.e o q) (A.e o q') (base_ok s1) s2 (star_one hs)
            · cases h
          · split at h
            · rename_i hx
              subst hx
              split at h
              · rename_i b c
                split at h
                · cases h
                rename_i hs
                have hs : isStar b = false ∧ isStar c = false := by simpa using hs
                cases q' : trE T n X.env.scope b with
                | none => rw [q'] at h; cases h
                | some E2 =>
                  cases q2 : trE T n X.env.scope c with
                  | none => rw [q', q2] at h; cases h
                  | some E3 => rw [q', q2] at h; cases h; exact dgetE o.hu (A.e o q) (A.e o q') (A.e o q2) s1 hs.1 hs.2 s2
              · cases h
            split at h
            · rename_i hx
              subst hx
              split at h
              · rename_i b
                split at h
                · cases h
                rename_i hs
                have hs : isStar b = false := by simpa using hs
                cases q' : trE T n X.env.scope b with
                | none => rw [q'] at h; cases h
                | some E2 =>
                  rw [q'] at h; cases h
                  refine impE (cntE (A.e o q) (A.e o q') (base_ok s1) s2 (star_one hs)) fun σ H Q ⟨μ, ρ, st, S, w⟩ => ⟨μ, ρ, st, S, by rw [ev] at w; exact w⟩
              · cases h
            split at h
            · rename_i hx
              subst hx
              split at h
              · rename_i b
                split at h
                · cases h
                rename_i hs
                have hs : isStar b = false := by simpa using hs
                cases q' : trE T n X.env.scope b with
                | none => rw [q'] at h; cases h
                | some E2 =>
                  rw [q'] at h; cases h
                  refine impE (popiE (A.e o q) (A.e o q') (base_ok s1) s2 (star_one hs)) fun σ H Q ⟨μ, ρ, st, S, w⟩ => ⟨μ, ρ, st, S, by rw [ev] at w; exact w⟩
              · cases h
            split at h
            · rename_i k hk
              cases q' : trEs T n X.env.scope as with
              | none => rw [q'] at h; cases h
              | some E2 =>
                rw [q'] at h
                obtain ⟨h1, h2, h3⟩ := A.es o q'
                cases as with
                | nil => cases h
                | cons b r =>
                  cases h
                  refine impE (lmE hk (A.e o q) h1 (base_ok s1) s2 (star_cons (h2 b (List.mem_cons_self ..))) h2 s3) fun σ H Q ⟨μ, ρ, st, S, w⟩ => ⟨μ, ρ, st, S, by rw [ev] at w; exact w⟩
            split at h
            · rename_i hb
              rw [Bool.and_eq_true, decide_eq_true_eq, List.isEmpty_iff] at hb
              obtain ⟨hb, rfl⟩ := hb
              subst hb
              cases h
              exact bitsE (A.e o q) (base_ok s1) s2
            · cases h
    · cases h
  · cases h
theorem s_comp (A : AllE F T G call n) {X : Cx} {elt : Expr} {gs : List Comprehension} {scope : Scope} {pos : Pos} {E : Nz.E} (o : Ok X F T G call) (hg1 : gs.length ≤ 1) (h : trE T (n + 1) X.env.scope (.ListComp elt gs scope pos) = some E) :
    ∃ tg it ifs, gs = [⟨tg, it, ifs, 0⟩] ∧ isSet it = false ∧ ∃ (own : List (Str × Nat)) (t : Nz.T) (i : Nz.Iw) (e : Nz.E) (c : Nz.Oc), E = wrapC i (.comp (own.map (·.2)) e t i c) ∧ (itmOf it = none → ∀ E', wrapC i E' = E') ∧ (∀ j ∈ t.slots, j ∈ own.map (·.2)) ∧ BlkOk X.N X.env.scope scope own ∧ PI X tg it (tIt X.K F (evi G call i)) ∧
      (∀ (s : Shared) (H : Hp) (C : Addr) (cl : List (Str × Addr)) (fp : List Addr), PG (X.blk s H scope (compEnvC scope cl C X.env) fp) tg (gT X.K F t)) ∧
      (∀ (s : Shared) (H : Hp) (C : Addr) (cl : List (Str × Addr)) (fp : List Addr), PTs (X.blk s H scope (compEnvC scope cl C X.env) fp) ifs (tCo X.K F (evOc G call c))) ∧
      (∀ (s : Shared) (H : Hp) (C : Addr) (cl : List (Str × Addr)) (fp : List Addr), PE (X.blk s H scope (compEnvC scope cl C X.env) fp) elt (tE X.K F (ev G call e))) := by
  cases gs with
  | nil => simp only [trE, reduceCtorEq] at h
  | cons g gs =>
  obtain ⟨tg, it, ifs, as⟩ := g
  cases gs with
  | cons _ _ => simp at hg1
  | nil =>
    simp only [trE] at h
    split at h
    · cases h
    rename_i hs
    have hs0 : as = 0 ∧ isSet it = false := by simpa using hs
    obtain ⟨has, hs1⟩ := hs0
    subst has
    cases qo : trOwn T scope.names with
    | none => rw [qo] at h; cases h
    | some own =>
      simp only [qo] at h
      split at h
      · rename_i hb
        have hB : BlkOk X.N X.env.scope scope own := by rw [o.hN]; exact blk_ok hb
        cases q1 : trI T n X.env.scope (isTup tg) it with
        | none => simp only [q1] at h; cases h
        | some i =>
          cases q2 : trT T scope n tg with
          | none => simp only [q1, q2] at h; cases h
          | some t =>
            cases q3 : trE T n (relS scope X.env.scope) elt with
            | none => simp only [q1, q2, q3] at h; cases h
            | some e =>
              simp only [q1, q2, q3] at h
              split at h
              · rename_i hsl
                have hsl : ∀ j ∈ t.slots, j ∈ own.map (·.2) := fun j hj => by
                  have := List.all_eq_true.mp hsl j hj
                  simpa using this
                have pg : ∀ (s : Shared) (H : Hp) (C : Addr) (cl : List (Str × Addr)) (fp : List Addr), PG (X.blk s H scope (compEnvC scope cl C X.env) fp) tg (gT X.K F t) := fun s H C cl fp =>
                  trT_ok (X := X.blk s H scope (compEnvC scope cl C X.env) fp) o.hN o.nd o.calm fnLoc_blk n q2
                have pe : ∀ (s : Shared) (H : Hp) (C : Addr) (cl : List (Str × Addr)) (fp : List Addr), PE (X.blk s H scope (compEnvC scope cl C X.env) fp) elt (tE X.K F (ev G call e)) := fun s H C cl fp =>
                  A.e (X := X.blk s H scope (compEnvC scope cl C X.env) fp) (o.blk _ _ _ _ _) q3
                cases ifs with
                | nil =>
                  simp only [Option.some.injEq] at h
                  exact ⟨tg, it, [], rfl, hs1, own, t, i, e, .none, h.symm, trI_no q1, hsl, hB, (A.i o id q1).1, pg, fun s H C cl fp => ⟨fun pins s2 σ H2 Q I w => (pts_nil (X := X.blk s H scope (compEnvC scope cl C X.env) fp)).run pins s2 σ H2 Q I (by
                    obtain ⟨μ, ρ, st, S, w⟩ := w
                    exact WP.ok (Φ := fun b _ _ H' => Q b H') S.sto w)⟩, pe⟩
                | cons c ifs =>
                  cases ifs with
                  | nil =>
                    cases q4 : trC T n (relS scope X.env.scope) c with
                    | none => simp only [q4] at h; cases h
                    | some C =>
                      simp only [q4, Option.some.injEq] at h
                      exact ⟨tg, it, [c], rfl, hs1, own, t, i, e, .some C, h.symm, trI_no q1, hsl, hB, (A.i o id q1).1, pg, fun s H Ca cl fp => pts_one (A.c (X := X.blk s H scope (compEnvC scope cl Ca X.env) fp) (o.blk _ _ _ _ _) q4), pe⟩
                  | cons _ _ => simp only [reduceCtorEq] at h
              · cases h
      · cases h
theorem s_dcmp (A : AllE F T G call n) {X : Cx} {kx vx : Expr} {gs : List Comprehension} {scope : Scope} {pos : Pos} {E : Nz.E} (o : Ok X F T G call) (h : trE T (n + 1) X.env.scope (.DictComp kx vx gs scope pos) = some E) : PE X (.DictComp kx vx gs scope pos) (tE X.K F (ev G call E)) := by
  cases gs with
  | nil => simp only [trE, reduceCtorEq] at h
  | cons g gs =>
  obtain ⟨tg, it, ifs, as⟩ := g
  cases gs with
  | cons _ _ => simp only [trE, reduceCtorEq] at h
  | nil =>
    simp only [trE] at h
    split at h
    · cases h
    rename_i hs
    have hs0 : as = 0 ∧ isSet it = false := by simpa using hs
    obtain ⟨has, hs1⟩ := hs0
    subst has
    cases qo : trOwn T scope.names with
    | none => rw [qo] at h; cases h
    | some own =>
      simp only [qo] at h
      split at h
      · rename_i hb
        have hB : BlkOk X.N X.env.scope scope own := by rw [o.hN]; exact blk_ok hb
        cases q1 : trI T n X.env.scope (isTup tg) it with
        | none => simp only [q1] at h; cases h
        | some i =>
          cases q2 : trT T scope n tg with
          | none => simp only [q1, q2] at h; cases h
          | some t =>
            cases q3 : trE T n (relS scope X.env.scope) kx with
            | none => simp only [q1, q2, q3] at h; cases h
            | some k =>
              cases q5 : trE T n (relS scope X.env.scope) vx with
              | none => simp only [q1, q2, q3, q5] at h; cases h
              | some v =>
                simp only [q1, q2, q3, q5] at h
                split at h
                · rename_i hsl
                  have hsl : ∀ j ∈ t.slots, j ∈ own.map (·.2) := fun j hj => by
                    have := List.all_eq_true.mp hsl j hj
                    simpa using this
                  have pg : ∀ (s : Shared) (H : Hp) (C : Addr) (cl : List (Str × Addr)) (fp : List Addr), PG (X.blk s H scope (compEnvC scope cl C X.env) fp) tg (gT X.K F t) := fun s H C cl fp =>
                    trT_ok (X := X.blk s H scope (compEnvC scope cl C X.env) fp) o.hN o.nd o.calm fnLoc_blk n q2
                  have pk : ∀ (s : Shared) (H : Hp) (C : Addr) (cl : List (Str × Addr)) (fp : List Addr), PE (X.blk s H scope (compEnvC scope cl C X.env) fp) kx (tE X.K F (ev G call k)) := fun s H C cl fp =>
                    A.e (X := X.blk s H scope (compEnvC scope cl C X.env) fp) (o.blk _ _ _ _ _) q3
                  have pv : ∀ (s : Shared) (H : Hp) (C : Addr) (cl : List (Str × Addr)) (fp : List Addr), PE (X.blk s H scope (compEnvC scope cl C X.env) fp) vx (tE X.K F (ev G call v)) := fun s H C cl fp =>
                    A.e (X := X.blk s H scope (compEnvC scope cl C X.env) fp) (o.blk _ _ _ _ _) q5
                  cases ifs with
                  | nil =>
                    simp only [Option.some.injEq] at h
                    subst h
                    refine wrapE <| impE (peDk (T.dts.contains (pos.line, pos.col)) (tt := tCo X.K F (evOc G call .none)) o.hu o.calm o.nd (A.i o id q1).1 hB pg (fun s H C cl fp => ⟨fun pins s2 σ H2 Q I w => (pts_nil (X := X.blk s H scope (compEnvC scope cl C X.env) fp)).run pins s2 σ H2 Q I (by
                      obtain ⟨μ, ρ, st, S, w⟩ := w
                      exact WP.ok (Φ := fun b _ _ H' => Q b H') S.sto w)⟩) pk pv (setFold hs1 X.env)) fun σ H Q w => ?_
                    refine dcmpE _ (own := own) (fi := evi G call i) (fc := evOc G call .none) (fk := ev G call k) (fv := ev G call v) hsl ?_
                    obtain ⟨μ, ρ, st, S, w⟩ := w
                    refine ⟨μ, ρ, st, S, ?_⟩
                    rw [ev] at w
                    exact w
                  | cons c ifs =>
                    cases ifs with
                    | nil =>
                      cases q4 : trC T n (relS scope X.env.scope) c with
                      | none => simp only [q4] at h; cases h
                      | some C =>
                        simp only [q4, Option.some.injEq] at h
                        subst h
                        refine wrapE <| impE (peDk (T.dts.contains (pos.line, pos.col)) (tt := tCo X.K F (evOc G call (.some C))) o.hu o.calm o.nd (A.i o id q1).1 hB pg (fun s H Ca cl fp => pts_one (A.c (X := X.blk s H scope (compEnvC scope cl Ca X.env) fp) (o.blk _ _ _ _ _) q4)) pk pv (setFold hs1 X.env)) fun σ H Q w => ?_
                        refine dcmpE _ (own := own) (fi := evi G call i) (fc := evOc G call (.some C)) (fk := ev G call k) (fv := ev G call v) hsl ?_
                        obtain ⟨μ, ρ, st, S, w⟩ := w
                        refine ⟨μ, ρ, st, S, ?_⟩
                        rw [ev] at w
                        exact w
                    | cons _ _ => simp only [reduceCtorEq] at h
                · cases h
      · cases h
theorem s_comp2 (A : AllE F T G call n) {X : Cx} {elt : Expr} {g1 g2 : Comprehension} {scope : Scope} {pos : Pos} {E : Nz.E} (o : Ok X F T G call) (h : trE T (n + 1) X.env.scope (.ListComp elt [g1, g2] scope pos) = some E) : PE X (.ListComp elt [g1, g2] scope pos) (tE X.K F (ev G call E)) := by
  obtain ⟨tg, it, ifs, as⟩ := g1
  obtain ⟨tg2, it2, ifs2, as2⟩ := g2
  simp only [trE] at h
  split at h
  · cases h
  rename_i hs
  have hs0 : as = 0 ∧ as2 = 0 ∧ isSet it = false ∧ isSet it2 = false ∧ ifs = [] := by
    simp only [Bool.or_eq_true, not_or, bne_iff_ne, ne_eq, Decidable.not_not, Bool.not_eq_true, Bool.not_eq_false', List.isEmpty_iff] at hs
    exact ⟨hs.1.1.1.1, hs.1.1.1.2, hs.1.1.2, hs.1.2, hs.2⟩
  obtain ⟨has, has2, hs1, hs2, hif⟩ := hs0
  subst has has2 hif
  cases qo : trOwn T scope.names with
  | none => rw [qo] at h; cases h
  | some own =>
    simp only [qo] at h
    split at h
    · rename_i hb
      have hB : BlkOk X.N X.env.scope scope own := by rw [o.hN]; exact blk_ok hb
      cases q1 : trI T n X.env.scope (isTup tg) it with
      | none => simp only [q1] at h; cases h
      | some i =>
        cases q2 : trT T scope n tg with
        | none => simp only [q1, q2] at h; cases h
        | some t =>
          cases q5 : trI T n (relS scope X.env.scope) (isTup tg2) it2 with
          | none => simp only [q1, q2, q5] at h; cases h
          | some i2 =>
            cases q6 : trT T scope n tg2 with
            | none => simp only [q1, q2, q5, q6] at h; cases h
            | some t2 =>
              cases q3 : trE T n (relS scope X.env.scope) elt with
              | none => simp only [q1, q2, q3, q5, q6] at h; cases h
              | some e =>
                simp only [q1, q2, q3, q5, q6] at h
                split at h
                · rename_i hsl
                  rw [Bool.and_eq_true] at hsl
                  have hsl1 : ∀ j ∈ t.slots, j ∈ own.map (·.2) := fun j hj => by
                    have := List.all_eq_true.mp hsl.1 j hj
                    simpa using this
                  have hsl2 : ∀ j ∈ t2.slots, j ∈ own.map (·.2) := fun j hj => by
                    have := List.all_eq_true.mp hsl.2 j hj
                    simpa using this
                  have pg : ∀ (s : Shared) (H : Hp) (C : Addr) (cl : List (Str × Addr)) (fp : List Addr), PG (X.blk s H scope (compEnvC scope cl C X.env) fp) tg (gT X.K F t) := fun s H C cl fp =>
                    trT_ok (X := X.blk s H scope (compEnvC scope cl C X.env) fp) o.hN o.nd o.calm fnLoc_blk n q2
                  have pg2 : ∀ (s : Shared) (H : Hp) (C : Addr) (cl : List (Str × Addr)) (fp : List Addr), PG (X.blk s H scope (compEnvC scope cl C X.env) fp) tg2 (gT X.K F t2) := fun s H C cl fp =>
                    trT_ok (X := X.blk s H scope (compEnvC scope cl C X.env) fp) o.hN o.nd o.calm fnLoc_blk n q6
                  have pe : ∀ (s : Shared) (H : Hp) (C : Addr) (cl : List (Str × Addr)) (fp : List Addr), PE (X.blk s H scope (compEnvC scope cl C X.env) fp) elt (tE X.K F (ev G call e)) := fun s H C cl fp =>
                    A.e (X := X.blk s H scope (compEnvC scope cl C X.env) fp) (o.blk _ _ _ _ _) q3
                  have pi2 : ∀ (s : Shared) (H : Hp) (C : Addr) (cl : List (Str × Addr)) (fp : List Addr), PI (X.blk s H scope (compEnvC scope cl C X.env) fp) tg2 it2 (tIt X.K F (evi G call i2)) := fun s H C cl fp =>
                    (A.i (X := X.blk s H scope (compEnvC scope cl C X.env) fp) (o.blk _ _ _ _ _) id q5).1
                  have nt : ∀ (s : Shared) (H : Hp) (C : Addr) (cl : List (Str × Addr)) (fp : List Addr), PTs (X.blk s H scope (compEnvC scope cl C X.env) fp) [] (tCo X.K F fun _ st => .ok true st) := fun s H C cl fp => ⟨fun pins s2 σ H2 Q I w => (pts_nil (X := X.blk s H scope (compEnvC scope cl C X.env) fp)).run pins s2 σ H2 Q I (by
                    obtain ⟨μ, ρ, st, S, w⟩ := w
                    exact WP.ok (Φ := fun b _ _ H' => Q b H') S.sto w)⟩
                  cases ifs2 with
                  | nil =>
                    simp only [Option.some.injEq] at h
                    subst h
                    refine impE (pe_lc2 (vs1 := t2.slots) o.calm o.nd (A.i o id q1).1 hB hsl2 pg nt pi2 pg2 nt pe (setFold hs1 X.env) (fun env => setFold hs2 env)) fun σ H Q w => ?_
                    refine compE2 (fc := evOc G call .none) (own := own) (fi := evi G call i) (fi1 := evi G call i2) (fe := ev G call e) hsl1 ?_
                    obtain ⟨μ, ρ, st, S, w⟩ := w
                    refine ⟨μ, ρ, st, S, ?_⟩
                    rw [ev] at w
                    exact w
                  | cons c ifs2 =>
                    cases ifs2 with
                    | nil =>
                      cases q4 : trC T n (relS scope X.env.scope) c with
                      | none => simp only [q4] at h; cases h
                      | some C =>
                        simp only [q4, Option.some.injEq] at h
                        subst h
                        have pt : ∀ (s : Shared) (H : Hp) (Ca : Addr) (cl : List (Str × Addr)) (fp : List Addr), PTs (X.blk s H scope (compEnvC scope cl Ca X.env) fp) [c] (tCo X.K F (evOc G call (.some C))) := fun s H Ca cl fp => pts_one (A.c (X := X.blk s H scope (compEnvC scope cl Ca X.env) fp) (o.blk _ _ _ _ _) q4)
                        refine impE (pe_lc2 (vs1 := t2.slots) o.calm o.nd (A.i o id q1).1 hB hsl2 pg nt pi2 pg2 pt pe (setFold hs1 X.env) (fun env => setFold hs2 env)) fun σ H Q w => ?_
                        refine compE2 (fc := evOc G call (.some C)) (own := own) (fi := evi G call i) (fi1 := evi G call i2) (fe := ev G call e) hsl1 ?_
                        obtain ⟨μ, ρ, st, S, w⟩ := w
                        refine ⟨μ, ρ, st, S, ?_⟩
                        rw [ev] at w
                        exact w
                    | cons _ _ => simp only [reduceCtorEq] at h
                · cases h
    · cases h
theorem s_e (A : AllE F T G call n) {X : Cx} {e : Expr} {E : Nz.E} (o : Ok X F T G call) (h : trE T (n + 1) X.env.scope e = some E) : PE X e (tE X.K F (ev G call E)) := by
  cases e with
  | Constant c k pos =>
    simp only [trE] at h
    have : ∃ d, E = .con d := by cases c <;> simp only [Option.some.injEq, reduceCtorEq] at h <;> exact ⟨_, h.symm⟩
    obtain ⟨d, rfl⟩ := this
    exact con_ok h
  | Name x pos =>
    simp only [trE] at h
    cases q : trVar T X.env.scope x with
    | some i => rw [q] at h; cases h; exact var_ok o q
    | none =>
      simp only [q] at h
      split at h
      · rename_i hg
        obtain ⟨hgl, hd⟩ := isGl_ok hg
        cases qc : T.cons.lookup x with
        | none => rw [qc] at h; cases h
        | some d =>
          rw [qc] at h; cases h
          obtain ⟨u, v, hm, hv, hr⟩ := o.cons x d qc
          refine impE (pe_glob hgl hm hv hd) fun σ H Q w => ?_
          obtain ⟨μ, ρ, st, S, w⟩ := w
          exact WP.ok (Φ := VQ X.K Q) S.sto w v (hr μ H)
      · cases h
  | BinOp a op b pos =>
    simp only [trE] at h
    cases q0 : trBin op with
    | none => rw [q0] at h; cases h
    | some op' =>
      cases q : trE T n X.env.scope a with
      | none => rw [q0, q] at h; cases h
      | some E1 =>
        cases q' : trE T n X.env.scope b with
        | none => rw [q0, q, q'] at h; cases h
        | some E2 => rw [q0, q, q'] at h; cases h; exact binE q0 (A.e o q) (A.e o q')
  | UnaryOp op a pos =>
    simp only [trE] at h
    cases q : trE T n X.env.scope a with
    | none => rw [q] at h; cases op <;> cases h
    | some E1 =>
      rw [q] at h
      cases op <;> simp only [Option.some.injEq, reduceCtorEq] at h <;> subst h
      · exact notE (A.e o q)
      · exact negE (A.e o q)
  | BoolOp op es pos =>
    simp only [trE] at h
    cases op <;> simp only at h
    · exact A.and o h
    · exact A.or o h
  | Compare a ops bs pos => exact (s_cmp A o h).1
  | IfExp c a b pos =>
    simp only [trE] at h
    cases q0 : trC T n X.env.scope c with
    | none => rw [q0] at h; cases h
    | some C1 =>
      cases q : trE T n X.env.scope a with
      | none => rw [q0, q] at h; cases h
      | some E1 =>
        cases q' : trE T n X.env.scope b with
        | none => rw [q0, q, q'] at h; cases h
        | some E2 => rw [q0, q, q'] at h; cases h; exact iteE (A.c o q0) (A.e o q) (A.e o q')
  | Tuple es k pos =>
    simp only [trE] at h
    cases q : trEd T n X.env.scope es with
    | none => rw [q] at h; cases h
    | some E1 => rw [q] at h; cases h; exact tupE (A.ed o q)
  | List es pos =>
    simp only [trE] at h
    cases q : trEd T n X.env.scope es with
    | none => rw [q] at h; cases h
    | some E1 => rw [q] at h; cases h; exact lstE (A.ed o q)
  | Subscript a i pos =>
    simp only [trE] at h
    cases q : trE T n X.env.scope a with
    | none => rw [q] at h; cases h
    | some E1 =>
      simp only [q] at h
      split at h
      · rename_i lo hi st p2
        split at h
        · cases q1 : trO T n X.env.scope lo with
          | none => rw [q1] at h; cases h
          | some L =>
            cases q2 : trO T n X.env.scope hi with
            | none => rw [q1, q2] at h; cases h
            | some U => rw [q1, q2] at h; cases h; exact slcE (A.e o q) (A.o o q1) (A.o o q2)
        · split at h
          · cases h
            refine impE (revE (A.e o q)) fun σ H Q w => ?_
            obtain ⟨μ, ρ, st, S, w⟩ := w
            refine ⟨μ, ρ, st, S, ?_⟩
            rw [ev] at w
            exact w
          · cases h
        · cases h
      · cases q1 : trIx T n X.env.scope i with
        | none => rw [q1] at h; cases h
        | some E2 => rw [q1] at h; cases h; exact idxE o.hu (A.e o q) (A.ix o q1).1 (A.ix o q1).2
  | Attribute a f pos =>
    simp only [trE] at h
    split at h
    · cases h
    rename_i hs
    have hs : isCall a = false := by simpa using hs
    cases q : trE T n X.env.scope a with
    | none => rw [q] at h; cases h
    | some E1 =>
      simp only [q] at h
      cases qf : ixOf f T.fld with
      | some i => rw [qf] at h; cases h; exact fldE o (ixOf_ok qf) (A.e o q) (base_ok hs)
      | none =>
        simp only [qf] at h
        cases qp : ixOf f T.prp with
        | none => rw [qp] at h; cases h
        | some i =>
          rw [qp] at h; cases h
          exact propE o (ixOf_ok qp) (A.e o q) hs
  | Dict ks vs pos =>
    simp only [trE] at h
    split at h
    · cases h; exact dnewE
    · cases q1 : trKs ks with
      | none => rw [q1] at h; cases h
      | some xs =>
        rw [q1] at h
        simp only at h
        split at h
        · rename_i hh
          simp only [Bool.and_eq_true, decide_eq_true_eq, Bool.not_eq_true'] at hh
          cases q2 : vs.mapM (trE T n X.env.scope) with
          | none => rw [q2] at h; cases h
          | some es => rw [q2] at h; cases h; exact dispE (fun q => A.e o q) q1 q2 hh.1.1 hh.1.2 hh.2
        · cases h
  | DictComp kx vx gs scope pos => exact s_dcmp A o h
  | ListComp elt gs scope pos =>
    match gs, h with
    | [], h => simp only [trE, reduceCtorEq] at h
    | [g1, g2], h => exact s_comp2 A o h
    | _ :: _ :: _ :: _, h => simp only [trE, reduceCtorEq] at h
    | [g0], h =>
    obtain ⟨tg, it, ifs, hgs, hs, own, t, i, e, c, rfl, _, hsl, hB, hi, hg, ht, he⟩ := s_comp A o (by simp) h
    rw [hgs]
    exact wrapE <| impE (pe_lc o.calm o.nd hi hB hg ht he (setFold hs X.env)) fun σ H Q w => compE (elt := elt) (tg := tg) (iter := it) (ifs := ifs) (scope := scope) (pos := pos) hsl w
  | Call f as kws pos => exact s_call A o h
  | _ => simp only [trE, reduceCtorEq] at h
theorem allE : ∀ n, AllE F T G call n
  | 0 => by
    constructor <;> intros <;> rename_i h <;> first
      | (simp only [trE, trAnd, trOr, trIx, trBi, trEs, trEd, trO, trC, trCAnd, trCOr, trI, reduceCtorEq] at h)
  | n + 1 => by
    have A := allE n
    have hc : ∀ {X : Cx} {e : Expr} {E : Nz.C}, Ok X F T G call → trC T (n + 1) X.env.scope e = some E → PT X e (tCo X.K F (evC G call E)) := fun {X e E} o h => s_c A o h fun {a ops bs pos E'} q => by
      cases n with
      | zero => simp only [trE, reduceCtorEq] at q
      | succ m => exact (s_cmp (allE m) o q).2
    exact ⟨s_e A, s_and A, s_or A, s_ix A, s_bi A, s_es A, s_ed A, s_o A, hc, s_cand A, s_cor A, s_i A⟩
end
end Nz
namespace Nz
open PySem L2 PyProof.Rows
/-! ### statements -/
def FQ (K : PySem.W.Frag) (F : Nm) (D : Ends) : Fl × Env → Store → Mu → Hp → Prop := fun p s μ' H' => match p.1 with
  | .nx => ∀ σ', Sim K F μ' p.2 s σ' H' → D.nx σ' H'
  | .bk => ∀ σ', Sim K F μ' p.2 s σ' H' → D.bk σ' H'
  | .ct => ∀ σ', Sim K F μ' p.2 s σ' H' → D.ct σ' H'
  | .ret d => ∀ v, Rp K μ' H' d v → D.rt v H'
def tS (K : PySem.W.Frag) (F : Nm) (f : Env → Store → R (Fl × Env)) : TS := fun D σ H => ∃ μ ρ st, Sim K F μ ρ st σ H ∧ WP K F μ H (f ρ st) (FQ K F D)
theorem impS {X : Cx} {e : Stmt} {t t' : TS} (h : X.env.scope.kind = .function → PS X e t) (k : ∀ D σ H, t' D σ H → t D σ H) : PS X e t' := ⟨fun pins s σ H D I w => (h I.ok.kind).run pins s σ H D I (k D σ H w)⟩
theorem impSs {X : Cx} {e : List Stmt} {t t' : TS} (h : PSs X e t) (k : ∀ D σ H, t' D σ H → t D σ H) : PSs X e t' := ⟨fun pins s σ H D I w => h.run pins s σ H D I (k D σ H w)⟩
theorem mask_len : ∀ (a b : Env), (mask a b).length = b.length
  | some _ :: a, x :: b => by simp only [mask, List.length_cons, mask_len a b]
  | none :: a, x :: b => by simp only [mask, List.length_cons, mask_len a b]
  | [], x :: b => by simp only [mask, List.length_cons, mask_len [] b]
  | some _ :: a, [] => rfl
  | none :: a, [] => rfl
  | [], [] => rfl
theorem mask_get : ∀ {a b : Env} {i : Nat} {d : D}, (mask a b)[i]? = some (some d) → b[i]? = some (some d)
  | some _ :: a, x :: b, 0, d, h => by simpa only [mask, List.getElem?_cons_zero] using h
  | none :: a, x :: b, 0, d, h => by simp only [mask, List.getElem?_cons_zero, Option.some.injEq, reduceCtorEq] at h
  | [], x :: b, 0, d, h => by simp only [mask, List.getElem?_cons_zero, Option.some.injEq, reduceCtorEq] at h
  | some _ :: a, x :: b, i + 1, d, h => by simp only [mask, List.getElem?_cons_succ] at h ⊢; exact mask_get h
  | none :: a, x :: b, i + 1, d, h => by simp only [mask, List.getElem?_cons_succ] at h ⊢; exact mask_get h
  | [], x :: b, i + 1, d, h => by simp only [mask, List.getElem?_cons_succ] at h ⊢; exact mask_get h
  | some _ :: a, [], i, d, h => by simp [mask] at h
  | none :: a, [], i, d, h => by simp [mask] at h
  | [], [], i, d, h => by simp [mask] at h
theorem Sim.mask {K : PySem.W.Frag} {F : Nm} {μ : Mu} {ρ : Env} {st : Store} {σ : L2.St} {H : Hp} (S : Sim K F μ ρ st σ H) (ρ₀ : Env) : Sim K F μ (Nz.mask ρ₀ ρ) st σ H :=
  ⟨by rw [mask_len]; exact S.len, fun i d h => S.env i d (mask_get h), S.sto⟩
section
variable {X : Cx} {F : Nm} {T₀ : Tab} {G : Ctx} {call : Nat → List D → Store → R D} {pos pos' : Pos} {e a b : Expr} {f g h : Env → Store → R D}
theorem passS : PS X (.Pass pos) (tS X.K F fun ρ st => .ok (.nx, ρ) st) := impS (fun _ => ps_pass) fun D σ H ⟨μ, ρ, st, S, w⟩ => (WP.ok (Φ := FQ X.K F D) S.sto w) σ S
theorem brkS : PS X (.Break pos) (tS X.K F fun ρ st => .ok (.bk, ρ) st) := impS (fun _ => ps_break) fun D σ H ⟨μ, ρ, st, S, w⟩ => (WP.ok (Φ := FQ X.K F D) S.sto w) σ S
theorem contS : PS X (.Continue pos) (tS X.K F fun ρ st => .ok (.ct, ρ) st) := impS (fun _ => ps_continue) fun D σ H ⟨μ, ρ, st, S, w⟩ => (WP.ok (Φ := FQ X.K F D) S.sto w) σ S
theorem neverS {s : Stmt} : PS X s (tS X.K F fun _ _ => .no) := impS (fun _ => ps_never) fun D σ H ⟨μ, ρ, st, S, w⟩ => w.elim
theorem retnS : PS X (.Return none pos) (tS X.K F fun ρ st => .ok (.ret .non, ρ) st) := impS (fun _ => ps_retN) fun D σ H ⟨μ, ρ, st, S, w⟩ => (WP.ok (Φ := FQ X.K F D) S.sto w) _ .non
theorem retS (he : PE X e (tE X.K F f)) : PS X (.Return (some e) pos) (tS X.K F fun ρ st => (f ρ st).bind fun d s => .ok (.ret d, ρ) s) := impS (fun _ => ps_ret he) fun D σ H ⟨μ, ρ, st, S, w⟩ =>
  ⟨μ, ρ, st, S, w.bind.mono fun d s μ1 H1 P1 w1 v rv => (WP.ok (Φ := FQ X.K F D) P1.sto w1) v rv⟩
theorem compN {t : Option Expr} {l : Nat} {env : PySem.Env} (h : isComp e = false) : swapsWith e t l env = pure false := by
  cases e <;> first | rfl | cases h
theorem exprS (hc : isComp e = false) (he : PE X e (tE X.K F f)) : PS X (.Expr e pos) (tS X.K F fun ρ st => (f ρ st).bind fun _ s => .ok (.nx, ρ) s) := impS (fun _ => ps_expr he (compN hc)) fun D σ H ⟨μ, ρ, st, S, w⟩ =>
  ⟨μ, ρ, st, S, w.bind.mono fun d s μ1 H1 P1 w1 v rv => (WP.ok (Φ := FQ X.K F D) P1.sto w1) σ (S.post P1)⟩
theorem setQ {K : PySem.W.Frag} {t : Nz.T} {D : Ends} {σ : L2.St} {H : Hp} (w : tS K F (fun ρ st => (f ρ st).bind fun d s => (match Nz.T.asg t d ρ with
    | some ρ' => .ok (.nx, ρ') s
    | none => .no)) D σ H) : tAsg (tE K F f) (gT K F t) D σ H := by
  obtain ⟨μ, ρ, st, S, w⟩ := w
  refine ⟨μ, ρ, st, S, w.bind.mono fun d s μ1 H1 P1 w1 v rv => ?_⟩
  cases ha : Nz.T.asg t d ρ with
  | none => rw [ha] at w1; exact w1.elim
  | some ρ' =>
    rw [ha] at w1
    exact ⟨μ1, ρ, s, d, ρ', S.post P1, rv, ha, fun σ' S' _ => (WP.ok (Φ := FQ K F D) P1.sto w1) σ' S'⟩
theorem setQ1 {K : PySem.W.Frag} {i : Nat} {D : Ends} {σ : L2.St} {H : Hp} (w : tS K F (fun ρ st => (f ρ st).bind fun d s => (match Nz.T.asg (.nm i) d ρ with
    | some ρ' => .ok (.nx, ρ') s
    | none => .no)) D σ H) : tAsg (tE K F f) (gName i) D σ H := by
  obtain ⟨μ, ρ, st, S, w⟩ := w
  refine ⟨μ, ρ, st, S, w.bind.mono fun d s μ1 H1 P1 w1 v rv => ?_⟩
  exact (WP.ok (Φ := FQ K F D) P1.sto w1) _ ((S.post P1).set rv i)
/-! #### op= -/
def ipA (o : BinO) : TIp := fun x y H Q => ∃ i j k, x = .int i ∧ y = .int j ∧ arith o i j = some k ∧ Q (.int k) H
theorem ipA_ok {op : Operator} {o : BinO} (ho : trBin op = some o) (hp : o ≠ .pow) : PIp X op (ipA o) := by
  intro pins s σ H x y v u Q I r1 r2 h
  obtain ⟨i, j, k, e1, e2, ha, q⟩ := h
  subst e1; subst e2
  obtain ⟨t, rfl⟩ := r1
  obtain ⟨t', rfl⟩ := r2
  exact ar_in ho hp ha ⟨.int _, H, I.tok _, ⟨_, rfl⟩, q⟩
theorem augQ {K : PySem.W.Frag} {α : Type} {μ : Mu} {H : Hp} {st : Store} {o : BinO} {x y : D} {v u : V} {c : D → Store → R α} {Φ : α → Store → Mu → Hp → Prop} (S : Sto K F μ st H) (rx : Rp K μ H x v) (ry : Rp K μ H y u)
    (w : WP K F μ H (match x, y with
      | .int _, .int _ => (binop o x y st).bind c
      | _, _ => .no) Φ) : ∃ i j k, v = .int i ∧ u = .int j ∧ arith o i j = some k ∧ WP K F μ H (c (.int k) st) Φ := by
  cases rx with
  | int i =>
    cases ry with
    | int j =>
      have w : WP K F μ H ((R.ofI (arith o i j) st).bind c) Φ := w
      cases ha : arith o i j with
      | none => rw [ha] at w; exact w.elim
      | some k => rw [ha] at w; exact ⟨i, j, k, rfl, rfl, ha, w⟩
    | _ => exact w.elim
  | _ => exact w.elim
theorem augS {x : Str} {i : Nat} {op : Operator} {o : BinO} (hN : X.N = T₀.N) (nd : X.N.Nodup) (hf : FnLoc X X.env.scope) (hi : trLoc T₀ X.env.scope x = some i) (ho : trBin op = some o) (hp : o ≠ .pow) (he : PE X e (tE X.K F f)) :
    PS X (.AugAssign (.Name x pos') op e pos) (tS X.K F fun ρ st => (R.ofO (ρ[i]?.join) st).bind fun x s => (f ρ s).bind fun y s => (match x, y with
    | .int _, .int _ => (binop o x y s).bind fun d s => .ok (.nx, ρ.set i (some d)) s
    | _, _ => .no)) := by
  have hx : T₀.N[i]? = some x := by
    unfold trLoc at hi
    split at hi
    · exact ixOf_ok hi
    · cases hi
  refine impS (fun _ => ps_aug nd (by rw [hN]; exact hx) (trLoc_loc hi) he (ipA_ok ho hp) (hf x (trLoc_loc hi)).2) fun D σ H ⟨μ, ρ, st, S, w⟩ => ?_
  dsimp only at w
  cases q : ρ[i]? with
  | none => rw [q] at w; exact w.elim
  | some d =>
    cases d with
    | none => rw [q] at w; exact w.elim
    | some d =>
      rw [q] at w
      obtain ⟨v, hv, rv⟩ := S.env i d q
      refine ⟨v, hv, μ, ρ, st, S, (WP.bind (r := f ρ st) w).mono fun y s μ1 H1 P1 w1 u ru => ?_⟩
      obtain ⟨a, b, k, e1, e2, hk, w2⟩ := augQ P1.sto (rv.post P1) ru w1
      refine ⟨a, b, k, e1, e2, hk, ?_⟩
      exact (WP.ok (Φ := FQ X.K F D) P1.sto w2) _ ((S.post P1).set (.int k) i)
/-! #### o[i] = e -/
def rSetA : TSet := fun o i v H Q => rSetL o i v H Q ∨ ∃ a H', o = .ref a ∧ DPut H a i v H' ∧ Q H'
theorem set_any (hu : X.A.units + 64 < cLine) : PSet X rSetA := by
  intro pins s σ H o i v ov iv u Q I ro ri rv h
  rcases h with h | ⟨a, H', rfl, g, q⟩
  · exact set_list pins s σ H o i v ov iv u Q I ro ri rv h
  · cases ro
    exact d_setItem (by omega) I g ri rv fun s' I' => ⟨H', I', q⟩
theorem setAt_ok {K : PySem.W.Frag} {μ : Mu} {H : Hp} {st : Store} {α : Type} {x i d : D} {v u z : V} {c : D → Store → R α} {Φ : α → Store → Mu → Hp → Prop} {Q : Hp → Prop} (S : Sto K F μ st H) (rx : Rp K μ H x v) (ri : Rp K μ H i u) (rd : Rp K μ H d z) (w : WP K F μ H ((setAt x i d st).bind c) Φ)
    (hq : ∀ st' H', Post K F μ H st' μ H' → WP K F μ H' (c .non st') Φ → Q H') : rSetA v u z H Q := by
  cases rx with
  | @ref l p b hl =>
    cases hdc : dctOf (.ref l) st with
    | some tk =>
      obtain ⟨t, kvs⟩ := tk
      obtain ⟨l', a, e1, e2, h1, h2, h3⟩ := dctOf_ok S (Rp.ref (H := H) (K := K) hl) hdc
      cases e1; cases e2
      have w : WP K F μ H ((R.grd (i.keyOk t && decide (kvs.length < LINE)) (.ok .non (st.set l (.dct t (dPut kvs i d))))).bind c) Φ := by
        have e : setAt (.ref l) i d st = R.grd (i.keyOk t && decide (kvs.length < LINE)) (.ok .non (st.set l (.dct t (dPut kvs i d)))) := by
          simp only [setAt, h2]
        rw [e] at w; exact w
      by_cases hg : (i.keyOk t && decide (kvs.length < LINE)) = true
      · rw [hg] at w
        rw [Bool.and_eq_true] at hg
        have hz : kvs.length < 16777216 := of_decide_eq_true hg.2
        obtain ⟨H', g, P⟩ := dput_ok S h1 h2 ri rd hg.1 hz
        refine .inr ⟨_, H', rfl, g, hq _ _ P ?_⟩
        have w : WP K F μ H (c .non (st.set l (.dct t (dPut kvs i d)))) Φ := w
        revert w
        cases c .non (st.set l (.dct t (dPut kvs i d))) with
        | no => exact id
        | ok a s => exact fun w μ2 H2 P2 => w μ2 H2 (P.trans P2)
      · rw [Bool.not_eq_true] at hg
        rw [hg] at w
        exact w.elim
    | none =>
    left
    have nd : ∀ t kvs, st[l]? ≠ some (.dct t kvs) := fun t kvs e => by
      simp only [dctOf, e, reduceCtorEq] at hdc
    cases ri with
    | int k =>
      have w : WP K F μ H (R.bind (match st[l]? with
        | some (.lst ds) => (match place ds.length k with
          | some j => .ok .non (st.set l (.lst (ds.set j d)))
          | none => .no)
        | some (.dct t kvs) => R.grd (D.keyOk t (.int k) && decide (kvs.length < LINE)) (.ok .non (st.set l (.dct t (dPut kvs (.int k) d))))
        | _ => .no) c) Φ := w
      split at w
      · rename_i ds hst
        cases hp : place ds.length k with
        | none => simp only [hp] at w; exact w.elim
        | some j =>
          simp only [hp] at w
          obtain ⟨vs, h1, r1⟩ := S.back hst hl rfl
          refine ⟨p, vs, k, j, rfl, rfl, h1, by rw [← r1.length]; exact hp, ?_⟩
          have kt : ∀ a xs, H a = some (.tup xs) → upd H p (.lst (vs.set j z)) a = some (.tup xs) := fun a xs z => by rw [upd_ne (fun q => by subst q; rw [h1] at z; cases z)]; exact z
          have kf : ∀ a o x, H a = some (.frz o x) → upd H p (.lst (vs.set j z)) a = some (.frz o x) := fun a o x z => by rw [upd_ne (fun q => by subst q; rw [h1] at z; cases z)]; exact z
          have P : Post K F μ H (st.set l (.lst (ds.set j d))) μ (upd H p (.lst (vs.set j z))) := Post.write S hst hl rfl h1 trivial ⟨_, upd_same, (r1.set rd j).mono (List.prefix_refl _) kt kf⟩
          refine hq _ _ P ?_
          have w : WP K F μ H (c .non (st.set l (.lst (ds.set j d)))) Φ := w
          revert w
          cases c .non (st.set l (.lst (ds.set j d))) with
          | no => exact id
          | ok a s => exact fun w μ2 H2 P2 => w μ2 H2 (P.trans P2)
      · exact absurd (by assumption) (nd _ _)
      · exact w.elim
    | _ =>
      exfalso
      revert w
      unfold setAt
      simp only
      split
      · exact fun w => w
      · exact absurd (by assumption) (nd _ _)
      · exact fun w => w
  | _ => exact w.elim
theorem stiS (hu : X.A.units + 64 < cLine) {i : Expr} {tpos : Pos} (hn : ∀ lo hi st p, i ≠ .Slice lo hi st p) (he : PE X e (tE X.K F f)) (ha : PE X a (tE X.K F g)) (hi : PE X i (tE X.K F h)) :
    PS X (.Assign [.Subscript a i tpos] e pos) (tS X.K F fun ρ st => (f ρ st).bind fun d s => (g ρ s).bind fun x s => (h ρ s).bind fun y s => (setAt x y d s).bind fun _ s => .ok (.nx, ρ) s) := by
  refine impS (fun _ => ps_asg (g := gSub (tE X.K F g) (tE X.K F h) rSetA) he (pg_sub ha hi (set_any hu) (by intro v; cases i <;> first | rfl | exact absurd rfl (hn _ _ _ _))) (by cases e <;> rfl) (by rfl)) fun D σ H ⟨μ, ρ, st, S, w⟩ => ?_
  refine ⟨μ, ρ, st, S, w.bind.mono fun d s μ1 H1 P1 w1 z rz => ?_⟩
  refine ⟨μ1, ρ, s, S.post P1, w1.bind.mono fun x s2 μ2 H2 P2 w2 v rv => ?_⟩
  refine ⟨μ2, ρ, s2, (S.post P1).post P2, w2.bind.mono fun y s3 μ3 H3 P3 w3 u ru => ?_⟩
  exact setAt_ok P3.sto (rv.post P3) ru ((rz.post P2).post P3) w3 fun st' H' P w4 => (WP.ok (Φ := FQ X.K F D) P.sto w4) _ ((((S.post P1).post P2).post P3).post P)
def rGetL (K : PySem.W.Frag) : V → V → Hp → VK → Prop := fun x y H Q => ∃ p xs i v, x = .ref p ∧ y = .int i ∧ SqL K H p xs ∧ atI xs i = some v ∧ Q v H
theorem get_list : PGet X (rGetL X.K) := by
  intro pins s σ H x y v u Q I rx ry h
  obtain ⟨p, xs, i, z, rfl, rfl, hq, he, q⟩ := h
  cases rx
  obtain ⟨t, rfl⟩ := ry
  obtain ⟨its, r, pl, hz⟩ := I.list hq
  obtain ⟨j, h1, h2, h3, h4, h5⟩ := atI_get he
  obtain ⟨w, ew, rw'⟩ := r.get h2
  have hl := r.length
  have hn := line63
  have fin : EP X pins σ Q w s := ⟨z, H, I, rw', q⟩
  by_cases h0 : 0 ≤ i
  · have hj : i.toNat = j := by
      rw [seqIndex_of h0 h5] at h1
      exact Option.some.inj h1
    exact wpAny_getItem_list pl.isList h0 (by omega) (by rw [hj]; simpa using ew) fin
  · have hj : (i + (its.toArray.size : Int)).toNat = j := by
      rw [seqIndex_neg (by omega) h4] at h1
      rw [List.size_toArray, ← hl]
      exact Option.some.inj h1
    exact wpAny_getItem_list_neg pl.isList (by omega) (by rw [List.size_toArray] <;> omega) (by omega) (by rw [hj]; simpa using ew) fin
def rGetA (K : PySem.W.Frag) : V → V → Hp → VK → Prop := fun x y H Q => rGetL K x y H Q ∨ ∃ a v, x = .ref a ∧ DGet H a y (some v) ∧ Q v H
theorem get_any (hu : X.A.units + 64 < cLine) : PGet X (rGetA X.K) := by
  intro pins s σ H x y v u Q I rx ry h
  rcases h with h | ⟨a, z, rfl, g, q⟩
  · exact get_list pins s σ H x y v u Q I rx ry h
  · cases rx
    exact d_getItem (by omega) I g ry fun w' s' I' r' => ⟨z, H, I', r', q⟩
theorem augiS (hu : X.A.units + 64 < cLine) {i : Expr} {tpos : Pos} {op : Operator} {o : BinO} (hn : ∀ lo hi st p, i ≠ .Slice lo hi st p) (ho : trBin op = some o) (hp : o ≠ .pow) (he : PE X e (tE X.K F f)) (ha : PE X a (tE X.K F g)) (hi : PE X i (tE X.K F h)) :
    PS X (.AugAssign (.Subscript a i tpos) op e pos) (tS X.K F fun ρ st => (g ρ st).bind fun x s => (h ρ s).bind fun y s => R.grd ((lstOf x s).isSome || (dctOf x s).isSome) ((index x y s).bind fun v s => (f ρ s).bind fun z s => (match v, z with
    | .int _, .int _ => (binop o v z s).bind fun d s => (setAt x y d s).bind fun _ s => .ok (.nx, ρ) s
    | _, _ => .no))) := by
  refine impS (fun _ => ps_augS ha hi (get_any hu) he (ipA_ok ho hp) (set_any hu) (by intro ov iv new; cases i <;> first | rfl | exact absurd rfl (hn _ _ _ _))) fun D σ H ⟨μ, ρ, st, S, w⟩ => ?_
  refine ⟨μ, ρ, st, S, w.bind.mono fun x s μ1 H1 P1 w1 v rv => ?_⟩
  refine ⟨μ1, ρ, s, S.post P1, w1.bind.mono fun y s2 μ2 H2 P2 w2 u ru => ?_⟩
  obtain ⟨hl, w2⟩ := w2.grd
  have rv2 := rv.post P2
  have S2 := (S.post P1).post P2
  cases hdc : dctOf x s2 with
  | some tk =>
    obtain ⟨t, kvs⟩ := tk
    have w2 := WP.bind w2
    unfold index at w2
    rw [hdc] at w2
    obtain ⟨hk, w2⟩ := WP.grd w2
    obtain ⟨l, a, rfl, rfl, h1, h2, h3⟩ := dctOf_ok P2.sto rv2 hdc
    rcases dget_ok h3 ru hk with ⟨e1, g⟩ | ⟨z, zv, e1, g, rz⟩
    · rw [e1] at w2; exact w2.elim
    · rw [e1] at w2
      have w3 := WP.ok P2.sto w2
      refine .inr ⟨a, zv, rfl, g, μ2, ρ, s2, S2, w3.bind.mono fun n s3 μ3 H3 P3 w4 nv rn => ?_⟩
      obtain ⟨i1, i2, i3, e1, e2, hk, w5⟩ := augQ P3.sto (rz.post P3) rn w4
      refine ⟨i1, i2, i3, e1, e2, hk, ?_⟩
      exact setAt_ok P3.sto (rv2.post P3) (ru.post P3) (.int i3) w5 fun st' H' P w6 => (WP.ok (Φ := FQ X.K F D) P.sto w6) _ ((S2.post P3).post P)
  | none =>
  rw [hdc] at hl
  have hl : (lstOf x s2).isSome = true := by simpa using hl
  left
  cases hd : lstOf x s2 with
  | none => rw [hd] at hl; cases hl
  | some ds =>
    obtain ⟨p, vs, rfl, hq, rs⟩ := lstOf_ok P2.sto rv2 hd
    unfold index at w2
    rw [hdc] at w2
    cases ru with
    | int k =>
      have hs : seqW x s2 = some ds := by
        unfold lstOf at hd
        cases x with
        | ref l => exact hd
        | _ => cases hd
      have w3 : WP X.K F μ2 H2 (R.bind (match seqW x s2 with
        | some ds => (match getAt ds k with
          | some d => .ok d s2
          | none => .no)
        | none => .no) fun v s => (f ρ s).bind fun z s => (match v, z with
          | .int _, .int _ => (binop o v z s).bind fun d s => (setAt x (.int k) d s).bind fun _ s => .ok (.nx, ρ) s
          | _, _ => .no)) (FQ X.K F D) := w2
      rw [hs] at w3
      cases hg : getAt ds k with
      | none => simp only [hg] at w3; exact w3.elim
      | some z =>
        simp only [hg, R.bind_ok] at w3
        obtain ⟨zv, e1, rz⟩ := getAt_ok rs hg
        refine ⟨p, vs, k, zv, rfl, rfl, hq, e1, μ2, ρ, s2, S2, w3.bind.mono fun n s3 μ3 H3 P3 w4 nv rn => ?_⟩
        obtain ⟨i1, i2, i3, e1, e2, hk, w5⟩ := augQ P3.sto (rz.post P3) rn w4
        refine ⟨i1, i2, i3, e1, e2, hk, ?_⟩
        exact setAt_ok P3.sto (rv2.post P3) (.int k) (.int i3) w5 fun st' H' P w6 => (WP.ok (Φ := FQ X.K F D) P.sto w6) _ ((S2.post P3).post P)
    | _ =>
      have w3 : WP X.K F μ2 H2 (R.bind .no _) (FQ X.K F D) := w2
      exact w3.elim
end
end Nz
namespace Nz
open PySem L2 PyProof.Rows
theorem sw_par {env : PySem.Env} {x y : Str} {px py pt pt2 : Pos} {kt k2 : Nat} {a b : Expr} (hk : env.scope.kind = .function) (sa : isStar a = false) (sb : isStar b = false) (hc : ([a, b].all (PySem.constantsAlone 8) && !([a, b].all (PySem.foldedForSure 8))) = false) :
    swappedStores [.Tuple [.Name x px, .Name y py] kt pt] (.Tuple [a, b] k2 pt2) env = pure none ∨
    (swappedStores [.Tuple [.Name x px, .Name y py] kt pt] (.Tuple [a, b] k2 pt2) env = pure (some [x, y]) ∧ env.scope.names.lookup x = some .local ∧ env.scope.names.lookup y = some .local ∧ x ≠ y) := by
  have hb : env.blockKind = .function := by unfold Env.blockKind; rw [hk]; rfl
  unfold swappedStores
  simp only [hb, List.length_cons, List.length_nil, bne_self_eq_false, Bool.or_false, Nat.zero_add, Nat.reduceAdd, Nat.reduceBEq, Bool.or_true, Bool.true_or, Bool.not_true, Bool.false_eq_true, if_false]
  have s3 : ∀ p : Expr → Bool, (∀ e, isStar e = false → p e = false) → [a, b].any p = false := fun p h => by simp only [List.any_cons, List.any_nil, h a sa, h b sb, Bool.or_self]
  rw [s3]
  case a => exact fun e h => by cases e <;> first | rfl | cases h
  simp only [Bool.false_eq_true, if_false, List.head?_cons, Option.map_some, Option.getD_some, Expr.pos, pure_bind, List.filterMap_cons, List.filterMap_nil]
  have kx : env.kindOf x = env.scope.names.lookup x := rfl
  have ky : env.kindOf y = env.scope.names.lookup y := rfl
  simp only [kx, ky]
  by_cases hx : env.scope.names.lookup x = some .local
  · by_cases hy : env.scope.names.lookup y = some .local
    · by_cases hl : py.line = px.line
      · by_cases hxy : x = y
        · subst hxy
          left
          simp [hx, hl, List.eraseDups_cons]
        · simp only [hx, hy, hl, beq_self_eq_true, Bool.and_self, if_true]
          have he : [x, y].eraseDups.length = 2 := by simp [List.eraseDups_cons, hxy, Ne.symm hxy]
          simp only [he, List.length_cons, List.length_nil, bne_self_eq_false, Bool.or_self, Bool.false_eq_true, if_false]
          by_cases hf : ([a, b].all (PySem.foldedForSure 8)) = true
          · left; rw [if_pos hf]
          · right
            rw [if_neg hf]
            have hc' : ¬ ([a, b].all (PySem.constantsAlone 8)) = true := fun q => by
              rw [q] at hc
              simp [hf] at hc
            rw [if_neg hc']
            exact ⟨rfl, trivial, trivial, hxy⟩
      · left
        simp [hx, hy, hl]
    · left
      by_cases hl : py.line = px.line <;> simp [hx, hy, hl]
  · left
    by_cases hl : py.line = px.line <;> by_cases hy : env.scope.names.lookup y = some .local <;> simp [hx, hy, hl]
theorem sw_par3 {env : PySem.Env} {x y z : Str} {px py pz pt pt2 : Pos} {kt k2 : Nat} {a b c : Expr} (hk : env.scope.kind = .function) (sa : isStar a = false) (sb : isStar b = false) (sc : isStar c = false) (hc : ([a, b, c].all (PySem.constantsAlone 8) && !([a, b, c].all (PySem.foldedForSure 8))) = false) :
    swappedStores [.Tuple [.Name x px, .Name y py, .Name z pz] kt pt] (.Tuple [a, b, c] k2 pt2) env = pure none ∨
    (swappedStores [.Tuple [.Name x px, .Name y py, .Name z pz] kt pt] (.Tuple [a, b, c] k2 pt2) env = pure (some [x, y, z]) ∧ env.scope.names.lookup x = some .local ∧ env.scope.names.lookup y = some .local ∧ env.scope.names.lookup z = some .local ∧ x ≠ y ∧ x ≠ z ∧ y ≠ z) := by
  have hb : env.blockKind = .function := by unfold Env.blockKind; rw [hk]; rfl
  unfold swappedStores
  simp only [hb, List.length_cons, List.length_nil, bne_self_eq_false, Bool.or_false, Nat.zero_add, Nat.reduceAdd, Nat.reduceBEq, Bool.or_true, Bool.true_or, Bool.not_true, Bool.false_eq_true, if_false]
  have s3 : ∀ p : Expr → Bool, (∀ e, isStar e = false → p e = false) → [a, b, c].any p = false := fun p h => by simp only [List.any_cons, List.any_nil, h a sa, h b sb, h c sc, Bool.or_self]
  rw [s3]
  case a => exact fun e h => by cases e <;> first | rfl | cases h
  simp only [Bool.false_eq_true, if_false, List.head?_cons, Option.map_some, Option.getD_some, Expr.pos, pure_bind, List.filterMap_cons, List.filterMap_nil]
  have kx : env.kindOf x = env.scope.names.lookup x := rfl
  have ky : env.kindOf y = env.scope.names.lookup y := rfl
  have kz : env.kindOf z = env.scope.names.lookup z := rfl
  simp only [kx, ky, kz]
  by_cases hx : env.scope.names.lookup x = some .local
  · by_cases hy : env.scope.names.lookup y = some .local
    · by_cases hz : env.scope.names.lookup z = some .local
      · by_cases hl : py.line = px.line
        · by_cases hl2 : pz.line = px.line
          · by_cases hxy : x = y
            · subst hxy
              left
              by_cases hxz : x = z
              · subst hxz; simp [hx, hl, hl2, List.eraseDups_cons]
              · simp [hx, hz, hl, hl2, List.eraseDups_cons, hxz, Ne.symm hxz]
            · by_cases hxz : x = z
              · subst hxz; left; simp [hx, hy, hl, hl2, List.eraseDups_cons, hxy, Ne.symm hxy]
              · by_cases hyz : y = z
                · subst hyz; left; simp [hx, hy, hl, hl2, List.eraseDups_cons, hxy, Ne.symm hxy]
                · simp only [hx, hy, hz, hl, hl2, beq_self_eq_true, Bool.and_self, if_true]
                  have he : [x, y, z].eraseDups.length = 3 := by simp [List.eraseDups_cons, hxy, Ne.symm hxy, hxz, Ne.symm hxz, hyz, Ne.symm hyz]
                  simp only [he, List.length_cons, List.length_nil, bne_self_eq_false, Bool.or_self, Bool.false_eq_true, if_false]
                  by_cases hf : ([a, b, c].all (PySem.foldedForSure 8)) = true
                  · left; rw [if_pos hf]
                  · right
                    rw [if_neg hf]
                    have hc' : ¬ ([a, b, c].all (PySem.constantsAlone 8)) = true := fun q => by
                      rw [q] at hc
                      simp [hf] at hc
                    rw [if_neg hc']
                    exact ⟨rfl, trivial, trivial, trivial, hxy, hxz, hyz⟩
          · left; simp [hx, hy, hz, hl, hl2]
        · left
          by_cases hl2 : pz.line = px.line <;> simp [hx, hy, hz, hl, hl2]
      · left
        by_cases hl : py.line = px.line <;> by_cases hl2 : pz.line = px.line <;> simp [hx, hy, hz, hl, hl2]
    · left
      by_cases hl : py.line = px.line <;> by_cases hl2 : pz.line = px.line <;> by_cases hz : env.scope.names.lookup z = some .local <;> simp [hx, hy, hz, hl, hl2]
  · left
    by_cases hl : py.line = px.line <;> by_cases hl2 : pz.line = px.line <;> by_cases hz : env.scope.names.lookup z = some .local <;> by_cases hy : env.scope.names.lookup y = some .local <;> simp [hx, hy, hz, hl, hl2]
section
variable {X : Cx} {F : Nm} {T : Tab} {G : Ctx} {call : Nat → List D → Store → R D} {pos pos' : Pos} {e a b : Expr} {f g h : Env → Store → R D}
theorem trLoc_N {sc : Scope} {x : Str} {i : Nat} (h : trLoc T sc x = some i) : T.N[i]? = some x := by
  unfold trLoc at h
  split at h
  · exact ixOf_ok h
  · cases h
theorem parS {x y : Str} {i j k2 kt : Nat} {px py pt pt2 : Pos} (o : Ok X F T G call) (hf : FnLoc X X.env.scope) (hi : trLoc T X.env.scope x = some i) (hj : trLoc T X.env.scope y = some j) (sa : isStar a = false) (sb : isStar b = false)
    (hc : ([a, b].all (PySem.constantsAlone 8) && !([a, b].all (PySem.foldedForSure 8))) = false) (ha : PE X a (tE X.K F f)) (hb : PE X b (tE X.K F g)) :
    PS X (.Assign [.Tuple [.Name x px, .Name y py] kt pt] (.Tuple [a, b] k2 pt2) pos) (tS X.K F fun ρ st => (f ρ st).bind fun x s => (g ρ s).bind fun y s => .ok (.nx, (ρ.set i (some x)).set j (some y)) s) := by
  have hA := consA ha (consA hb nilA (star_one sb)) (star_cons sa)
  refine ⟨fun pins s σ H D I w => ?_⟩
  rcases sw_par (px := px) (py := py) (pt := pt) (pt2 := pt2) (kt := kt) (k2 := k2) (x := x) (y := y) I.ok.kind sa sb hc with hw | ⟨hw, hx, hy, hxy⟩
  · refine (ps_asg (tupE hA) (tupG (F := F) (ts := [.nm i, .nm j]) o.calm (consG (nameG o.hN o.nd hi (hf x (trLoc_loc hi)).1 (hf x (trLoc_loc hi)).2) (consG (nameG o.hN o.nd hj (hf y (trLoc_loc hj)).1 (hf y (trLoc_loc hj)).2) nilG (by rfl)) (by rfl)) rfl rfl rfl) (by rfl) hw).run pins s σ H D I (setQ ?_)
    obtain ⟨μ, ρ, st, S, w⟩ := w
    refine ⟨μ, ρ, st, S, ?_⟩
    simp only [R.bind_assoc, R.bind_ok]
    exact w
  · have hij : i ≠ j := fun q => by
      subst q
      have h1 := trLoc_N hi
      have h2 := trLoc_N hj
      rw [h1] at h2
      exact hxy (Option.some.inj h2)
    refine (ps_par (i := i) (j := j) o.calm o.nd (by rw [o.hN]; exact trLoc_N hi) (by rw [o.hN]; exact trLoc_N hj) hij hx hy hA hw (by rfl)).run pins s σ H D I ?_
    obtain ⟨μ, ρ, st, S, w⟩ := w
    refine ⟨μ, ρ, st, S, ?_⟩
    refine WP.mono (Φ := fun ds s μ' H' => WP X.K F μ' H' (match ds with
      | [x, y] => .ok (.nx, (ρ.set i (some x)).set j (some y)) s
      | _ => .no) (FQ X.K F D)) (WP.bind ?_) fun ds s μ1 H1 P1 w1 vs rs => ?_
    · simp only [R.bind_assoc, R.bind_ok]
      exact w
    · cases rs with
      | nil => exact w1.elim
      | cons r rs =>
        cases rs with
        | nil => exact w1.elim
        | cons r' rs =>
          cases rs with
          | cons _ _ => exact w1.elim
          | nil => exact ⟨_, _, rfl, (WP.ok (Φ := FQ X.K F D) P1.sto w1) _ (((S.post P1).set r i).set r' j)⟩
theorem par3S {x y z : Str} {i j l k2 kt : Nat} {px py pz pt pt2 : Pos} {c : Expr} {fe : Env → Store → R D} {k : Env → Store → R (List D)} (o : Ok X F T G call) (hf : FnLoc X X.env.scope) (hi : trLoc T X.env.scope x = some i) (hj : trLoc T X.env.scope y = some j) (hl : trLoc T X.env.scope z = some l) (sa : isStar a = false) (sb : isStar b = false) (sc : isStar c = false)
    (hc : ([a, b, c].all (PySem.constantsAlone 8) && !([a, b, c].all (PySem.foldedForSure 8))) = false) (hE : PE X (.Tuple [a, b, c] k2 pt2) (tE X.K F fe)) (hA : PA X [a, b, c] (tAs X.K F k)) (hfe : ∀ ρ st, fe ρ st = (k ρ st).bind fun ds s => newT ds s) :
    PS X (.Assign [.Tuple [.Name x px, .Name y py, .Name z pz] kt pt] (.Tuple [a, b, c] k2 pt2) pos) (tS X.K F fun ρ st => (fe ρ st).bind fun d s => (match Nz.T.asg (.tp [.nm i, .nm j, .nm l]) d ρ with
      | some ρ' => .ok (.nx, ρ') s
      | none => .no)) := by
  refine ⟨fun pins s σ H D I w => ?_⟩
  rcases sw_par3 (px := px) (py := py) (pz := pz) (pt := pt) (pt2 := pt2) (kt := kt) (k2 := k2) (x := x) (y := y) (z := z) I.ok.kind sa sb sc hc with hw | ⟨hw, hx, hy, hz, hxy, hxz, hyz⟩
  · refine (ps_asg hE (tupG (F := F) (ts := [.nm i, .nm j, .nm l]) o.calm (consG (nameG o.hN o.nd hi (hf x (trLoc_loc hi)).1 (hf x (trLoc_loc hi)).2) (consG (nameG o.hN o.nd hj (hf y (trLoc_loc hj)).1 (hf y (trLoc_loc hj)).2) (consG (nameG o.hN o.nd hl (hf z (trLoc_loc hl)).1 (hf z (trLoc_loc hl)).2) nilG (by rfl)) (by rfl)) (by rfl)) rfl rfl rfl) (by rfl) hw).run pins s σ H D I (setQ ?_)
    exact w
  · have ne : ∀ {x y : Str} {i j : Nat}, trLoc T X.env.scope x = some i → trLoc T X.env.scope y = some j → x ≠ y → i ≠ j := fun {x y i j} hi hj hxy q => by
      subst q
      have h1 := trLoc_N hi
      have h2 := trLoc_N hj
      rw [h1] at h2
      exact hxy (Option.some.inj h2)
    refine (ps_par3 (i := i) (j := j) (l := l) o.calm o.nd (by rw [o.hN]; exact trLoc_N hi) (by rw [o.hN]; exact trLoc_N hj) (by rw [o.hN]; exact trLoc_N hl) (ne hi hj hxy) (ne hi hl hxz) (ne hj hl hyz) hx hy hz hA hw (by rfl)).run pins s σ H D I ?_
    obtain ⟨μ, ρ, st, S, w⟩ := w
    refine ⟨μ, ρ, st, S, ?_⟩
    simp only [hfe, R.bind_assoc] at w
    refine w.bind.mono fun ds s μ1 H1 P1 w1 vs rs => ?_
    unfold newT at w1
    by_cases hn : ds.length ≤ LINE
    · rw [decide_eq_true hn] at w1
      simp only [R.grd_true, R.bind_ok] at w1
      cases rs with
      | nil => exact w1.elim
      | cons r rs =>
        cases rs with
        | nil => exact w1.elim
        | cons r' rs =>
          cases rs with
          | nil => exact w1.elim
          | cons r'' rs =>
            cases rs with
            | cons _ _ => exact w1.elim
            | nil => exact ⟨_, _, _, rfl, (WP.ok (Φ := FQ X.K F D) P1.sto w1) _ ((((S.post P1).set r i).set r' j).set r'' l)⟩
    · rw [decide_eq_false hn] at w1
      exact w1.elim
/-! #### if, for, while -/
theorem ifS {c : Expr} {p q : List Stmt} {fc : Env → Store → R Bool} {fa fb : Env → Store → R (Fl × Nz.Env)} (hc : PT X c (tCo X.K F fc)) (ha : PSs X p (tS X.K F fa)) (hb : PSs X q (tS X.K F fb)) :
    PS X (.If c p q pos) (tS X.K F fun ρ st => (fc ρ st).bind fun k s => (match k with
    | true => fa ρ s
    | false => fb ρ s)) := impS (fun _ => ps_if hc ha hb) fun D σ H ⟨μ, ρ, st, S, w⟩ => by
  refine ⟨μ, ρ, st, S, w.bind.mono fun k s μ1 H1 P1 w1 => ?_⟩
  cases k with
  | true => rw [if_pos rfl]; exact ⟨μ1, ρ, s, S.post P1, w1⟩
  | false => rw [if_neg Bool.false_ne_true]; exact ⟨μ1, ρ, s, S.post P1, w1⟩
theorem nilS : PSs X [] (tS X.K F fun ρ st => .ok (.nx, ρ) st) := impSs pss_nil fun D σ H ⟨μ, ρ, st, S, w⟩ => (WP.ok (Φ := FQ X.K F D) S.sto w) σ S
theorem consS {s : Stmt} {r : List Stmt} {fa fb : Env → Store → R (Fl × Nz.Env)} (ha : PS X s (tS X.K F fa)) (hb : PSs X r (tS X.K F fb)) : PSs X (s :: r) (tS X.K F fun ρ st => (fa ρ st).bind fun p s => (match p.1 with
    | .nx => fb p.2 s
    | f => .ok (f, p.2) s)) := impSs (pss_cons ha hb) fun D σ H ⟨μ, ρ, st, S, w⟩ => by
  refine ⟨μ, ρ, st, S, w.bind.mono fun p s μ1 H1 P1 w1 => ?_⟩
  obtain ⟨fl, ρ'⟩ := p
  cases fl with
  | nx => exact fun σ' S' => ⟨μ1, ρ', s, S', w1⟩
  | bk => exact WP.ok (Φ := FQ X.K F D) P1.sto w1
  | ct => exact WP.ok (Φ := FQ X.K F D) P1.sto w1
  | ret d => exact WP.ok (Φ := FQ X.K F D) P1.sto w1
theorem forS {tg it : Expr} {body : List Stmt} {t : Nz.T} {fi : Env → Store → R Wk} {fb : Env → Store → R (Fl × Nz.Env)} (hp : PassesOwn (model X.prog X.w) X.A X.env X.xe) (hc : X.calm = true) (hi : PI X tg it (tIt X.K F fi)) (hg : PG X tg (gT X.K F t)) (hb : PSs X body (tS X.K F fb)) (hs : isSet it = false) :
    PS X (.For tg it body [] pos) (tS X.K F fun ρ st => (fi ρ st).bind fun w s => forLoop fb t ρ s w.wat w.its ρ s) := impS (fun _ => ps_for hp hc hi hg hb (setFold hs X.env)) fun D σ H ⟨μ, ρ, st, S, w⟩ => by
  refine ⟨μ, ρ, st, S, w.bind.mono fun wk s1 μ1 H1 P1 w1 J hJ => ?_⟩
  let Iv := fun (i : Nat) (σ2 : L2.St) (H2 : Hp) => ∃ (ρ' : Nz.Env) (s2 : Store) (μ2 : Mu), Sim X.K F μ2 ρ' s2 σ2 H2 ∧ Post X.K F μ1 H1 s2 μ2 H2 ∧ i ≤ wk.its.length ∧ WP X.K F μ1 H1 (forLoop fb t ρ s1 wk.wat (wk.its.drop i) ρ' s2) (FQ X.K F D)
  refine ⟨fun i m σ2 H2 => m = wk.its.length - i ∧ Iv i σ2 H2, ⟨wk.its.length, by simp, ρ, s1, μ1, S.post P1, .refl P1.sto, Nat.zero_le _, by simpa using w1⟩, ?_⟩
  rintro i m σ2 H2 ⟨rfl, ρ', s2, μ2, S2, P2, hi, w2⟩
  by_cases hlt : i < wk.its.length
  · have ed : wk.its.drop i = wk.its[i] :: wk.its.drop (i + 1) := List.drop_eq_getElem_cons hlt
    rw [ed] at w2
    simp only [forLoop] at w2
    obtain ⟨hw, w2⟩ := w2.grd
    obtain ⟨j1, j2, j3⟩ := hJ s2 μ2 H2 P2 hw
    refine .inr ⟨j1 i hlt, Iv (i + 1), fun σ' H' h' => ⟨wk.its.length - (i + 1), by omega, rfl, h'⟩, fun x H3 y => ?_⟩
    obtain ⟨d, hd, P3, rd⟩ := j3 i x H3 hlt y
    have hd' : d = wk.its[i] := by
      rw [List.getElem?_eq_getElem hlt] at hd
      exact (Option.some.inj hd).symm
    subst hd'
    have P13 := P2.trans P3
    cases ha : Nz.T.asg t wk.its[i] ρ' with
    | none => rw [ha] at w2; exact w2.elim
    | some ρ1 =>
      rw [ha] at w2
      refine ⟨μ2, ρ', s2, _, ρ1, S2.post P3, rd, ha, fun σ3 S3 _ => ⟨μ2, ρ1, s2, S3, (WP.anchor (μ' := μ2) (H' := H3) w2).mono fun p s4 μ4 H4 P4 w4 => ?_⟩⟩
      obtain ⟨fl, ρ4⟩ := p
      have P14 := P13.trans P4
      cases fl with
      | nx => exact fun σ' S' => let ⟨μ5, P5, S5⟩ := cutE_ok P1.sto P14 (S'.mask ρ); ⟨mask ρ ρ4, _, μ5, S5, P5, hlt, w4⟩
      | ct => exact fun σ' S' => let ⟨μ5, P5, S5⟩ := cutE_ok P1.sto P14 (S'.mask ρ); ⟨mask ρ ρ4, _, μ5, S5, P5, hlt, w4⟩
      | bk => exact fun σ' S' => let ⟨μ5, P5, S5⟩ := cutE_ok P1.sto P14 (S'.mask ρ); w4 μ5 H4 P5 σ' S5
      | ret v => exact fun u ru => w4 μ4 H4 P14 u ru
  · have e : i = wk.its.length := by omega
    subst e
    rw [List.drop_length] at w2
    simp only [forLoop] at w2
    obtain ⟨hw, w2⟩ := w2.grd
    obtain ⟨j1, j2, j3⟩ := hJ s2 μ2 H2 P2 hw
    exact .inl ⟨j2, w2 μ2 H2 P2 σ2 S2⟩
theorem whlS {c : Expr} {body : List Stmt} {fc : Env → Store → R Bool} {fb : Env → Store → R (Fl × Nz.Env)} (hp : PassesOwn (model X.prog X.w) X.A X.env X.xe) (hc : PT X c (tCo X.K F fc)) (hb : PSs X body (tS X.K F fb)) :
    PS X (.While c body [] pos) (tS X.K F fun ρ st => whlLoop fc fb ρ st WF ρ st) := impS (fun _ => ps_while hp hc hb) fun D σ H ⟨μ, ρ, st, S, w⟩ => by
  refine ⟨fun m σ2 H2 => ∃ (ρ' : Nz.Env) (s2 : Store) (μ2 : Mu), Sim X.K F μ2 ρ' s2 σ2 H2 ∧ Post X.K F μ H s2 μ2 H2 ∧ WP X.K F μ H (whlLoop fc fb ρ st m ρ' s2) (FQ X.K F D), ⟨WF, ρ, st, μ, S, .refl S.sto, w⟩, ?_⟩
  rintro m σ2 H2 ⟨ρ', s2, μ2, S2, P2, w2⟩
  cases m with
  | zero => exact w2.elim
  | succ n =>
    have w2 : WP X.K F μ H ((fc ρ' s2).bind fun b s => (match b with
      | false => .ok (.nx, ρ') s
      | true => (fb ρ' s).bind fun p s => (match p.1 with
        | .nx => whlLoop fc fb ρ st n (mask ρ p.2) (cutE st (mask ρ p.2) s)
        | .ct => whlLoop fc fb ρ st n (mask ρ p.2) (cutE st (mask ρ p.2) s)
        | .bk => .ok (.nx, mask ρ p.2) (cutE st (mask ρ p.2) s)
        | .ret v => .ok (.ret v, p.2) s))) (FQ X.K F D) := w2
    refine ⟨μ2, ρ', s2, S2, (WP.anchor (μ' := μ2) (H' := H2) w2).mono fun k s3 μ3 H3 P3 w3 => ?_⟩
    cases k with
    | false =>
      rw [if_neg Bool.false_ne_true]
      exact w3 μ3 H3 (P2.trans P3) σ2 (S2.post P3)
    | true =>
      rw [if_pos rfl]
      refine ⟨_, fun σ' H' h' => ⟨n, Nat.lt_succ_self n, h'⟩, μ3, ρ', s3, S2.post P3, (WP.anchor (μ' := μ3) (H' := H3) w3).mono fun p s4 μ4 H4 P4 w4 => ?_⟩
      obtain ⟨fl, ρ4⟩ := p
      have P14 := (P2.trans P3).trans P4
      cases fl with
      | nx => exact fun σ' S' => let ⟨μ5, P5, S5⟩ := cutE_ok S.sto P14 (S'.mask ρ); ⟨mask ρ ρ4, _, μ5, S5, P5, w4⟩
      | ct => exact fun σ' S' => let ⟨μ5, P5, S5⟩ := cutE_ok S.sto P14 (S'.mask ρ); ⟨mask ρ ρ4, _, μ5, S5, P5, w4⟩
      | bk => exact fun σ' S' => let ⟨μ5, P5, S5⟩ := cutE_ok S.sto P14 (S'.mask ρ); w4 μ5 H4 P5 σ' S5
      | ret v => exact fun u ru => w4 μ4 H4 P14 u ru
theorem Kit.inj {K : PySem.W.Frag} (k : Kit K F) {c d : Nat} {C : Addr} (h1 : F.cls c = some C) (h2 : F.cls d = some C) : c = d := by
  have e1 := k.cc c d C C h1 h2
  have e2 := k.cc d d C C h2 h2
  rw [e2] at e1
  simpa using (Option.some.inj e1).symm
/-! #### o.f = e -/
theorem setF_ok {K : PySem.W.Frag} {μ : Mu} {H : Hp} {st : Store} {α : Type} {x d : D} {v z : V} {i : Nat} {n : Str} {c : D → Store → R α} {Φ : α → Store → Mu → Hp → Prop} {Q : Hp → Prop} (nd : F.fld.Nodup) (hx : F.fld[i]? = some n) (S : Sto K F μ st H) (rx : Rp K μ H x v) (rd : Rp K μ H d z) (w : WP K F μ H ((setField x i d st).bind c) Φ)
    (hq : ∀ st' H', Post K F μ H st' μ H' → WP K F μ H' (c .non st') Φ → Q H') : ∃ (a C dx : Addr) (j : Nat) (fs : List (Str × V)), v = .ref a ∧ H a = some (.ins C dx fs) ∧ F.cls j = some C ∧ clsOf x st = some j ∧ fs.length < 1000 ∧ Q (upd H a (.ins C dx (L2.putF n z fs))) := by
  cases rx with
  | @ref l p b hl =>
    have w : WP K F μ H (R.bind (match st[l]? with
      | some (.ins c fs) => R.grd (decide (fs.length < 100)) (.ok .non (st.set l (.ins c (putF i d fs))))
      | _ => .no) c) Φ := w
    split at w
    · rename_i j fs hst
      by_cases hlen : fs.length < 100
      · rw [decide_eq_true hlen, R.grd_true, R.bind_ok] at w
        obtain ⟨C, dx, fv, h1, h2, h3⟩ := S.back hst hl rfl
        refine ⟨p, C, dx, j, fv, rfl, h2, h1, by simp only [clsOf, hst], by rw [← h3.length]; omega, ?_⟩
        have kt : ∀ a xs, H a = some (.tup xs) → upd H p (.ins C dx (L2.putF n z fv)) a = some (.tup xs) := fun a xs z => by rw [upd_ne (fun q => by subst q; rw [h2] at z; cases z)]; exact z
        have kf : ∀ a o x, H a = some (.frz o x) → upd H p (.ins C dx (L2.putF n z fv)) a = some (.frz o x) := fun a o x z => by rw [upd_ne (fun q => by subst q; rw [h2] at z; cases z)]; exact z
        have P : Post K F μ H (st.set l (.ins j (putF i d fs))) μ (upd H p (.ins C dx (L2.putF n z fv))) := Post.write S hst hl rfl h2 trivial ⟨C, dx, _, h1, upd_same, (putF_ok nd hx rd h3).mono (List.prefix_refl _) kt kf⟩
        refine hq _ _ P ?_
        revert w
        cases c .non (st.set l (.ins j (putF i d fs))) with
        | no => exact id
        | ok a s => exact fun w μ2 H2 P2 => w μ2 H2 (P.trans P2)
      · rw [decide_eq_false hlen] at w
        exact w.elim
    · exact w.elim
  | _ => exact w.elim
theorem stfS (o : Ok X F T G call) {n : Str} {i : Nat} {tpos : Pos} (hx : T.fld[i]? = some n) (he : PE X e (tE X.K F f)) (ha : PE X a (tE X.K F g)) :
    PS X (.Assign [.Attribute a n tpos] e pos) (tS X.K F fun ρ st => (f ρ st).bind fun d s => (g ρ s).bind fun x s => (setField x i d s).bind fun _ s => .ok (.nx, ρ) s) := by
  refine impS (fun _ => ps_fld ha he (by cases e <;> rfl)) fun D σ H ⟨μ, ρ, st, S, w⟩ => ?_
  refine ⟨μ, ρ, st, S, w.bind.mono fun d s μ1 H1 P1 w1 z rz => ?_⟩
  refine ⟨μ1, ρ, s, S.post P1, w1.bind.mono fun x s2 μ2 H2 P2 w2 v rv => ?_⟩
  obtain ⟨p, C, dx, j, fs, e1, e2, e3, e4, e5, q⟩ := setF_ok (F := F) (n := n) (by rw [o.fld]; exact o.fnd) (by rw [o.fld]; exact hx) P2.sto rv (rz.post P2) w2 fun st' H' P w4 => (WP.ok (Φ := FQ X.K F D) P.sto w4) _ (((S.post P1).post P2).post P)
  exact ⟨p, C, dx, fs, e1, e2, o.kit.cl j C e3, o.noat j C n e3 (List.mem_of_getElem? hx), e5, q⟩
theorem augfS (o : Ok X F T G call) {n : Str} {i : Nat} {tpos : Pos} {op : Operator} {ob : BinO} (hx : T.fld[i]? = some n) (ho : trBin op = some ob) (hp : ob ≠ .pow) (he : PE X e (tE X.K F f)) (ha : PE X a (tE X.K F g)) :
    PS X (.AugAssign (.Attribute a n tpos) op e pos) (tS X.K F fun ρ st => (g ρ st).bind fun x s0 => (field x i s0).bind fun v s => (f ρ s).bind fun z s => R.grd (clsOf x s0 == clsOf x s) (match v, z with
    | .int _, .int _ => (binop ob v z s).bind fun d s => (setField x i d s).bind fun _ s => .ok (.nx, ρ) s
    | _, _ => .no)) := by
  refine impS (fun _ => ps_fldaug ha he (rd := ipA ob) (ipA_ok ho hp)) fun D σ H ⟨μ, ρ, st, S, w⟩ => ?_
  refine ⟨μ, ρ, st, S, w.bind.mono fun x s μ1 H1 P1 w1 v rv => ?_⟩
  cases hfd : field x i s with
  | no => rw [hfd] at w1; exact w1.elim
  | ok d s' =>
    rw [hfd] at w1
    obtain ⟨rfl, a, C, dx, c, fv, z, h1, h2, h3, h4, h5⟩ := field_ok (F := F) (by rw [o.fld]; exact o.fnd) (by rw [o.fld]; exact hx) P1.sto rv hfd
    have hcx : clsOf x s' = some c := by
      cases rv with
      | @ref l p b hl =>
        simp only [field] at hfd
        split at hfd
        · rename_i c' fs hst
          obtain ⟨C', dx', fv', g1, g2, g3⟩ := P1.sto.back hst hl rfl
          cases h1
          rw [h3] at g2
          cases g2
          simp only [clsOf, hst]
          rw [Kit.inj o.kit g1 h2]
        · cases hfd
      | _ => simp only [field] at hfd; cases hfd
    refine ⟨a, C, dx, fv, z, h1, h3, o.kit.cl c C h2, o.noat c C n h2 (List.mem_of_getElem? hx), h4, μ1, ρ, s', S.post P1, (WP.bind (r := f ρ s') w1).mono fun y s2 μ2 H2 P2 w2 u ru => ?_⟩
    obtain ⟨hcl, w2⟩ := w2.grd
    obtain ⟨i1, i2, i3, e1, e2, hk, w3⟩ := augQ P2.sto (h5.post P2) ru w2
    refine ⟨i1, i2, i3, e1, e2, hk, ?_⟩
    obtain ⟨p, C', dx', j, fs, e1, e2, e3, e4, e5, q⟩ := setF_ok (F := F) (n := n) (by rw [o.fld]; exact o.fnd) (by rw [o.fld]; exact hx) P2.sto (rv.post P2) (.int i3) w3 fun st' H' P w4 => (WP.ok (Φ := FQ X.K F D) P.sto w4) _ (((S.post P1).post P2).post P)
    rw [h1] at e1
    cases e1
    have : j = c := by
      have := eq_of_beq hcl
      rw [hcx, e4] at this
      exact (Option.some.inj this).symm
    subst this
    rw [h2] at e3
    cases e3
    exact ⟨dx', fs, e2, e5, q⟩
end
end Nz
namespace Nz
open PySem L2 PyProof.Rows
/-! ### statements: a dict locked, a last target with a star -/
section
variable {X : Cx} {F : Nm} {T₀ : Tab} {G : Ctx} {call : Nat → List D → Store → R D}
theorem lckS {s : Stmt} {f : Env → Store → R D} {g : Env → Store → R (Fl × Nz.Env)} (hs : PS X s (tS X.K F g)) : PS X s (tS X.K F fun ρ st => lckR (f ρ st) st fun s => g ρ s) :=
  impS (fun _ => ps_lock hs) fun D σ H ⟨μ, ρ, st, S, w⟩ => by
    obtain ⟨l, a, u, t, kvs, hu, mu, k⟩ := lck_ok S.sto w
    refine ⟨a, u, hu, mu, fun od => ?_⟩
    obtain ⟨P, w1⟩ := k od
    refine ⟨μ, ρ, _, S.post P, w1.mono fun p s μ1 H1 P1 w2 => ?_⟩
    obtain ⟨hz, s2, P2, q, w3⟩ := w2
    have sim : ∀ ρ' σ', Sim X.K F μ1 ρ' s σ' H1 → Sim X.K F μ1 ρ' s2 σ' (upd H1 a u) := fun ρ' σ' S' =>
      ⟨S'.len, fun i d e => let ⟨v, h, r⟩ := S'.env i d e; ⟨v, h, q d v r⟩, P2.sto⟩
    obtain ⟨fl, ρ1⟩ := p
    cases fl with
    | nx => exact fun σ' S' => ⟨hz, w3 σ' (sim _ _ S')⟩
    | bk => exact fun σ' S' => ⟨hz, w3 σ' (sim _ _ S')⟩
    | ct => exact fun σ' S' => ⟨hz, w3 σ' (sim _ _ S')⟩
    | ret d => exact fun v rv => ⟨hz, w3 v (q d v rv)⟩
theorem wrapSt {s : Stmt} {E : Nz.S} {i : Nz.Iw} (h : PS X s (tS X.K F (ex G call E))) : PS X s (tS X.K F (ex G call (wrapS i E))) := by
  cases i <;> first
    | exact h
    | exact impS (fun _ => lckS (f := ev G call _) h) fun D σ H ⟨μ, ρ, st, S, w⟩ => ⟨μ, ρ, st, S, by rw [wrapS, ex] at w; exact w⟩
/-! #### a, *b = a tuple -/
section
variable {prog : Program} {w : World} {A : Around} {E : Value → Shared → Prop} {s : Shared}
theorem star_items {l : Addr} {items : Array Value} {i : Nat} {Q : List Value → Shared → Prop} (hl : IsTup s.heap l items) (hh : A.handled = none) (hi : i ≤ items.size) (hz : items.size ≤ 16384)
    (h : ∀ (h₂ : Heap) (tk : Nat), (∀ b o, s.heap.get? b = some o → h₂.get? b = some o) → Q (items.toList.take i ++ [.ref h₂.objs.size]) { s with heap := h₂.push { cls := .type "list", data := .seq (items.toList.drop i).toArray }, toks := tk }) :
    wpAny (model prog w) A (unpackItems (.ref l) (i + 1) (some i)) Q E s := by
  have lt : l ≠ s.heap.objs.size := by obtain ⟨o, ho, _⟩ := hl; exact Nat.ne_of_lt (Heap.lt_size ho)
  have lz : (items.toList.take i).length = i := by rw [List.length_take, Array.length_toList]; omega
  unfold unpackItems
  refine wpAny_bind ?_
  unfold notIterableAtAll
  refine wpAny_bind (wpAny_specialOf hl.typeIs slot_tuple_iter.lookup (wpAny_pure ?_))
  simp only [Bool.false_eq_true, if_false]
  refine wpAny_bind (wpAny_holding (iter_tuple hl (wpAny_bind (wpAny_holding (draw_tuple lt i 0 _ _ ⟨_, Heap.get?_push_size _ rfl, rfl, rfl⟩ (hl.push _) (by omega) fun h₁ hit hs => ?_)))))
  have hl1 : IsTup h₁ l items := (hl.push _).extBut hs.extBut lt
  rw [Nat.zero_add] at hit
  obtain ⟨oi, hoi, hoi2⟩ := hit
  obtain ⟨ol, hol, hol2⟩ := hl1
  rw [List.drop_zero, if_neg (by rw [lz]; exact Nat.lt_irrefl _)]
  refine wpAny_bind (wpAny_holding (PySem.W.kun_collect (s := { s with heap := h₁ }) (T := "tuple_iterator") (.inr (.inr (.inr rfl))) (Walks.tuple (A := A.in1) hh s.heap.objs.size l lt items) (fun j u st => st.1.typeIs) (k := i) hi ⟨⟨oi, hoi, hoi2⟩, ⟨ol, hol, hol2⟩⟩ (Heap.lt_size hoi) (Heap.lt_size hol) (fun h₂ tk hk => ?_) (by rw [sizeLine_eq]; omega)))
  have e0 : i + 1 - 1 - i = 0 := by omega
  simp only [e0, Nat.not_lt_zero, if_false, Nat.sub_zero, List.take_length, List.drop_length, List.append_nil]
  refine wpAny_bind (wpAny_newList (wpAny_pure (h h₂ tk fun b o e => ?_)) (by rw [List.length_drop, Array.length_toList, sizeLine_eq]; omega))
  have nb : b ≠ s.heap.objs.size := Nat.ne_of_lt (Heap.lt_size e)
  exact hk b o nb (hs.extBut b o nb (Heap.get?_push_of_some _ e))
end
/-- targets ahead of one with a star -/
def gStar (K : PySem.W.Frag) (i : Nat) (t : TGs) : TG := fun v σ H Q => ∃ a xs, v = .ref a ∧ SqT K H a xs ∧ i ≤ xs.length ∧ xs.length ≤ 1000 ∧ ∀ p, H p = none → t (xs.take i ++ [.ref p]) σ (upd H p (.lst (xs.drop i))) Q
theorem pg_star {es : List Expr} {k : Nat} {pos : Pos} {t : TGs} {i : Nat} (hc : X.calm = true) (h : PGs X es t) (hn : (assignEach es X.env).length = i + 1) (hst : (assignEach es X.env).findIdx? (·.1) = some i) : PG X (.Tuple es k pos) (gStar X.K i t) := by
  refine ⟨fun pins s σ H v u Q I r hw => ?_⟩
  obtain ⟨a, xs, e1, hq, hl, hl2, hw⟩ := hw
  subst e1
  cases r
  obtain ⟨its, rv, ht, hz⟩ := I.tuple hq
  have hlen := rv.length
  rw [assign_Tuple]
  refine wpAny_bind (wpAny_standAt ?_)
  unfold unpack
  rw [hn, hst]
  refine wpAny_bind (wpAny_holding (star_items ht (I.ok.hd hc) (by rw [List.size_toArray]; omega) (by rw [List.size_toArray]; omega) fun h₂ tk hx => ?_))
  have I1 : Inv X pins σ H { s with heap := h₂, toks := tk } := I.kept hx
  have rd : Vals (xs.drop i) (its.drop i) := by
    clear hw hq hl hl2 hlen hz ht hst hn
    induction i generalizing xs its with
    | zero => exact rv
    | succ i ih => cases rv with
      | nil => exact .nil
      | cons _ t => exact ih _ _ t
  have rt : Vals (xs.take i) (its.take i) := by
    clear hw hq hl hl2 hlen hz ht hst hn rd
    induction i generalizing xs its with
    | zero => exact .nil
    | succ i ih => cases rv with
      | nil => exact .nil
      | cons r t => exact .cons r (ih _ _ t)
  have rr : ∀ {as bs : List V} {us ws : List Value}, Vals as us → Vals bs ws → Vals (as ++ bs) (us ++ ws) := fun {as bs us ws} g1 g2 => by
    induction g1 with
    | nil => exact g2
    | cons r _ ih => exact .cons r ih
  have I2 : Inv X pins σ (upd H h₂.objs.size (.lst (xs.drop i))) { s with heap := h₂.push { cls := .type "list", data := .seq (its.drop i).toArray }, toks := tk } :=
    I1.laid (a := h₂.objs.size) (t' := tk) (fun b o e => Heap.get?_push_of_some _ e) (Nat.le_refl _) (show ObjOk X.prog X.w _ _ _ (.lst (xs.drop i)) from ⟨by rw [List.length_drop]; omega, its.drop i, 0, rd, Heap.get?_push_size _ rfl⟩)
  exact h.run pins _ σ _ _ _ Q I2 (rr rt (.cons (show L2.RelV (V.ref h₂.objs.size) (Value.ref h₂.objs.size) from rfl) .nil)) (hw _ (I1.hok.fresh (Nat.le_refl _)))
theorem starLast_ok : ∀ {es fs : List Expr} {r : Expr}, starLast es = some (fs, r) → (∃ p, es = fs ++ [.Starred r p]) ∧ ∀ e ∈ fs, isStar e = false
  | [], _, _, h => by simp only [starLast, reduceCtorEq] at h
  | e :: es, fs, r, h => by
    unfold starLast at h
    split at h
    · rename_i heq
      cases heq
      cases h
      exact ⟨⟨_, rfl⟩, fun _ m => by cases m⟩
    · cases h
    · rename_i e' es' h1 h2 heq
      cases heq
      split at h
      · rename_i fs' r' hq
        cases h
        obtain ⟨⟨p, rfl⟩, h3⟩ := starLast_ok hq
        refine ⟨⟨p, rfl⟩, fun e m => ?_⟩
        rcases List.mem_cons.mp m with rfl | m
        · cases e <;> first | rfl | exact absurd rfl (h2 _ _)
        · exact h3 e m
      · cases h
    · cases h
theorem unpG {n : Nat} (hN : X.N = T₀.N) (nd : X.N.Nodup) (hc : X.calm = true) {sc : Scope} (hf : FnLoc X sc) {r : Expr} {p : Pos} {tr : Nz.T} (hr : trT T₀ sc n r = some tr) : ∀ (fs : List Expr) (ts : List Nz.T), (∀ e ∈ fs, isStar e = false) → fs.mapM (trT T₀ sc n) = some ts →
    PGs X (fs ++ [.Starred r p]) (gTs X.K F (ts ++ [tr])) ∧ ts.length = fs.length ∧ (assignEach (fs ++ [.Starred r p]) X.env).length = fs.length + 1 ∧ (assignEach (fs ++ [.Starred r p]) X.env).findIdx? (·.1) = some fs.length := by
  intro fs
  induction fs with
  | nil =>
    intro ts _ q
    simp only [List.mapM_nil, Option.pure_def, Option.some.injEq] at q
    subst q
    refine ⟨?_, rfl, rfl, rfl⟩
    refine ⟨fun pins s σ H vs us Q I rv w => ?_⟩
    obtain ⟨μ, ρ, st, ds, ρ', S, rs, e, q⟩ := w
    cases rs with
    | nil => simp only [List.nil_append, Nz.T.asgs] at e; cases e
    | @cons d v ds vs rd rs =>
      cases rs with
      | cons _ _ =>
        simp only [List.nil_append, Nz.T.asgs] at e
        cases hq : Nz.T.asg tr d ρ with
        | none => rw [hq] at e; cases e
        | some ρ1 => rw [hq] at e; cases e
      | nil =>
        simp only [List.nil_append, Nz.T.asgs] at e
        cases hq : Nz.T.asg tr d ρ with
        | none => rw [hq] at e; cases e
        | some ρ1 =>
          rw [hq] at e
          cases e
          cases rv with
          | cons ru t =>
            cases t
            have g := trT_ok (F := F) hN nd hc hf n hr
            show wpAny _ _ (assignInOrder [assign r X.env] _) _ _ _
            refine assignInOrder_cons (thn (g.run pins s σ H _ _ _ I ru ⟨μ, ρ, st, d, _, S, rd, hq, fun σ' S' n' => ?_⟩) fun _ s1 z => assignInOrder_nil z)
            exact q σ' S' ⟨n'.1, fun i hi => n'.2 i (by simpa [Nz.T.slotss] using hi)⟩
  | cons e fs ih =>
    intro ts hs q
    rw [List.mapM_cons] at q
    cases q1 : trT T₀ sc n e with
    | none => simp only [q1, Option.bind_eq_bind, Option.bind_none, reduceCtorEq] at q
    | some t =>
      cases q2 : fs.mapM (trT T₀ sc n) with
      | none => simp only [q1, q2, Option.bind_eq_bind, Option.bind_none, Option.bind_some, reduceCtorEq] at q
      | some ts' =>
        simp only [q1, q2, Option.bind_eq_bind, Option.bind_some, Option.pure_def, Option.some.injEq] at q
        subst q
        obtain ⟨a1, a2, a3, a4⟩ := ih ts' (fun e h => hs e (List.mem_cons_of_mem _ h)) q2
        have hh : assignEach (e :: (fs ++ [.Starred r p])) X.env = (false, assign e X.env) :: assignEach (fs ++ [.Starred r p]) X.env := by
          have := hs e (List.mem_cons_self ..)
          cases e <;> first | rfl | cases this
        refine ⟨consG (trT_ok hN nd hc hf n q1) a1 (by rw [show e :: fs.append [.Starred r p] = e :: (fs ++ [.Starred r p]) from rfl, hh]; rfl), by simp [a2], by rw [List.cons_append, hh]; simp [a3], ?_⟩
        rw [List.cons_append, hh, List.findIdx?_cons, a4]; rfl
theorem asgs_snoc : ∀ {ts : List Nz.T} {ds : List D} {tr : Nz.T} {d : D} {ρ ρ1 ρ2 : Nz.Env}, Nz.T.asgs ts ds ρ = some ρ1 → Nz.T.asg tr d ρ1 = some ρ2 → Nz.T.asgs (ts ++ [tr]) (ds ++ [d]) ρ = some ρ2
  | [], [], _, _, _, _, _, h, h2 => by
    simp only [Nz.T.asgs, Option.some.injEq] at h
    subst h
    simp only [List.nil_append, Nz.T.asgs, h2]
  | [], _ :: _, _, _, _, _, _, h, _ => by simp only [Nz.T.asgs] at h; cases h
  | _ :: _, [], _, _, _, _, _, h, _ => by simp only [Nz.T.asgs] at h; cases h
  | t :: ts, d :: ds, _, _, ρ, _, _, h, h2 => by
    simp only [Nz.T.asgs] at h
    cases e : Nz.T.asg t d ρ with
    | none => rw [e] at h; cases h
    | some ρ0 =>
      rw [e] at h
      simp only [List.cons_append, Nz.T.asgs, e]
      exact asgs_snoc h h2
theorem unpS {n : Nat} {es fs : List Expr} {k : Nat} {e r : Expr} {f : Env → Store → R D} {ts : List Nz.T} {tr : Nz.T} {pos pos' : Pos} (hN : X.N = T₀.N) (nd : X.N.Nodup) (hc : X.calm = true) (hf : FnLoc X X.env.scope) (h0 : starLast es = some (fs, r)) (h1 : fs.mapM (trT T₀ X.env.scope n) = some ts) (h2 : trT T₀ X.env.scope n r = some tr)
    (he : PE X e (tE X.K F f)) (hs : swapsWith e (some (.Tuple es k pos')) pos.line X.env = pure false) (hw : swappedStores [.Tuple es k pos'] e X.env = pure none) :
    PS X (.Assign [.Tuple es k pos'] e pos) (tS X.K F fun ρ st => (f ρ st).bind fun d s => (match d with
    | .tup ds => R.grd (decide (ts.length ≤ ds.length) && decide (ds.length ≤ 1000)) (match Nz.T.asgs ts (ds.take ts.length) ρ with
      | some ρ1 => (match Nz.T.asg tr (.ref s.length) ρ1 with
        | some ρ2 => .ok (.nx, ρ2) (s ++ [.lst (ds.drop ts.length)])
        | none => .no)
      | none => .no)
    | _ => .no)) := by
  obtain ⟨⟨p, rfl⟩, h3⟩ := starLast_ok h0
  obtain ⟨a1, a2, a3, a4⟩ := unpG (F := F) (p := p) hN nd hc hf h2 fs ts h3 h1
  refine impS (fun _ => ps_asg he (pg_star hc a1 a3 a4) hs hw (by rfl)) fun D σ H ⟨μ, ρ, st, S, w⟩ => ?_
  refine ⟨μ, ρ, st, S, w.bind.mono fun d s μ1 H1 P1 w1 v rv => ?_⟩
  cases rv with
  | @tup ds a vs hq rs =>
    simp only at w1
    obtain ⟨hg, w1⟩ := w1.grd
    simp only [Bool.and_eq_true, decide_eq_true_eq] at hg
    have hl := rs.length
    refine ⟨a, vs, rfl, .of hq, by omega, by omega, fun q hqn => ?_⟩
    cases g1 : Nz.T.asgs ts (ds.take ts.length) ρ with
    | none => rw [g1] at w1; exact w1.elim
    | some ρ1 =>
      rw [g1] at w1
      simp only at w1
      cases g2 : Nz.T.asg tr (.ref s.length) ρ1 with
      | none => rw [g2] at w1; exact w1.elim
      | some ρ2 =>
        rw [g2] at w1
        have kt : ∀ b xs, H1 b = some (.tup xs) → upd H1 q (.lst (vs.drop fs.length)) b = some (.tup xs) := fun b xs e => by
          rw [upd_ne (fun z => by subst z; rw [hqn] at e; cases e)]; exact e
        have kf : ∀ b o w, H1 b = some (.frz o w) → upd H1 q (.lst (vs.drop fs.length)) b = some (.frz o w) := fun b o w e => by
          rw [upd_ne (fun z => by subst z; rw [hqn] at e; cases e)]; exact e
        have P := Post.push (u := .lst (vs.drop fs.length)) (o := .lst (ds.drop ts.length)) P1.sto hqn ⟨_, upd_same, by rw [a2]; exact (rs.drop _).mono (List.prefix_append _ _) kt kf⟩
        refine ⟨μ1 ++ [(q, false)], ρ, _, ds.take ts.length ++ [.ref s.length], ρ2, (S.post P1).post P, ?_, asgs_snoc g1 g2, fun σ' S' _ => w1 _ _ P σ' S'⟩
        rw [a2]
        exact ((rs.take _).mono (List.prefix_append _ _) kt kf).append (.cons (.ref (b := false) (by rw [← P1.sto.len]; simp)) .nil)
  | _ => exact w1.elim
end
end Nz
namespace Nz
open PySem L2 PyProof.Rows
structure AllS (F : Nm) (T : Tab) (G : Ctx) (call : Nat → List D → Store → R D) (n : Nat) : Prop where
  s : ∀ {X : Cx} {s : Stmt} {E : Nz.S}, Ok X F T G call → FnLoc X X.env.scope → PassesOwn (model X.prog X.w) X.A X.env X.xe → trS T X.env.scope n s = some E → PS X s (tS X.K F (ex G call E))
  ss : ∀ {X : Cx} {s : List Stmt} {E : Nz.Ss}, Ok X F T G call → FnLoc X X.env.scope → PassesOwn (model X.prog X.w) X.A X.env X.xe → trSs T X.env.scope n s = some E → PSs X s (tS X.K F (exs G call E))
section
variable {F : Nm} {T : Tab} {G : Ctx} {call : Nat → List D → Store → R D} {n : Nat}
/-- name = value, of any kind -/
theorem setS {X : Cx} {x : Str} {i : Nat} {e : Expr} {E : Nz.E} {pos pos' : Pos} (o : Ok X F T G call) (hf : FnLoc X X.env.scope) (hi : trLoc T X.env.scope x = some i) (h2 : isComp2 e = false) (h3 : isItmC e = false) (he : trE T n X.env.scope e = some E) :
    PS X (.Assign [.Name x pos'] e pos) (tS X.K F (ex G call (.set (.nm i) E))) := by
  refine ⟨fun pins s σ H D I w => ?_⟩
  have pe := (allE n).e o he
  by_cases hc : isComp e = true
  · cases e with
    | ListComp elt gs scope p2 =>
      obtain ⟨m, rfl⟩ : ∃ m, n = m + 1 := by
        cases n with
        | zero => simp only [trE, reduceCtorEq] at he
        | succ m => exact ⟨m, rfl⟩
      obtain ⟨tg, it, ifs, rfl, hs, own, t, ii, e, c, rfl, hno, hsl, hB, hI, hg, ht, he'⟩ := s_comp (allE m) o (by match gs, h2 with | [], _ => simp | [_], _ => simp) he
      have hno := hno (by simpa [isItmC] using h3)
      rw [hno] at pe w
      have hb : X.env.blockKind = .function := by unfold Env.blockKind; rw [I.ok.kind]; rfl
      have hsw : ∃ b, swapsWith (.ListComp elt [⟨tg, it, ifs, 0⟩] scope p2) (some (.Name x pos')) pos.line X.env = pure b ∧ (b = true → X.env.scope.names.lookup x = some .local) := by
        refine ⟨_, rfl, fun h => ?_⟩
        simp only [Bool.and_eq_true] at h
        exact eq_of_beq h.1.1.2
      obtain ⟨b, hb1, hb2⟩ := hsw
      cases b with
      | false => exact (ps_set (i := i) o.nd (by rw [o.hN]; exact trLoc_N hi) (trLoc_loc hi) pe hb1 (hf x (trLoc_loc hi)).2).run pins s σ H D I (setQ1 w)
      | true =>
        refine (ps_setLc (i := i) o.calm o.nd (by rw [o.hN]; exact trLoc_N hi) (hb2 rfl) hb1 hI hB hg ht he' (setFold hs X.env)).run pins s σ H D I ?_
        exact compE (elt := elt) (tg := tg) (iter := it) (ifs := ifs) (scope := scope) (pos := p2) hsl (setQ1 w)
    | SetComp _ _ _ _ => 
      cases n with
      | zero => simp only [trE, reduceCtorEq] at he
      | succ m => simp only [trE, reduceCtorEq] at he
    | DictComp _ _ _ _ _ => cases h2
    | _ => cases hc
  · exact (ps_set (i := i) o.nd (by rw [o.hN]; exact trLoc_N hi) (trLoc_loc hi) pe (compN (by simpa using hc)) (hf x (trLoc_loc hi)).2).run pins s σ H D I (setQ1 w)
theorem swNone {e tg : Expr} {env : PySem.Env} (h : isTup e = false) : swappedStores [tg] e env = pure none := by
  cases e <;> first | (cases tg <;> rfl) | cases h
theorem swNone4 {e : Expr} {es : List Expr} {k : Nat} {p : Pos} {env : PySem.Env} (h : (isTup e && decide (es.length < 4)) = false) : swappedStores [.Tuple es k p] e env = pure none := by
  by_cases h1 : isTup e = true
  · rw [h1, Bool.true_and, decide_eq_false_iff_not] at h
    cases e <;> first | (cases h1; done) | skip
    unfold swappedStores
    have e1 : (es.length == 2 || es.length == 3) = false := by
      rw [Bool.or_eq_false_iff]
      constructor <;> (simp only [beq_eq_false_iff_ne]; omega)
    simp only [e1, Bool.not_false, Bool.true_or, if_true]
  · exact swNone (by simpa using h1)
theorem setTS {X : Cx} {es : List Expr} {k : Nat} {t : Nz.T} {e : Expr} {E : Nz.E} {pos pos' : Pos} (o : Ok X F T G call) (hf : FnLoc X X.env.scope) (h1 : isComp e = false) (h2 : (isTup e && decide (es.length < 4)) = false) (ht : trT T X.env.scope n (.Tuple es k pos') = some t) (he : trE T n X.env.scope e = some E) :
    PS X (.Assign [.Tuple es k pos'] e pos) (tS X.K F (ex G call (.set t E))) :=
  impS (fun _ => ps_asg ((allE n).e o he) (trT_ok o.hN o.nd o.calm hf n ht) (compN (t := some (.Tuple es k pos')) (l := pos.line) (env := X.env) h1) (swNone4 h2) (by rfl)) fun D σ H w => setQ w
theorem trIx_sl {sc : Scope} {i : Expr} {E : Nz.E} (h : trIx T n sc i = some E) : ∀ lo hi st p, i ≠ .Slice lo hi st p := by
  intro lo hi st p q
  subst q
  cases n with
  | zero => simp only [trIx, reduceCtorEq] at h
  | succ m => simp only [trIx, reduceCtorEq] at h
theorem s_asg {X : Cx} {ts : List Expr} {e : Expr} {pos : Pos} {E : Nz.S} (o : Ok X F T G call) (hf : FnLoc X X.env.scope) (h : trS T X.env.scope (n + 1) (.Assign ts e pos) = some E) : PS X (.Assign ts e pos) (tS X.K F (ex G call E)) := by
  cases ts with
  | nil => simp only [trS, reduceCtorEq] at h
  | cons t ts =>
  cases ts with
  | cons _ _ => simp only [trS, reduceCtorEq] at h
  | nil =>
  cases t with
  | Name x p =>
    simp only [trS] at h
    split at h
    · cases h
    rename_i hc2
    cases q1 : trLoc T X.env.scope x with
    | none => rw [q1] at h; cases h
    | some i =>
      cases q2 : trE T n X.env.scope e with
      | none => rw [q1, q2] at h; cases h
      | some E1 => rw [q1, q2] at h; cases h; exact setS o hf q1 (show isComp2 e = false ∧ isItmC e = false by simpa using hc2).1 (show isComp2 e = false ∧ isItmC e = false by simpa using hc2).2 q2
  | Tuple es k p =>
    simp only [trS] at h
    split at h
    · rename_i x px y py a b k2 p2
      split at h
      · cases h
      · rename_i hc
        simp only [Bool.or_eq_true, not_or, Bool.not_eq_true] at hc
        obtain ⟨⟨sa, sb⟩, hc⟩ := hc
        cases q1 : trLoc T X.env.scope x with
        | none => simp only [q1, reduceCtorEq] at h
        | some i =>
          cases q2 : trLoc T X.env.scope y with
          | none => simp only [q1, q2, reduceCtorEq] at h
          | some j =>
            cases q3 : trE T n X.env.scope a with
            | none => simp only [q1, q2, q3, reduceCtorEq] at h
            | some E1 =>
              cases q4 : trE T n X.env.scope b with
              | none => simp only [q1, q2, q3, q4, reduceCtorEq] at h
              | some E2 =>
                simp only [q1, q2, q3, q4, Option.some.injEq] at h
                subst h
                exact parS o hf q1 q2 sa sb hc ((allE n).e o q3) ((allE n).e o q4)
    · rename_i x px y py z pz a b c k2 p2
      split at h
      · cases h
      · rename_i hc
        simp only [Bool.or_eq_true, not_or, Bool.not_eq_true] at hc
        obtain ⟨⟨⟨sa, sb⟩, sc⟩, hc⟩ := hc
        cases q1 : trLoc T X.env.scope x with
        | none => simp only [q1, reduceCtorEq] at h
        | some i =>
          cases q2 : trLoc T X.env.scope y with
          | none => simp only [q1, q2, reduceCtorEq] at h
          | some j =>
            cases q3 : trLoc T X.env.scope z with
            | none => simp only [q1, q2, q3, reduceCtorEq] at h
            | some l =>
              cases q4 : trE T n X.env.scope (.Tuple [a, b, c] k2 p2) with
              | none => simp only [q1, q2, q3, q4, reduceCtorEq] at h
              | some E1 =>
                simp only [q1, q2, q3, q4, Option.some.injEq] at h
                subst h
                cases n with
                | zero => simp only [trE, reduceCtorEq] at q4
                | succ m =>
                  have hE := (allE (m + 1)).e o q4
                  simp only [trE] at q4
                  cases q5 : trEd T m X.env.scope [a, b, c] with
                  | none => rw [q5] at q4; cases q4
                  | some Es =>
                    rw [q5] at q4
                    cases q4
                    exact par3S (fe := ev G call (.tup Es)) (k := evs G call Es) o hf q1 q2 q3 sa sb sc hc hE ((allE m).ed o q5) fun ρ st => by rw [ev]
    · split at h
      · cases h
      · rename_i hc
        simp only [Bool.or_eq_true, not_or, Bool.not_eq_true] at hc
        split at h
        · rename_i fs r hst
          split at h
          · cases h
          rename_i htp
          cases q1 : fs.mapM (trT T X.env.scope n) with
          | none => simp only [q1, reduceCtorEq] at h
          | some ts =>
            cases q2 : trT T X.env.scope n r with
            | none => simp only [q1, q2, reduceCtorEq] at h
            | some tr =>
              cases q3 : trE T n X.env.scope e with
              | none => simp only [q1, q2, q3, reduceCtorEq] at h
              | some E1 =>
                simp only [q1, q2, q3, Option.some.injEq] at h
                subst h
                refine impS (fun _ => unpS o.hN o.nd o.calm hf hst q1 q2 ((allE n).e o q3) (compN (t := some (.Tuple es k p)) (l := pos.line) (env := X.env) hc.1) (swNone (by simpa using htp))) fun D σ H ⟨μ, ρ, st, S, w⟩ => ⟨μ, ρ, st, S, by rw [ex] at w; exact w⟩
        · cases q1 : trT T X.env.scope n (.Tuple es k p) with
          | none => simp only [q1, reduceCtorEq] at h
          | some t =>
            cases q2 : trE T n X.env.scope e with
            | none => simp only [q1, q2, reduceCtorEq] at h
            | some E1 =>
              simp only [q1, q2, Option.some.injEq] at h
              subst h
              exact setTS o hf hc.1 hc.2 q1 q2
  | Subscript a i p =>
    simp only [trS] at h
    cases q1 : trE T n X.env.scope a with
    | none => rw [q1] at h; cases h
    | some E1 =>
      cases q2 : trIx T n X.env.scope i with
      | none => rw [q1, q2] at h; cases h
      | some E2 =>
        cases q3 : trE T n X.env.scope e with
        | none => rw [q1, q2, q3] at h; cases h
        | some E3 =>
          rw [q1, q2, q3] at h; cases h
          exact stiS o.hu (trIx_sl q2) ((allE n).e o q3) ((allE n).e o q1) ((allE n).ix o q2).1
  | Attribute a f p =>
    simp only [trS] at h
    cases q1 : trE T n X.env.scope a with
    | none => rw [q1] at h; cases h
    | some E1 =>
      cases q2 : ixOf f T.fld with
      | none => rw [q1, q2] at h; cases h
      | some i =>
        cases q3 : trE T n X.env.scope e with
        | none => rw [q1, q2, q3] at h; cases h
        | some E3 =>
          rw [q1, q2, q3] at h; cases h
          exact stfS o (ixOf_ok q2) ((allE n).e o q3) ((allE n).e o q1)
  | _ => simp only [trS, reduceCtorEq] at h
theorem s_aug {X : Cx} {t : Expr} {op : Operator} {e : Expr} {pos : Pos} {E : Nz.S} (o : Ok X F T G call) (hf : FnLoc X X.env.scope) (h : trS T X.env.scope (n + 1) (.AugAssign t op e pos) = some E) : PS X (.AugAssign t op e pos) (tS X.K F (ex G call E)) := by
  simp only [trS] at h
  cases q0 : trBin op with
  | none => rw [q0] at h; cases h
  | some ob =>
    cases q1 : trE T n X.env.scope e with
    | none => rw [q0, q1] at h; cases h
    | some E1 =>
      simp only [q0, q1] at h
      split at h
      · cases h
      rename_i hp
      cases t with
      | Name x p =>
        simp only at h
        cases q2 : trLoc T X.env.scope x with
        | none => rw [q2] at h; cases h
        | some i =>
          rw [q2] at h; cases h
          exact augS o.hN o.nd hf q2 q0 hp ((allE n).e o q1)
      | Subscript a i p =>
        simp only at h
        cases q2 : trE T n X.env.scope a with
        | none => rw [q2] at h; cases h
        | some E2 =>
          cases q3 : trIx T n X.env.scope i with
          | none => rw [q2, q3] at h; cases h
          | some E3 =>
            rw [q2, q3] at h; cases h
            exact augiS o.hu (trIx_sl q3) q0 hp ((allE n).e o q1) ((allE n).e o q2) ((allE n).ix o q3).1
      | Attribute a f p =>
        simp only at h
        cases q2 : trE T n X.env.scope a with
        | none => rw [q2] at h; cases h
        | some E2 =>
          cases q3 : ixOf f T.fld with
          | none => rw [q2, q3] at h; cases h
          | some i =>
            rw [q2, q3] at h; cases h
            exact augfS o (ixOf_ok q3) q0 hp ((allE n).e o q1) ((allE n).e o q2)
      | _ => simp only [reduceCtorEq] at h
theorem ex_whl (c : Nz.C) (b : Nz.Ss) : ex G call (.whl c b) = fun ρ st => whlLoop (evC G call c) (exs G call b) ρ st WF ρ st := by
  funext ρ st
  rw [ex]
theorem s_s (A : AllS F T G call n) {X : Cx} {s : Stmt} {E : Nz.S} (o : Ok X F T G call) (hf : FnLoc X X.env.scope) (hp : PassesOwn (model X.prog X.w) X.A X.env X.xe) (h : trS T X.env.scope (n + 1) s = some E) : PS X s (tS X.K F (ex G call E)) := by
  cases s with
  | Pass p => simp only [trS, Option.some.injEq] at h; subst h; exact passS
  | Break p => simp only [trS, Option.some.injEq] at h; subst h; exact brkS
  | Continue p => simp only [trS, Option.some.injEq] at h; subst h; exact contS
  | Raise a b p => simp only [trS, Option.some.injEq] at h; subst h; exact neverS
  | Return v p =>
    simp only [trS] at h
    cases v with
    | none => simp only [Option.some.injEq] at h; subst h; exact retnS
    | some e =>
      simp only at h
      cases q : trE T n X.env.scope e with
      | none => rw [q] at h; cases h
      | some E1 => rw [q] at h; cases h; exact retS ((allE n).e o q)
  | Expr e p =>
    simp only [trS] at h
    split at h
    · cases h
    rename_i hc
    cases q : trE T n X.env.scope e with
    | none => rw [q] at h; cases h
    | some E1 => rw [q] at h; cases h; exact exprS (by simpa using hc) ((allE n).e o q)
  | Assign ts e p => exact s_asg o hf h
  | AugAssign t op e p => exact s_aug o hf h
  | If c a b p =>
    simp only [trS] at h
    cases q0 : trC T n X.env.scope c with
    | none => rw [q0] at h; cases h
    | some C1 =>
      cases q1 : trSs T X.env.scope n a with
      | none => rw [q0, q1] at h; cases h
      | some A1 =>
        cases q2 : trSs T X.env.scope n b with
        | none => rw [q0, q1, q2] at h; cases h
        | some B1 => rw [q0, q1, q2] at h; cases h; exact ifS ((allE n).c o q0) (A.ss o hf hp q1) (A.ss o hf hp q2)
  | For t i b e p =>
    simp only [trS] at h
    cases e with
    | cons _ _ => simp only [List.isEmpty_cons, Bool.not_false, if_true, reduceCtorEq] at h
    | nil =>
      simp only [List.isEmpty_nil, Bool.not_true, Bool.false_eq_true, if_false] at h
      cases q0 : trT T X.env.scope n t with
      | none => rw [q0] at h; cases h
      | some t' =>
        cases q1 : trI T n X.env.scope (isTup t) i with
        | none => rw [q0, q1] at h; cases h
        | some i' =>
          cases q2 : trSs T X.env.scope n b with
          | none => rw [q0, q1, q2] at h; cases h
          | some B1 => rw [q0, q1, q2] at h; cases h; exact wrapSt <| forS hp o.calm ((allE n).i o id q1).1 (trT_ok o.hN o.nd o.calm hf n q0) (A.ss o hf hp q2) ((allE n).i (tg := t) o id q1).2
  | While c b e p =>
    simp only [trS] at h
    cases e with
    | cons _ _ => simp only [List.isEmpty_cons, Bool.not_false, if_true, reduceCtorEq] at h
    | nil =>
      simp only [List.isEmpty_nil, Bool.not_true, Bool.false_eq_true, if_false] at h
      cases q1 : trC T n X.env.scope c with
      | none => rw [q1] at h; cases h
      | some c' =>
        cases q2 : trSs T X.env.scope n b with
        | none => rw [q1, q2] at h; cases h
        | some B1 => rw [q1, q2] at h; cases h; rw [ex_whl]; exact whlS hp ((allE n).c o q1) (A.ss o hf hp q2)
  | _ => simp only [trS, reduceCtorEq] at h
theorem consBad {X : Cx} {s : Stmt} {r : List Stmt} : PSs X (s :: r) (tS X.K F (exs G call (.cons .raise .nil))) := impSs pss_never fun D σ H ⟨μ, ρ, st, S, w⟩ => by
  rw [exs, ex] at w
  exact w.elim
theorem allS : ∀ n, AllS F T G call n
  | 0 => ⟨fun o hf hp h => by simp only [trS, reduceCtorEq] at h, fun o hf hp h => by simp only [trSs, reduceCtorEq] at h⟩
  | n + 1 => by
    have A := allS n
    refine ⟨s_s A, fun {X s E} o hf hp h => ?_⟩
    cases s with
    | nil => simp only [trSs, Option.some.injEq] at h; subst h; exact nilS
    | cons s r =>
      simp only [trSs] at h
      cases q1 : trS T X.env.scope n s with
      | none => rw [q1] at h; cases h; exact consBad
      | some S1 =>
        cases q2 : trSs T X.env.scope n r with
        | none => rw [q1, q2] at h; cases h
        | some R1 => rw [q1, q2] at h; cases h; exact consS (A.s o hf hp q1) (A.ss o hf hp q2)
end
end Nz
namespace Nz
open PySem L2 PyProof.Rows
def Inn (L : Prog) (i : Nat) : Prop := ∃ d, L.defs.lookup i = some d
/-- what the head tells of all defs -/
structure World0 (K : PySem.W.Frag) (mg : Str → Option Value) (F : Nm) (T : Tab) (L : Prog) (f : Nat → Addr) (fd : Nat → FuncData) (ps : Nat → List Str) : Prop where
  defs : ∀ i d, L.defs.lookup i = some d → ∃ (x qual : Str) (params : Arguments) (body : List Stmt) (scope : Scope) (N : List Str) (m : Nat), FunD K x qual params body scope [] [] (f i) (fd i) ∧ FnScope N (ps i) scope ∧
    d.np = (ps i).length ∧ d.ns = N.length ∧ trSs { T with N := N } scope m body = some d.body
  fns : ∀ (x : Str) (i : Nat), T.fns.lookup x = some i → Inn L i ∧ mg x = some (.ref (f i)) ∧ PySem.W.keepIn K (.ref (f i)) = true ∧ isKw T i = false
  cls : ∀ (x : Str) (c : Nat), T.cls.lookup x = some c → ∃ C, F.cls c = some C ∧ mg x = some (.ref C)
  cons : ∀ (x : Str) (d : D), T.cons.lookup x = some d → ∃ (u : Value) (v : V), mg x = some u ∧ RelV v u ∧ ∀ μ H, Rp K μ H d v
  free : ∀ x ∈ T.free, mg x = none
  kit : Kit K F
  fld : F.fld = T.fld
  fnd : T.fld.Nodup
  noat : ∀ (c : Nat) (C : Addr) (x : Str), F.cls c = some C → x ∈ T.fld → NoAttr K C x
  mth : ∀ (m : Nat) (x : Str) (c i : Nat), T.mth[m]? = some x → atOf L.G.meth m c = some i → Inn L i ∧ x ∉ T.fld ∧ (∃ C, F.cls c = some C ∧ Meth K C x (f i)) ∧ isKw T i = false
  prp : ∀ (m : Nat) (x : Str) (c i : Nat), T.prp[m]? = some x → atOf L.G.prop m c = some i → Inn L i ∧ (∃ C p, F.cls c = some C ∧ PropOf K C x p (f i)) ∧ isKw T i = false
  mks : ∀ (x : Str) (c i : Nat), T.cls.lookup x = some c → L.G.init[c]? = some (some i) → Inn L i ∧ (∃ C, F.cls c = some C ∧ Mk K C (f i)) ∧ isKw T i = false
  bnd : ∀ i, Inn L i → isKw T i = false → Binds K (fd i) (ps i) []
  kfs : ∀ (x : Str) (i : Nat) (kn : Str) (d : Option D), T.kfs.lookup x = some (i, kn, d) → Inn L i ∧ mg x = some (.ref (f i)) ∧ PySem.W.keepIn K (.ref (f i)) = true ∧ ∃ n, KBn K (fd i) (ps i) n [kn] (fun us ws => us ++ ws) (fun vs zs => vs ++ zs) ∧ (ps i).length = n + 1 ∧
    ∀ d', d = some d' → ∃ (u : Value) (v : V), Binds K (fd i) (ps i) [u] ∧ RelV v u ∧ ∀ μ H, Rp K μ H d' v
section
variable {pr : Program} {w : World} {K : PySem.W.Frag} {mg : Str → Option Value} {base : Heap} {F : Nm} {T : Tab} {L : Prog} {f : Nat → Addr} {fd : Nat → FuncData} {ps : Nat → List Str}
theorem Sim.start {N : List Str} {n : Nat} {μ : Mu} {st : Store} {H : Hp} {ds : List D} {vs : List V} (S : Sto K F μ st H) (r : Rps K μ H ds vs) (hn : n = N.length - vs.length) : Sim K F μ (ds.map some ++ List.replicate n none) st (L2.start N vs) H := by
  refine ⟨by simp [L2.start, r.length, hn], fun i d h => ?_, S⟩
  by_cases hi : i < ds.length
  · rw [List.getElem?_append_left (by simpa using hi), List.getElem?_map] at h
    cases q : ds[i]? with
    | none => rw [q] at h; cases h
    | some e =>
      rw [q] at h
      cases h
      obtain ⟨v, h1, h2⟩ := r.get q
      refine ⟨v, ?_, h2⟩
      unfold L2.start
      rw [List.getElem?_append_left (by rw [List.length_map, ← r.length]; exact hi), List.getElem?_map, h1]
      rfl
  · rw [List.getElem?_append_right (by simpa using hi)] at h
    rw [List.getElem?_replicate] at h
    split at h <;> cases h
theorem fin_ok {μ : Mu} {H : Hp} {Q : VK} {r : R (Fl × Nz.Env)} (w : WP K F μ H (r.bind fin) (VQ K Q)) : WP K F μ H r (FQ K F { nx := fun _ H' => Q .non H', rt := Q }) := by
  refine (WP.bind w).mono fun p s μ1 H1 P1 w1 => ?_
  obtain ⟨fl, ρ⟩ := p
  cases fl with
  | nx => exact fun _ _ => WP.ok (Φ := VQ K Q) P1.sto w1 _ .non
  | ret d => exact WP.ok (Φ := VQ K Q) P1.sto w1
  | bk => exact w1.elim
  | ct => exact w1.elim
theorem World0.ok (W : World0 K mg F T L f fd ps) {k : Nat} (ih : ∀ i, Inn L i → FnOk pr w K mg base CX0 (2 * k) (f i) (fd i) (ps i) (spOf K F (run L k i))) (b : ∀ i, Inn L i → isKw T i = false → Binds K (fd i) (ps i) [])
    {X : Cx} (h1 : X.prog = pr) (h2 : X.w = w) (h3 : X.K = K) (h4 : X.mg = mg) (h5 : X.base = base) (hc : X.calm = true) (nd : X.N.Nodup) (hr : Room (2 * k + 1) X.A) : Ok X F { T with N := X.N } L.G (run L k) := by
  subst h1 h2 h3 h4 h5
  have hr0 : Room (2 * k) X.A := hr.mono (Nat.le_succ _)
  refine ⟨hc, nd, rfl, hr.units, fun x i h => ?_, W.cls, W.cons, W.free, W.kit, W.fld, W.fnd, W.noat, fun m x c i e1 e2 => ?_, fun m x c i e1 e2 => ?_, fun x c i e1 e2 => ?_, fun x i kn d h => ?_⟩
  · obtain ⟨a1, a2, a3, a4⟩ := W.fns x i h
    exact ⟨f i, fd i, ps i, 2 * k, a2, a3, hr0, ih i a1, b i a1 a4⟩
  · obtain ⟨a1, a2, ⟨C, a3, a4⟩, a5⟩ := W.mth m x c i e1 e2
    exact ⟨a2, C, f i, fd i, ps i, 2 * k, a3, a4, hr0, ih i a1, b i a1 a5⟩
  · obtain ⟨a1, ⟨C, p, a3, a4⟩, a5⟩ := W.prp m x c i e1 e2
    exact ⟨C, p, f i, fd i, ps i, 2 * k, a3, a4, hr, ih i a1, b i a1 a5⟩
  · obtain ⟨a1, ⟨C, a3, a4⟩, a5⟩ := W.mks x c i e1 e2
    exact ⟨C, f i, fd i, ps i, 2 * k, a3, a4, hr, ih i a1, b i a1 a5⟩
  · obtain ⟨a1, a2, a3, n, a4, a5, a6⟩ := W.kfs x i kn d h
    exact ⟨f i, fd i, ps i, 2 * k, n, a2, a3, hr0, ih i a1, a4, a5, a6⟩
/-- every def keeps the promise of its run -/
theorem World0.fnOk (W : World0 K mg F T L f fd ps) : ∀ (k i : Nat), Inn L i → FnOk pr w K mg base CX0 (2 * k) (f i) (fd i) (ps i) (spOf K F (run L k i))
  | 0, i, _ => ⟨fun vs H Q E ⟨μ, st, ds, _, _, w⟩ => w.elim, fun A outer s H args us vs Q E _ _ _ _ ⟨μ, st, ds, _, _, w⟩ => w.elim⟩
  | k + 1, i, hi => by
    obtain ⟨df, hd⟩ := hi
    obtain ⟨x, qual, params, body, scope, N, m, hF, hS, hnp, hns, htr⟩ := W.defs i _ hd
    have un : ∀ ds st, run L (k + 1) i ds st = R.grd (ds.length == df.np) (gc st ((exs L.G (run L k) df.body (ds.map some ++ List.replicate (df.ns - df.np) none) st).bind fin)) := fun ds st => by
      rw [run, hd]
    have hlen : ∀ vs H Q (E : XK), spOf K F (run L (k + 1) i) vs H Q E → vs.length = (ps i).length := fun vs H Q E ⟨μ, st, ds, S, r, w⟩ => by
      rw [un] at w
      rw [← r.length, ← hnp]
      exact eq_of_beq w.grd.1
    refine (hF.ok (k := 2 * k + 1) hS hlen fun cdv A outer s H vs Q E hr hsp => ?_)
    have hl := hlen vs H Q E hsp
    obtain ⟨μ, st, ds, S, r, w⟩ := hsp
    rw [un] at w
    have w := fin_ok (gc_ok S w.grd.2)
    have o : Ok (cxOf CX0 pr _ K mg base N qual scope (f i) cdv A outer s H E).nox F { T with N := N } L.G (run L k) := W.ok (World0.fnOk W k) W.bnd rfl rfl rfl rfl rfl rfl hS.nd hr
    refine ⟨_, PSs.nox ((allS m).ss (T := { T with N := N }) o (fun y hy => ⟨hy, .inl rfl⟩) PassesOwn.never htr), ?_⟩
    refine ⟨μ, _, st, Sim.start S r ?_, w⟩
    rw [hns, hnp, hl]
end
end Nz
namespace Nz
open PySem L2 PyProof.Rows He
/-! ### what the head is asked -/
/-- a value of the module's names is the data d -/
def relD (K : PySem.W.Frag) : Nat → D → Value → Bool
  | 0, _, _ => false
  | n + 1, d, v => (match d, v with
    | .non, .none => true
    | .bl a, .bool b => a == b
    | .int i, .int j _ => decide (i = j)
    | .str x, .str y _ => decide (x = y)
    | .wt ds, .ref a => (match K.lookup a with
      | some ⟨.type c, _, .seq its _, _⟩ => decide (c = "tuple") && (decide (its.size ≤ sizeLine) && (decide (ds.length = its.toList.length) && (ds.zip its.toList).all fun p => relD K n p.1 p.2))
      | _ => false)
    | _, _ => false)
def valOf : Value → V
  | .none => .non
  | .bool b => .bl b
  | .int i _ => .int i
  | .str s _ => .str s
  | .ref a => .ref a
  | .type n => .ty n
  | _ => .non
theorem relD_ok {K : PySem.W.Frag} : ∀ (n : Nat) {d : D} {v : Value}, relD K n d v = true → RelV (valOf v) v ∧ ∀ μ H, Rp K μ H d (valOf v)
  | 0, d, v, h => by simp only [relD, Bool.false_eq_true] at h
  | n + 1, d, v, h => by
    unfold relD at h
    split at h
    · exact ⟨rfl, fun _ _ => .non⟩
    · rw [eq_of_beq h]; exact ⟨rfl, fun _ _ => .bl _⟩
    · rename_i i j t
      rw [of_decide_eq_true h]; exact ⟨⟨t, rfl⟩, fun _ _ => .int _⟩
    · rename_i i j t
      rw [of_decide_eq_true h]; exact ⟨⟨t, rfl⟩, fun _ _ => .str _⟩
    · rename_i ds a
      split at h
      · rename_i c od its m sl hl
        simp only [Bool.and_eq_true, decide_eq_true_eq] at h
        obtain ⟨hc, hz, hlen, hall⟩ := h
        have go : ∀ (ds : List D) (vs : List Value), ds.length = vs.length → ((ds.zip vs).all fun p => relD K n p.1 p.2) = true → Vals (vs.map valOf) vs ∧ ∀ μ H, Rps K μ H ds (vs.map valOf) := by
          intro ds
          induction ds with
          | nil => intro vs hl _; cases vs with
            | nil => exact ⟨.nil, fun _ _ => .nil⟩
            | cons _ _ => cases hl
          | cons d ds ih => intro vs hl ha; cases vs with
            | nil => cases hl
            | cons v vs =>
              simp only [List.zip_cons_cons, List.all_cons, Bool.and_eq_true] at ha
              obtain ⟨r1, r2⟩ := ih vs (by simpa using hl) ha.2
              obtain ⟨q1, q2⟩ := relD_ok n ha.1
              exact ⟨.cons q1 r1, fun μ H => .cons (q2 μ H) (r2 μ H)⟩
        obtain ⟨r1, r2⟩ := go ds its.toList hlen hall
        exact ⟨rfl, fun μ H => .wt (.inr ⟨_, its, m, hl, congrArg Value.type hc, rfl, hz, r1⟩) (r2 μ H)⟩
      · cases h
    · cases h
/-- where a function stands: a name of the module, a class's method, a class's property -/
inductive Loc where
  | glo (x : Str) | met (c m : Str) | prp (c m : Str)
def prA (K : PySem.W.Frag) (c m : Str) : Addr := match PySem.W.findIn K (.ref (ga K c)) m with
  | some (some (.ref p)) => p
  | _ => 0
def Loc.ad (K : PySem.W.Frag) : Loc → Addr
  | .glo x => ga K x
  | .met c m => ma K (ga K c) m
  | .prp c m => (match PySem.W.recIn K (prA K c m) "property" with
    | some (.ref g :: _) => g
    | _ => 0)
/-- a def: where it stands, its text; its names, its parameters -/
structure Dd where
  loc : Loc
  name : Str
  qual : Str
  par : Arguments
  txt : List Stmt
  sco : Scope
  N : List Str
  ps : List Str
abbrev Fv : Type := Option (Str × Str × Arguments × FuncBody × Scope × Addr × List (Str × Addr) × Addr)
def fnV (K : PySem.W.Frag) (a : Addr) : Fv := match K.lookup a with
  | some o => (match o.data with
    | .func g => some (g.name, g.qualname, g.params, g.body, g.scope, g.globals, g.closure, g.builtins)
    | _ => none)
  | none => none
def Dd.val (e : Dd) : Fv := some (e.name, e.qual, e.par, .stmts e.txt, e.sco, mainGlobals, [], builtinsNs)
def Dd.okB (K : PySem.W.Frag) (e : Dd) : Bool := PySem.W.keepIn K (.ref (e.loc.ad K)) && (match K.lookup (e.loc.ad K) with
  | some o => (match o.data with
    | .func g => PySem.W.codeIn K g.code e.qual && dflB K g.defaults []
    | _ => false)
  | none => false)
theorem Dd.fun_ {K : PySem.W.Frag} {e : Dd} (h1 : fnV K (e.loc.ad K) = e.val) (h2 : e.okB K = true) : ∃ fd, FunD K e.name e.qual e.par e.txt e.sco [] [] (e.loc.ad K) fd := by
  unfold Dd.okB at h2
  rw [Bool.and_eq_true] at h2
  obtain ⟨hk, h2⟩ := h2
  unfold fnV at h1
  cases hl : K.lookup (e.loc.ad K) with
  | none => rw [hl] at h2; cases h2
  | some o =>
    rw [hl] at h1 h2
    obtain ⟨oc, od, dt, sl⟩ := o
    cases dt with
    | func g =>
      simp only [Dd.val, Option.some.injEq, Prod.mk.injEq] at h1
      simp only [Bool.and_eq_true] at h2
      obtain ⟨a1, a2, a3, a4, a5, a6, a7, a8⟩ := h1
      cases g
      simp only at a1 a2 a3 a4 a5 a6 a7 a8 h2
      subst a1 a2 a3 a4 a5 a6 a7 a8
      exact ⟨_, ⟨oc, od, _, _, _, _, _, _, _, sl, rfl, hl, h2.1, dflB_ok h2.2, .inl rfl⟩, hk⟩
    | _ => cases h2
/-- the keyword-only default of a def -/
def kwC (K : PySem.W.Frag) (a : Addr) (kn : Str) : Option D → Bool
  | none => true
  | some d => (match K.lookup a with
    | some o => (match o.data with
      | .func g => (match g.kwdefaults with
        | .ref E => (match PySem.W.nsIn K E kn with
          | some (some u) => relD K 20 d u
          | _ => false)
        | _ => false)
      | _ => false)
    | none => false)
theorem kwd_of {K : PySem.W.Frag} {x qual : Str} {params : Arguments} {body : List Stmt} {scope : Scope} {f : Addr} {fd : FuncData} {kn : Str} {d : D} (F : FunD K x qual params body scope [] [] f fd) (h : kwC K f kn (some d) = true) : ∃ v, FunD K x qual params body scope [] [(kn, v)] f fd ∧ ∀ μ H, Rp K μ H d v := by
  obtain ⟨⟨oc, od, dV, kV, doc, pm, an, cdv, ct, osl, rfl, hl, hc, hd, _⟩, kp⟩ := F
  unfold kwC at h
  rw [hl] at h
  simp only at h
  split at h
  · rename_i E hE
    split at h
    · rename_i u hu
      obtain ⟨r1, r2⟩ := relD_ok 20 h
      refine ⟨valOf u, ⟨⟨oc, od, dV, _, doc, pm, an, cdv, ct, osl, rfl, hl, hc, hd, .inr ⟨E, by first | exact hE | rfl, fun q hq => ?_⟩⟩, kp⟩, r2⟩
      cases List.mem_singleton.mp hq
      exact ⟨u, hu, r1⟩
    · cases h
  · cases h
def tyNs : List String := ["NoneType", "bool", "int", "str", "list", "tuple"]
/-- one class, by name -/
def ckC1 (K : PySem.W.Frag) (cn : List (Option Str)) (fld : List Str) (x : Str) : Bool :=
  (Fa.cls x).ok K && (eqO (PySem.W.findIn K (.ref (ga K x)) "__class__") (some (some (.builtin "object.__class__"))) && (eqO (PySem.W.specialIn K (.builtin "object.__class__") "__get__") (some (some (.builtin "getset_descriptor.__get__"))) &&
    (decide (PySem.W.takesIn K (.builtin "object.__class__") = some true) && (decide (PySem.W.mroIn K (ga K x) (.type "object") = some true) && ((tyNs.all fun n => decide (PySem.W.kitOne K (.type n) (.ref (ga K x)) = some false)) &&
    ((tyNs.all fun n => n == "NoneType" || decide (PySem.W.kitOne K (.ref (ga K x)) (.type n) = some false)) && ((cn.all fun o => (match o with
      | some y => decide (PySem.W.kitOne K (.ref (ga K x)) (.ref (ga K y)) = some (x == y))
      | none => true)) && fld.all fun f => (Fa.noat x f).ok K)))))))
def adOf (K : PySem.W.Frag) (dd : List (Nat × Dd)) (i : Nat) : Addr := match dd.lookup i with
  | some e => e.loc.ad K
  | _ => 0
def psOf (dd : List (Nat × Dd)) (i : Nat) : List Str := match dd.lookup i with
  | some e => e.ps
  | _ => []
def isDd (dd : List (Nat × Dd)) (i : Nat) : Bool := match dd.lookup i with
  | some _ => true
  | _ => false
/-- all the facts -/
def ck (T : Tab) (G : Ctx) (cn : List (Option Str)) (dd : List (Nat × Dd)) (K : PySem.W.Frag) : Bool :=
  (T.kfs.all fun p => (Fa.glo p.1).ok K && (PySem.W.keepIn K (.ref (ga K p.1)) && (decide (adOf K dd p.2.1 = ga K p.1) && kwC K (ga K p.1) p.2.2.1 p.2.2.2))) && ((T.fns.all fun p => (Fa.glo p.1).ok K && (PySem.W.keepIn K (.ref (ga K p.1)) && decide (adOf K dd p.2 = ga K p.1))) && ((T.free.all fun x => (Fa.free x).ok K) && ((T.cls.all fun p => (Fa.glo p.1).ok K) &&
  ((T.cons.all fun p => (match PySem.W.nsIn K mainGlobals p.1 with
    | some (some v) => relD K 20 p.2 v
    | _ => false)) && ((cn.all fun o => (match o with
      | some x => ckC1 K cn T.fld x
      | none => true)) && (((T.mth.zip G.meth).all fun p => p.2.all fun r => (match cn[r.1]? with
      | some (some c) => (Fa.meth c p.1).ok K && decide (ma K (ga K c) p.1 = adOf K dd r.2)
      | _ => false)) && (((T.prp.zip G.prop).all fun p => p.2.all fun r => (match cn[r.1]? with
      | some (some c) => eqO (PySem.W.findIn K (.ref (ga K c)) p.1) (some (some (.ref (prA K c p.1)))) && (eqO (PySem.W.specialIn K (.ref (prA K c p.1)) "__get__") (some (some (.builtin "property.__get__"))) &&
        (decide (PySem.W.takesIn K (.ref (prA K c p.1)) = some true) && (match PySem.W.recIn K (prA K c p.1) "property" with
          | some (.ref g :: _) => decide (g = adOf K dd r.2)
          | _ => false)))
      | _ => false)) && (cn.zip G.init).all fun p => (match p.1, p.2 with
      | some x, some i => (Fa.mkr x).ok K && decide (ma K (ga K x) "__init__" = adOf K dd i)
      | _, _ => true))))))))
def isDp (T : Tab) (dd : List (Nat × Dd)) (i : Nat) : Bool := isDd dd i && !isKw T i
/-- what is checked of the tables alone -/
def ckN (T : Tab) (G : Ctx) (cn : List (Option Str)) (dd : List (Nat × Dd)) : Bool :=
  (T.kfs.all fun p => isDd dd p.2.1) && ((T.fns.all fun p => isDp T dd p.2) && ((T.cls.all fun p => decide (cn[p.2]? = some (some p.1))) && (decide (T.fld.Nodup) && (decide ((cn.filterMap id).Nodup) && (((T.mth.zip G.meth).all fun p => p.2.all fun r => !T.fld.contains p.1 && isDp T dd r.2) &&
    (((T.prp.zip G.prop).all fun p => p.2.all fun r => isDp T dd r.2) && (cn.zip G.init).all fun p => (match p.1, p.2 with
      | some _, some i => isDp T dd i
      | _, _ => true)))))))
abbrev AlN : Type := Bool × List Fv
def obsC (c : PySem.W.Frag → Bool) (fn : List Dd) (K : PySem.W.Frag) : AlN := (c K && fn.all fun d => d.okB K, fn.map fun d => fnV K (d.loc.ad K))
def valC (fn : List Dd) : AlN := (true, fn.map Dd.val)
def SaysC (c : PySem.W.Frag → Bool) (fn : List Dd) (K : PySem.W.Frag) : Prop := obsC c fn K = valC fn
def obsCG (n : Nat) (c : PySem.W.Frag → Bool) (fn : List Dd) (g : Addr → Option Obj) : AlN := obsC c fn (frG g (asD g n))
def hookC (n : Nat) (c : PySem.W.Frag → Bool) (fn : List Dd) : PySem.W.Hook where
  α := AlN
  obs := fun s => obsCG n c fn s.heap.get?
  val := fun _ => valC fn
  says := fun _ h => ∃ K : PySem.W.Frag, K.In h ∧ SaysC c fn K
  of := fun _ _ e => ⟨_, frG_in, e⟩
  keeps := fun _ _ _ ⟨K, hK, e⟩ k => ⟨K, PySem.W.Frag.In.keeps hK k, e⟩
theorem obsCG_eq {n : Nat} {c : PySem.W.Frag → Bool} {fn : List Dd} {g : Addr → Option Obj} {s : Shared} (h : ∀ a, g a = s.heap.get? a) : obsCG n c fn g = (hookC n c fn).obs s := by
  have e : g = s.heap.get? := funext h
  rw [e] <;> rfl
section
variable {c : PySem.W.Frag → Bool} {fn : List Dd} {K : PySem.W.Frag}
theorem SaysC.fst (h : SaysC c fn K) : (c K && fn.all fun d => d.okB K) = true := congrArg (fun z : AlN => z.1) h
theorem SaysC.ck (h : SaysC c fn K) : c K = true := (ba h.fst).1
theorem map_same {α β : Type} {f g : α → β} : ∀ {l : List α}, l.map f = l.map g → ∀ x ∈ l, f x = g x
  | a :: l, h, x, m => by
    simp only [List.map_cons, List.cons.injEq] at h
    rcases List.mem_cons.mp m with e | m
    · rw [e]; exact h.1
    · exact map_same h.2 x m
theorem SaysC.fun_ (h : SaysC c fn K) {d : Dd} (m : d ∈ fn) : ∃ fd, FunD K d.name d.qual d.par d.txt d.sco [] [] (d.loc.ad K) fd :=
  Dd.fun_ (map_same (congrArg (fun z : AlN => z.2) h) d m) (List.all_eq_true.mp (ba h.fst).2 d m)
end
/-- one def's text is as the evaluator has it -/
structure Good (T : Tab) (d : Df) (e : Dd) : Prop where
  sc : FnScope e.N e.ps e.sco
  bind : ∀ (kV doc pm : Value) (an : Option Addr) (cdv ct : Value) (us : List Value), us.length = e.ps.length → bindArgs (PySem.W.fnOf e.name e.qual e.par e.txt e.sco .none kV doc pm an cdv ct) ⟨us, []⟩ = pure (e.ps.zip us)
  np : d.np = e.ps.length
  ns : d.ns = e.N.length
  tr : ∃ m, trSs { T with N := e.N } e.sco m e.txt = some d.body
/-- the same of a def with one keyword-only parameter -/
structure GoodK (T : Tab) (kn : Str) (d : Df) (e : Dd) : Prop where
  pos : 0 < e.ps.length
  sc : FnScope e.N e.ps e.sco
  bk : ∀ (kV doc pm : Value) (an : Option Addr) (cdv ct : Value) (us ws : List Value), us.length + 1 = e.ps.length → ws.length = 1 → bindArgs (PySem.W.fnOf e.name e.qual e.par e.txt e.sco .none kV doc pm an cdv ct) ⟨us, [kn].zip ws⟩ = pure (e.ps.zip (us ++ ws))
  bd : ∀ (E : Addr) (doc pm : Value) (an : Option Addr) (cdv ct : Value) (us ks : List Value), us.length + 1 = e.ps.length → ks.length = 1 → KwChain E ([kn].zip ks) (bindArgs (PySem.W.fnOf e.name e.qual e.par e.txt e.sco .none (.ref E) doc pm an cdv ct) ⟨us, []⟩) (e.ps.zip (us ++ ks))
  np : d.np = e.ps.length
  ns : d.ns = e.N.length
  tr : ∃ m, trSs { T with N := e.N } e.sco m e.txt = some d.body
inductive Goods (T : Tab) : List (Nat × Df) → List (Nat × Dd) → Prop
  | nil : Goods T [] []
  | cons {i : Nat} {d : Df} {e : Dd} {ds : List (Nat × Df)} {es : List (Nat × Dd)} (h : Good T d e) (t : Goods T ds es) (k : isKw T i = false := by rfl) : Goods T ((i, d) :: ds) ((i, e) :: es)
  | consK {i : Nat} {d : Df} {e : Dd} {ds : List (Nat × Df)} {es : List (Nat × Dd)} (kn : Str) (h : GoodK T kn d e) (t : Goods T ds es) (k : isKw T i = true := by rfl) (k2 : (T.kfs.all fun p => !(p.2.1 == i) || p.2.2.1 == kn) = true := by rfl) : Goods T ((i, d) :: ds) ((i, e) :: es)
theorem Goods.get {T : Tab} {ds : List (Nat × Df)} {es : List (Nat × Dd)} (g : Goods T ds es) {i : Nat} {d : Df} (hi : ds.lookup i = some d) : ∃ e, es.lookup i = some e ∧ ((isKw T i = false ∧ Good T d e) ∨ (isKw T i = true ∧ ∃ kn, GoodK T kn d e ∧ (T.kfs.all fun p => !(p.2.1 == i) || p.2.2.1 == kn) = true)) := by
  induction g with
  | nil => cases hi
  | @cons j d' e' ds es h t hk ih =>
    rw [List.lookup_cons] at hi ⊢
    cases q : i == j with
    | true => rw [q] at hi; cases hi; exact ⟨_, rfl, .inl ⟨by rw [eq_of_beq q]; exact hk, h⟩⟩
    | false => rw [q] at hi; exact ih hi
  | @consK j d' e' ds es kn h t hk hk2 ih =>
    rw [List.lookup_cons] at hi ⊢
    cases q : i == j with
    | true => rw [q] at hi; cases hi; exact ⟨_, rfl, .inr ⟨by rw [eq_of_beq q]; exact hk, kn, h, by rw [eq_of_beq q]; exact hk2⟩⟩
    | false => rw [q] at hi; exact ih hi
theorem Goods.inn0 {T : Tab} {ds : List (Nat × Df)} {es : List (Nat × Dd)} (g : Goods T ds es) {i : Nat} (h : isDd es i = true) : ∃ d, ds.lookup i = some d := by
  unfold isDd at h
  induction g with
  | nil => cases h
  | @cons j d' e' ds es h' t hk ih =>
    rw [List.lookup_cons] at h ⊢
    cases q : i == j with
    | true => exact ⟨_, rfl⟩
    | false => rw [q] at h; exact ih h
  | @consK j d' e' ds es kn h' t hk hk2 ih =>
    rw [List.lookup_cons] at h ⊢
    cases q : i == j with
    | true => exact ⟨_, rfl⟩
    | false => rw [q] at h; exact ih h
theorem Goods.inn {T : Tab} {L : Prog} {es : List (Nat × Dd)} (g : Goods T L.defs es) {i : Nat} (h : isDd es i = true) : Inn L i := g.inn0 h
theorem Goods.inp {T : Tab} {L : Prog} {es : List (Nat × Dd)} (g : Goods T L.defs es) {i : Nat} (h : isDp T es i = true) : Inn L i ∧ isKw T i = false := by
  unfold isDp at h
  rw [Bool.and_eq_true, Bool.not_eq_true'] at h
  exact ⟨g.inn h.1, h.2⟩
def nmOf (K : PySem.W.Frag) (T : Tab) (cn : List (Option Str)) : Nm := ⟨fun c => match cn[c]? with
  | some (some x) => some (ga K x)
  | _ => none, T.fld⟩
theorem lookup_mem {α β : Type} [BEq α] [LawfulBEq α] {x : α} {y : β} : ∀ {l : List (α × β)}, l.lookup x = some y → (x, y) ∈ l
  | (a, b) :: r, h => by
    rw [List.lookup_cons] at h
    split at h
    · rename_i e
      cases h
      rw [eq_of_beq e]
      exact List.mem_cons_self ..
    · exact List.mem_cons_of_mem _ (lookup_mem h)
theorem zip_mem {α β : Type} {as : List α} {bs : List β} {i : Nat} {a : α} {b : β} (h1 : as[i]? = some a) (h2 : bs[i]? = some b) : (a, b) ∈ as.zip bs := by
  refine List.mem_iff_getElem?.mpr ⟨i, ?_⟩
  rw [List.getElem?_zip_eq_some]
  exact ⟨h1, h2⟩
theorem atOf_mem {l : List (List (Nat × Nat))} {names : List Str} {m c i : Nat} {x : Str} (h1 : names[m]? = some x) (h2 : atOf l m c = some i) : ∃ r, (x, r) ∈ names.zip l ∧ (c, i) ∈ r := by
  unfold atOf at h2
  cases e : l[m]? with
  | none => rw [e] at h2; cases h2
  | some r => rw [e] at h2; exact ⟨r, zip_mem h1 e, lookup_mem h2⟩
theorem some_nodup {x : Str} : ∀ {cn : List (Option Str)} {i j : Nat}, (cn.filterMap id).Nodup → cn[i]? = some (some x) → cn[j]? = some (some x) → i = j
  | [], i, j, _, h, _ => by simp at h
  | o :: cn, 0, 0, _, _, _ => rfl
  | o :: cn, 0, j + 1, nd, h1, h2 => by
    simp at h1 h2; subst h1
    simp only [List.filterMap_cons, id] at nd
    exact absurd (List.mem_filterMap (f := id).mpr ⟨some x, List.mem_of_getElem? h2, rfl⟩) (List.nodup_cons.mp nd).1
  | o :: cn, i + 1, 0, nd, h1, h2 => by
    simp at h1 h2; subst h2
    simp only [List.filterMap_cons, id] at nd
    exact absurd (List.mem_filterMap (f := id).mpr ⟨some x, List.mem_of_getElem? h1, rfl⟩) (List.nodup_cons.mp nd).1
  | o :: cn, i + 1, j + 1, nd, h1, h2 => by
    simp at h1 h2
    have nd' : (cn.filterMap id).Nodup := by
      cases o with
      | none => simpa using nd
      | some y => simp only [List.filterMap_cons, id] at nd; exact (List.nodup_cons.mp nd).2
    rw [some_nodup nd' h1 h2]
def fnOf (dd : List (Nat × Dd)) : List Dd := dd.map (·.2)
theorem fnOf_mem {dd : List (Nat × Dd)} {i : Nat} {e : Dd} (h : dd.lookup i = some e) : e ∈ fnOf dd := List.mem_map.mpr ⟨(i, e), lookup_mem h, rfl⟩
/-- the head's facts give all that the walk asks -/
theorem world0 {K : PySem.W.Frag} {h : Heap} {mg : Str → Option Value} {T : Tab} {L : Prog} {cn : List (Option Str)} {dd : List (Nat × Dd)} (X : K.In h) (G : h.Ns mainGlobals mg) (c : SaysC (ck T L.G cn dd) (fnOf dd) K) (n : ckN T L.G cn dd = true) (g : Goods T L.defs dd) (h0 : ∃ i, Inn L i) :
    ∃ fd : Nat → FuncData, World0 K mg (nmOf K T cn) T L (adOf K dd) fd (psOf dd) := by
  have ckK := c.ck
  unfold ck at ckK
  simp only [Bool.and_eq_true] at ckK
  obtain ⟨k0, k1, k2, k3, k4, k5, k6, k8, k7⟩ := ckK
  unfold ckN at n
  simp only [Bool.and_eq_true, decide_eq_true_eq] at n
  obtain ⟨n0, n1, n2, n3, n4, n5, n6, n7⟩ := n
  have one : ∀ (i : Nat) (e : Dd), dd.lookup i = some e → ∃ fd : FuncData, FunD K e.name e.qual e.par e.txt e.sco [] [] (adOf K dd i) fd := fun i e he => by
    have ha : adOf K dd i = e.loc.ad K := by unfold adOf; rw [he]
    rw [ha]
    exact c.fun_ (fnOf_mem he)
  have fdE : ∀ i : Nat, ∃ fd : FuncData, ∀ e : Dd, dd.lookup i = some e → FunD K e.name e.qual e.par e.txt e.sco [] [] (adOf K dd i) fd := by
    intro i
    by_cases q : ∃ e, dd.lookup i = some e
    · obtain ⟨e, q⟩ := q
      obtain ⟨fd, hfd⟩ := one i e q
      exact ⟨fd, fun e' h => by rw [q] at h; cases h; exact hfd⟩
    · obtain ⟨j, d, hj⟩ := h0
      obtain ⟨e, he, _⟩ := g.get hj
      obtain ⟨fd, _⟩ := one j e he
      exact ⟨fd, fun e' h => absurd ⟨e', h⟩ q⟩
  obtain ⟨fd, hfd⟩ := Classical.axiomOfChoice fdE
  have clx : ∀ (j : Nat) (C : Addr), (nmOf K T cn).cls j = some C → ∃ x, cn[j]? = some (some x) ∧ ga K x = C := fun j C h => by
    unfold nmOf at h
    simp only at h
    split at h
    · rename_i x hx
      exact ⟨x, hx, Option.some.inj h⟩
    · cases h
  have clv : ∀ (j : Nat) (x : Str), cn[j]? = some (some x) → (nmOf K T cn).cls j = some (ga K x) := fun j x h => by
    unfold nmOf
    simp only [h]
  have k5' := fun x (hx : some x ∈ cn) => by
    have := List.all_eq_true.mp k5 _ hx
    simp only [ckC1, Bool.and_eq_true, decide_eq_true_eq] at this
    exact this
  refine ⟨fd, ⟨fun i d hd => ?_, fun x i hx => ?_, fun x j hx => ?_, fun x d hx => ?_, fun x hx => free_ok X G (List.all_eq_true.mp k2 x hx), ⟨fun j C hC => ?_, fun j C hC => ?_, fun j C nm hC hn => ?_, fun j C nm hC hn => ?_, fun j j' C E hC hE => ?_⟩, rfl, n3, fun j C x hC hx => ?_, fun m x j i e1 e2 => ?_, fun m x j i e1 e2 => ?_, fun x j i e1 e2 => ?_, fun i hi hk => ?_, fun x i kn dv hx => ?_⟩⟩
  · obtain ⟨e, he, gd⟩ := g.get hd
    have hF := hfd i e he
    have hp : psOf dd i = e.ps := by unfold psOf; rw [he]
    rcases gd with ⟨_, gd⟩ | ⟨_, kn, gd, _⟩
    · obtain ⟨m, hm⟩ := gd.tr
      exact ⟨e.name, e.qual, e.par, e.txt, e.sco, e.N, m, hF, by rw [hp]; exact gd.sc, by rw [hp]; exact gd.np, gd.ns, hm⟩
    · obtain ⟨m, hm⟩ := gd.tr
      exact ⟨e.name, e.qual, e.par, e.txt, e.sco, e.N, m, hF, by rw [hp]; exact gd.sc, by rw [hp]; exact gd.np, gd.ns, hm⟩
  · have hm := lookup_mem hx
    have e2 := List.all_eq_true.mp k1 _ hm
    simp only [Bool.and_eq_true, decide_eq_true_eq] at e2
    rw [e2.2.2]
    obtain ⟨i1, i2⟩ := g.inp (List.all_eq_true.mp n1 _ hm)
    exact ⟨i1, glo_ok X G e2.1, e2.2.1, i2⟩
  · have hm := lookup_mem hx
    have e1 := of_decide_eq_true (List.all_eq_true.mp n2 _ hm)
    have e2 := List.all_eq_true.mp k3 _ hm
    exact ⟨ga K x, clv j x e1, glo_ok X G e2⟩
  · have hm := lookup_mem hx
    have e2 := List.all_eq_true.mp k4 _ hm
    split at e2
    · rename_i v hv
      obtain ⟨r1, r2⟩ := relD_ok 20 e2
      exact ⟨v, valOf v, PySem.W.mg_of X G hv, r1, r2⟩
    · cases e2
  · obtain ⟨x, hx, rfl⟩ := clx j C hC
    exact He.cls_ok (k5' x (List.mem_of_getElem? hx)).1
  · obtain ⟨x, hx, rfl⟩ := clx j C hC
    obtain ⟨_, a1, a2, a3, a4, _⟩ := k5' x (List.mem_of_getElem? hx)
    exact ⟨eqO_ok a1, eqO_ok a2, a3, a4⟩
  · obtain ⟨x, hx, rfl⟩ := clx j C hC
    obtain ⟨_, a1, a2, a3, a4, a5, _⟩ := k5' x (List.mem_of_getElem? hx)
    have := List.all_eq_true.mp a5 nm hn
    exact of_decide_eq_true this
  · obtain ⟨x, hx, rfl⟩ := clx j C hC
    obtain ⟨_, a1, a2, a3, a4, a5, a6, _⟩ := k5' x (List.mem_of_getElem? hx)
    have := List.all_eq_true.mp a6 nm (List.mem_cons_of_mem _ hn)
    simp only [Bool.or_eq_true, beq_iff_eq, decide_eq_true_eq] at this
    rcases this with rfl | this
    · simp at hn
    · exact this
  · obtain ⟨x, hx, rfl⟩ := clx j C hC
    obtain ⟨y, hy, rfl⟩ := clx j' E hE
    obtain ⟨_, a1, a2, a3, a4, a5, a6, a7, _⟩ := k5' x (List.mem_of_getElem? hx)
    have := of_decide_eq_true (List.all_eq_true.mp a7 _ (List.mem_of_getElem? hy))
    rw [this]
    by_cases e : j = j'
    · subst e
      rw [hx] at hy; cases hy
      simp
    · have hne : x ≠ y := fun q => by
        subst q
        exact e (some_nodup n4 hx hy)
      rw [beq_eq_false_iff_ne.mpr hne, beq_eq_false_iff_ne.mpr e]
  · obtain ⟨y, hy, rfl⟩ := clx j C hC
    obtain ⟨_, a1, a2, a3, a4, a5, a6, a7, a8⟩ := k5' y (List.mem_of_getElem? hy)
    exact noat_ok (List.all_eq_true.mp a8 x hx)
  · obtain ⟨r, hm, hr⟩ := atOf_mem e1 e2
    have q1 := List.all_eq_true.mp (List.all_eq_true.mp k6 _ hm) _ hr
    have q2 := List.all_eq_true.mp (List.all_eq_true.mp n5 _ hm) _ hr
    simp only [Bool.and_eq_true, Bool.not_eq_true'] at q2
    simp only at q1
    split at q1
    · rename_i cx hc
      simp only [Bool.and_eq_true, decide_eq_true_eq] at q1
      rw [← q1.2]
      exact ⟨(g.inp q2.2).1, by simpa using q2.1, ⟨ga K cx, clv j cx hc, meth_ok q1.1⟩, (g.inp q2.2).2⟩
    · cases q1
  · obtain ⟨r, hm, hr⟩ := atOf_mem e1 e2
    have q1 := List.all_eq_true.mp (List.all_eq_true.mp k8 _ hm) _ hr
    have q2 := List.all_eq_true.mp (List.all_eq_true.mp n6 _ hm) _ hr
    simp only at q1 q2
    split at q1
    · rename_i cx hc
      simp only [Bool.and_eq_true, decide_eq_true_eq] at q1
      obtain ⟨b1, b2, b3, b4⟩ := q1
      split at b4
      · rename_i gg rest hrec
        rw [← of_decide_eq_true b4]
        exact ⟨(g.inp q2).1, ⟨ga K cx, prA K cx x, clv j cx hc, ⟨eqO_ok b1, eqO_ok b2, b3, rest, hrec⟩⟩, (g.inp q2).2⟩
      · cases b4
    · cases q1
  · have e0 := of_decide_eq_true (List.all_eq_true.mp n2 _ (lookup_mem e1))
    have hm := zip_mem e0 e2
    have q1 := List.all_eq_true.mp k7 _ hm
    have q2 := List.all_eq_true.mp n7 _ hm
    simp only [Bool.and_eq_true, decide_eq_true_eq] at q1 q2
    rw [← q1.2]
    exact ⟨(g.inp q2).1, ⟨ga K x, clv j x e0, mkr_ok q1.1⟩, (g.inp q2).2⟩
  · obtain ⟨d, hd⟩ := hi
    obtain ⟨e, he, gd⟩ := g.get hd
    have hF := hfd i e he
    have hp : psOf dd i = e.ps := by unfold psOf; rw [he]
    rcases gd with ⟨_, gd⟩ | ⟨hk', _⟩
    · refine fun s us _ hl => ?_
      rw [List.append_nil] at hl ⊢
      rw [hp] at hl ⊢
      exact FunD.bindsA hF gd.bind s us hl
    · rw [hk] at hk'; cases hk'
  · have hm := lookup_mem hx
    have e2 := List.all_eq_true.mp k0 _ hm
    have e3 := List.all_eq_true.mp n0 _ hm
    simp only [Bool.and_eq_true, decide_eq_true_eq] at e2
    obtain ⟨e20, e21, e22, e23⟩ := e2
    have hi := g.inn e3
    refine ⟨hi, by rw [e22]; exact glo_ok X G e20, by rw [e22]; exact e21, ?_⟩
    obtain ⟨d, hd⟩ := hi
    obtain ⟨e, he, gd⟩ := g.get hd
    have hF := hfd i e he
    have hp : psOf dd i = e.ps := by unfold psOf; rw [he]
    have hkw : isKw T i = true := by
      unfold isKw
      exact List.any_eq_true.mpr ⟨_, hm, by simp⟩
    rcases gd with ⟨hk', _⟩ | ⟨_, kn', gd, hall⟩
    · rw [hkw] at hk'; cases hk'
    have hkn : kn = kn' := by
      have := List.all_eq_true.mp hall _ hm
      simpa using this
    subst hkn
    rw [hp]
    have hlen : e.ps.length = (e.ps.length - 1) + 1 := by
      have h1 := gd.pos
      omega
    refine ⟨e.ps.length - 1, ⟨fun s us ws KI l1 l2 => ?_, fun r1 r2 => r1.append r2⟩, hlen, fun d' hd' => ?_⟩
    · obtain ⟨oc, od, dV, kV, doc, pm, an, cdv, ct, osl, efd, lk, hcd, hD, hK⟩ := hF.ex
      rcases hD with ⟨_, rfl⟩ | ⟨z, _⟩
      · rw [efd]
        exact .of_eq (gd.bk kV doc pm an cdv ct us ws (by omega) l2)
      · exact absurd rfl z
    · subst hd'
      rw [← e22] at e23
      obtain ⟨v, hF2, rp⟩ := kwd_of hF e23
      obtain ⟨ds, rv, hb⟩ := FunD.binds0 hF2 (e.ps.length - 1) (by simp) (by simp; omega) (fun E doc pm an cdv ct us ks l1 l2 => gd.bd E doc pm an cdv ct us ks (by omega) l2)
      cases rv with
      | cons r rs => cases rs; exact ⟨_, v, hb, r, rp⟩
/-- a law's promise from its run -/
theorem law_sp {K : PySem.W.Frag} {F : Nm} {g : List D → Store → R D} {n : Nat} (hrun : ∀ ns : List Int, ns.length ≤ n → ∃ s', g [.ref 0] [.frz (ns.map .int)] = .ok (.bl true) s') (H : Hp) (a : Addr) (ns : List Int) (hl : ns.length ≤ n) (hO : Only H) (hS : SqL K H a (ns.map V.int)) (E : XK) :
    spOf K F g [.ref a] H (fun v _ => v = .bl true) E := by
  obtain ⟨s', hs⟩ := hrun ns hl
  have ri : ∀ μ H, ∀ ns : List Int, Rps K μ H (ns.map .int) (ns.map V.int) := fun μ H ns => by
    induction ns with
    | nil => exact .nil
    | cons i ns ih => exact .cons (.int i) ih
  have fin : ∀ μ : Mu, WP K F μ H (g [.ref 0] [.frz (ns.map .int)]) (VQ K fun v _ => v = .bl true) := fun μ => by
    rw [hs]
    intro μ' H' P v rv
    cases rv; rfl
  rcases hS with (h | ⟨o, h⟩) | ⟨o, its, m, q1, q2, q3, q4, q5, q6⟩
  · rcases hO a with e | ⟨o, xs, e⟩ <;> rw [h] at e <;> cases e
  · refine ⟨[(a, false)], [.frz (ns.map .int)], [.ref 0], ⟨rfl, fun l o' a' e1 e2 => ?_, fun l o' a' e1 e2 => ?_, fun l m a' e1 e2 => ?_⟩, .cons (.ref (b := false) rfl) .nil, fin _⟩
    · cases l with
      | zero => simp at e1 e2; subst e1; subst e2; exact ⟨o, _, h, ri _ _ ns⟩
      | succ l => simp at e1
    · cases l with
      | zero => simp at e2
      | succ l => simp at e1
    · cases l with
      | zero => cases m with
        | zero => rfl
        | succ m => simp at e2
      | succ l => simp at e1
  · refine ⟨[(a, true)], [.frz (ns.map .int)], [.ref 0], ⟨rfl, fun l o' a' e1 e2 => ?_, fun l o' a' e1 e2 => ?_, fun l m a' e1 e2 => ?_⟩, .cons (.ref (b := true) rfl) .nil, fin _⟩
    · cases l with
      | zero => simp at e2
      | succ l => simp at e1
    · cases l with
      | zero => simp at e1 e2; subst e1; subst e2; exact ⟨_, o, its, m, q1, q2, q3, q4, q5, q6, ri _ _ ns⟩
      | succ l => simp at e1
    · cases l with
      | zero => simp at e1
      | succ l => simp at e1
/-- all the law's parts, for walk_ofE -/
theorem law_end {pr : Program} {w : World} {mg : Str → Option Value} {fa : Addr} {h : Heap} {T : Tab} {L : Prog} {cn : List (Option Str)} {dd : List (Nat × Dd)} {x : Str} {lw : Str} {il kk n : Nat} (hk : (hookC 5 (ck T L.G cn dd) (fnOf dd)).says w h) (G : h.Ns mainGlobals mg) (nn : ckN T L.G cn dd = true) (g : Goods T L.defs dd) (hmg : mg lw = some (.ref fa))
    (hL : T.fns.lookup lw = some il) (hx : psOf dd il = [x]) (hrun : ∀ ns : List Int, ns.length ≤ n → ∃ s', run L kk il [.ref 0] [.frz (ns.map .int)] = .ok (.bl true) s') :
    ∃ (K : PySem.W.Frag) (fd : FuncData) (sp : Sp), K.In h ∧ (∀ (s : Shared) (u : Value), BindsTo s fd ⟨[u], []⟩ [(x, u)]) ∧
        (∀ (H : Hp) (a : Addr) (ns : List Int), ns.length ≤ n → Only H → SqL K H a (ns.map V.int) → sp [.ref a] H (fun v _ => v = .bl true) fun _ _ _ => False) ∧
        ∀ base : Heap, K.In base → base.Ns mainGlobals mg → FnOk pr w K mg base CX0 (2 * kk) fa fd [x] sp := by
  obtain ⟨K, KX, c⟩ := hk
  have h0 : ∃ i, Inn L i := by
    obtain ⟨s', hs⟩ := hrun [] (Nat.zero_le _)
    cases kk with
    | zero => simp only [run, reduceCtorEq] at hs
    | succ k =>
      simp only [run] at hs
      split at hs
      · exact ⟨_, _, by assumption⟩
      · cases hs
  obtain ⟨fd, W⟩ := world0 KX G c nn g h0
  obtain ⟨hi, e1, _, hkw⟩ := W.fns lw il hL
  rw [hmg] at e1
  cases e1
  obtain ⟨d, hd⟩ := hi
  refine ⟨K, fd il, spOf K (nmOf K T cn) (run L kk il), KX, fun s u => ?_, fun H a ns h1 h2 h3 => law_sp hrun H a ns h1 h2 h3 _, fun base _ _ => ?_⟩
  · obtain ⟨e, he, gd⟩ := g.get hd
    have gd : Good T d e := by
      rcases gd with ⟨_, gd⟩ | ⟨z, _⟩
      · exact gd
      · rw [hkw] at z; cases z
    obtain ⟨x', qual, params, body, scope, N, m, hF, _⟩ := W.defs il _ hd
    have hps : e.ps = [x] := by unfold psOf at hx; rw [he] at hx; exact hx
    have ha : adOf K dd il = e.loc.ad K := by unfold adOf; rw [he]
    obtain ⟨fd2, hF2⟩ := c.fun_ (fnOf_mem he)
    have efd : fd2 = fd il := by
      obtain ⟨oc, od, dV, kV, doc, pm, an, cdv, ct, osl, _, l1, _⟩ := hF2.ex
      obtain ⟨oc', od', dV', kV', doc', pm', an', cdv', ct', osl', _, l2, _⟩ := hF.ex
      rw [ha, l1] at l2
      have := Option.some.inj l2
      injection this with _ _ e3 _
      injection e3
    subst efd
    have := FunD.bindsA hF2 gd.bind s [u] (by rw [hps]; rfl)
    rw [hps] at this
    exact this
  · have := W.fnOk (pr := pr) (w := w) (base := base) kk il ⟨d, hd⟩
    rw [hx] at this
    exact this
end Nz
namespace Nz
/-- is_integer -/
def bd0 : Ss := 
  (.cons (.ret (.and (.isi (.var 0) [.int]) (.not (.isi (.var 0) [.bool])))) .nil)
/-- is_in -/
def bd1 : Ss := 
  (.cons (.ret (.and (.call 0 (.cons (.var 0) .nil)) (.chn .le .le (.var 1) (.var 0) (.var 2)))) .nil)
/-- is_list -/
def bd2 : Ss := 
  (.cons (.ret (.and (.isi (.var 0) [.tuple]) (.chn .le .le (.var 1) (.bi .len (.cons (.var 0) .nil)) (.var 2)))) .nil)
/-- _law_taken -/
def bd10 : Ss := 
  (.cons (.ifs (.val (.cmp .gt (.idx (.var 0) (.con (.int (3)))) (.con (.int (0))))) 
  (.cons (.set (.nm 2) (.bin .mod (.bi .int (.cons (.idx (.var 0) (.con (.int (3)))) .nil)) (.var 1))) 
  (.cons (.sti (.var 0) (.con (.int (3))) (.bin .fdiv (.idx (.var 0) (.con (.int (3)))) (.var 1))) 
  (.cons (.ret (.var 2)) .nil))) .nil) 
  (.cons (.sti (.var 0) (.con (.int (1))) (.bin .add (.idx (.var 0) (.con (.int (1)))) (.con (.int (1))))) 
  (.cons (.ifs (.val (.cmp .gt (.idx (.var 0) (.con (.int (1)))) (.bi .len (.cons (.idx (.var 0) (.con (.int (0)))) .nil)))) 
  (.cons (.sti (.var 0) (.con (.int (2))) (.bin .mod (.bi .int (.cons (.bin .add (.bin .mul (.idx (.var 0) (.con (.int (2)))) (.con (.int (48271)))) (.con (.int (11)))) .nil)) (.con (.int (2147483647))))) 
  (.cons (.ret (.bin .mod (.bi .int (.cons (.bin .fdiv (.idx (.var 0) (.con (.int (2)))) (.con (.int (7)))) .nil)) (.var 1))) .nil)) .nil) 
  (.cons (.set (.nm 3) (.idx (.idx (.var 0) (.con (.int (0)))) (.bin .sub (.idx (.var 0) (.con (.int (1)))) (.con (.int (1)))))) 
  (.cons (.sti (.var 0) (.con (.int (2))) (.bin .mod (.bi .int (.cons (.bin .add (.bin .add (.bin .mul (.idx (.var 0) (.con (.int (2)))) (.con (.int (48271)))) (.var 3)) (.con (.int (11)))) .nil)) (.con (.int (2147483647))))) 
  (.cons (.ifs (.val (.cmp .ge (.var 3) (.bin .pow (.con (.int (10))) (.con (.int (18)))))) 
  (.cons (.sti (.var 0) (.con (.int (3))) (.bin .fdiv (.var 3) (.var 1))) .nil) .nil) 
  (.cons (.ret (.bin .mod (.bi .int (.cons (.var 3) .nil)) (.var 1))) .nil)))))))
/-- _law_pick -/
def bd11 : Ss := 
  (.cons (.ret (.idx (.var 1) (.call 10 (.cons (.var 0) (.cons (.bi .len (.cons (.var 1) .nil)) .nil))))) .nil)
/-- _law_signed -/
def bd12 : Ss := 
  (.cons (.ret (.bin .sub (.call 10 (.cons (.var 0) (.cons (.bin .add (.bin .mul (.con (.int (2))) (.var 1)) (.con (.int (1)))) .nil))) (.var 1))) .nil)
/-- _law_alike -/
def bd13 : Ss := 
  (.cons (.ifs (.val (.isi (.var 1) [.tuple, .list])) 
  (.cons (.ifs (.or (.not (.val (.isi (.var 0) [.tuple, .list]))) (.val (.cmp .ne (.isi (.var 0) [.list]) (.isi (.var 1) [.list])))) 
  (.cons (.ret (.con (.bl false))) .nil) .nil) 
  (.cons (.ifs (.val (.cmp .ne (.bi .len (.cons (.var 0) .nil)) (.bi .len (.cons (.var 1) .nil)))) 
  (.cons (.ret (.con (.bl false))) .nil) .nil) 
  (.cons (.ret (.cmp .eq (.comp [2] (.var 2) (.nm 2) (.rng1 (.bi .len (.cons (.var 1) .nil))) (.some (.not (.val (.call 13 (.cons (.idx (.var 0) (.var 2)) (.cons (.idx (.var 1) (.var 2)) .nil))))))) (.lst .nil))) .nil))) .nil) 
  (.cons (.ifs (.or (.val (.cmp .is_ (.var 1) (.con .non))) (.val (.isi (.var 1) [.str]))) 
  (.cons (.ret (.and (.cmp .eq (.var 0) (.var 1)) (.cmp .eq (.isi (.var 0) [.str]) (.isi (.var 1) [.str])))) .nil) .nil) 
  (.cons (.ret (.and (.isi (.var 0) [.int]) (.and (.cmp .eq (.isi (.var 0) [.bool]) (.isi (.var 1) [.bool])) (.cmp .eq (.var 0) (.var 1))))) .nil)))
/-- gcd -/
def bd27 : Ss := 
  (.cons (.whl (.val (.cmp .ne (.var 1) (.con (.int (0))))) 
  (.cons (.par 0 1 (.var 1) (.bin .mod (.var 0) (.var 1))) .nil)) 
  (.cons (.ret (.var 0)) .nil))
/-- is_ratio -/
def bd28 : Ss := 
  (.cons (.ifs (.or (.not (.val (.call 2 (.cons (.var 0) (.cons (.con (.int (2))) (.cons (.con (.int (2))) .nil)))))) (.or (.not (.val (.call 0 (.cons (.idx (.var 0) (.con (.int (0)))) .nil)))) (.or (.not (.val (.call 0 (.cons (.idx (.var 0) (.con (.int (1)))) .nil)))) (.val (.cmp .lt (.idx (.var 0) (.con (.int (1)))) (.con (.int (1)))))))) 
  (.cons (.ret (.con (.bl false))) .nil) .nil) 
  (.cons (.ret (.cmp .eq (.call 27 (.cons (.bi .abs (.cons (.idx (.var 0) (.con (.int (0)))) .nil)) (.cons (.idx (.var 0) (.con (.int (1)))) .nil))) (.con (.int (1))))) .nil))
/-- mirrored -/
def bd31 : Ss := 
  (.cons (.set (.nm 2) (.bin .mul (.con (.int (2))) (.bin .sub (.var 1) (.con (.int (1)))))) 
  (.cons (.set (.nm 0) (.bin .mod (.var 0) (.var 2))) 
  (.cons (.ret (.ite (.val (.cmp .lt (.var 0) (.var 1))) (.var 0) (.bin .sub (.var 2) (.var 0)))) .nil)))
/-- weighted -/
def bd32 : Ss := 
  (.cons (.set (.nm 3) (.con (.int (0)))) 
  (.cons (.for_ (.tp [(.nm 4), (.nm 5)]) (.enum (.var 0)) 
  (.cons (.set (.nm 6) (.idx (.var 1) (.call 31 (.cons (.bin .sub (.bin .sub (.var 2) (.con (.int (1)))) (.bin .mul (.con (.int (2))) (.var 4))) (.cons (.bi .len (.cons (.var 1) .nil)) .nil))))) 
  (.cons (.set (.nm 7) (.idx (.var 1) (.call 31 (.cons (.bin .add (.bin .add (.var 2) (.con (.int (1)))) (.bin .mul (.con (.int (2))) (.var 4))) (.cons (.bi .len (.cons (.var 1) .nil)) .nil))))) 
  (.cons (.aug 3 .add (.bin .mul (.var 5) (.bin .add (.var 6) (.var 7)))) .nil)))) 
  (.cons (.ret (.var 3)) .nil)))
/-- is_changed -/
def bd33 : Ss := 
  (.cons (.ret (.cmp .eq (.bin .mod (.bin .add (.var 0) (.var 1)) (.con (.int (2)))) (.con (.int (1))))) .nil)
/-- with_step -/
def bd34 : Ss := 
  (.cons (.set (.tp [(.nm 5), (.nm 6)]) (.idx (.var 0) (.var 1))) 
  (.cons (.set (.nm 7) (.bi .mkl (.cons (.var 3) .nil))) 
  (.cons (.ifs (.val (.cmp .gt (.bi .len (.cons (.var 3) .nil)) (.con (.int (1))))) 
  (.cons (.for_ (.nm 8) (.rng1 (.bi .len (.cons (.var 3) .nil))) 
  (.cons (.ifs (.val (.call 33 (.cons (.var 1) (.cons (.bin .add (.var 2) (.var 8)) .nil)))) 
  (.cons (.augi (.var 7) (.var 8) .add (.bin .mul (.var 4) (.bin .shr (.bin .add (.call 32 (.cons (.var 5) (.cons (.var 3) (.cons (.var 8) .nil)))) (.bin .shr (.bin .shl (.con (.int (1))) (.var 6)) (.con (.int (1))))) (.var 6)))) .nil) .nil) .nil)) .nil) .nil) 
  (.cons (.ret (.var 7)) .nil))))
/-- reduced -/
def bd54 : Ss := 
  (.cons (.set (.nm 2) (.call 27 (.cons (.bi .abs (.cons (.var 0) .nil)) (.cons (.bi .abs (.cons (.var 1) .nil)) .nil)))) 
  (.cons (.ifs (.val (.cmp .lt (.var 1) (.con (.int (0))))) 
  (.cons (.set (.nm 2) (.neg (.var 2))) .nil) .nil) 
  (.cons (.ret (.tup (.cons (.bin .fdiv (.var 0) (.var 2)) (.cons (.bin .fdiv (.var 1) (.var 2)) .nil)))) .nil)))
/-- _law_gcd -/
def bd61 : Ss := 
  (.cons (.whl (.val (.cmp .ne (.var 1) (.con (.int (0))))) 
  (.cons (.par 0 1 (.var 1) (.bin .mod (.bi .int (.cons (.var 0) .nil)) (.var 1))) .nil)) 
  (.cons (.ret (.var 0)) .nil))
/-- _law_lowest -/
def bd62 : Ss := 
  (.cons (.set (.nm 2) (.call 61 (.cons (.bi .abs (.cons (.var 0) .nil)) (.cons (.var 1) .nil)))) 
  (.cons (.ret (.tup (.cons (.bin .fdiv (.var 0) (.var 2)) (.cons (.bin .fdiv (.var 1) (.var 2)) .nil)))) .nil))
/-- times -/
def bd103 : Ss := 
  (.cons (.ret (.call 54 (.cons (.bin .mul (.idx (.var 0) (.con (.int (0)))) (.idx (.var 1) (.con (.int (0))))) (.cons (.bin .mul (.idx (.var 0) (.con (.int (1)))) (.idx (.var 1) (.con (.int (1))))) .nil)))) .nil)
/-- _law_times -/
def bd110 : Ss := 
  (.cons (.ret (.call 62 (.cons (.bin .mul (.idx (.var 0) (.con (.int (0)))) (.idx (.var 1) (.con (.int (0))))) (.cons (.bin .mul (.idx (.var 0) (.con (.int (1)))) (.idx (.var 1) (.con (.int (1))))) .nil)))) .nil)
/-- _law_plus -/
def bd111 : Ss := 
  (.cons (.ret (.call 62 (.cons (.bin .add (.bin .mul (.idx (.var 0) (.con (.int (0)))) (.idx (.var 1) (.con (.int (1))))) (.bin .mul (.idx (.var 1) (.con (.int (0)))) (.idx (.var 0) (.con (.int (1)))))) (.cons (.bin .mul (.idx (.var 0) (.con (.int (1)))) (.idx (.var 1) (.con (.int (1))))) .nil)))) .nil)
/-- _law_less -/
def bd143 : Ss := 
  (.cons (.ret (.cmp .lt (.bin .mul (.idx (.var 0) (.con (.int (0)))) (.idx (.var 1) (.con (.int (1))))) (.bin .mul (.idx (.var 1) (.con (.int (0)))) (.idx (.var 0) (.con (.int (1))))))) .nil)
/-- is_state -/
def bd224 : Ss := 
  (.cons (.ifs (.or (.not (.val (.call 2 (.cons (.var 0) (.cons (.con (.int (4))) (.cons (.con (.int (4))) .nil)))))) (.or (.not (.val (.call 1 (.cons (.idx (.var 0) (.con (.int (0)))) (.cons (.con (.int (1))) (.cons (.bin .fdiv (.con (.int (64))) (.con (.int (2)))) .nil)))))) (.not (.val (.call 1 (.cons (.idx (.var 0) (.con (.int (3)))) (.cons (.con (.int (0))) (.cons (.con (.int (1))) .nil)))))))) 
  (.cons (.ret (.con (.bl false))) .nil) .nil) 
  (.cons (.ret (.and (.call 1 (.cons (.idx (.var 0) (.con (.int (1)))) (.cons (.con (.int (0))) (.cons (.bin .sub (.var 1) (.con (.int (1)))) .nil)))) (.call 1 (.cons (.idx (.var 0) (.con (.int (2)))) (.cons (.con (.int (0))) (.cons (.bin .sub (.var 1) (.con (.int (1)))) .nil)))))) .nil))
/-- Table.__init__ -/
def bd225 : Ss := 
  (.cons (.ifs (.not (.val (.call 2 (.cons (.var 1) (.cons (.con (.int (1))) (.cons (.con (.int (32))) .nil)))))) 
  (.cons .raise .nil) .nil) 
  (.cons (.for_ (.tp [(.nm 2), (.nm 3)]) (.enum (.var 1)) 
  (.cons (.ifs (.not (.val (.call 224 (.cons (.var 3) (.cons (.bi .len (.cons (.var 1) .nil)) .nil))))) 
  (.cons .raise .nil) .nil) .nil)) 
  (.cons (.stf (.var 0) 1 (.var 1)) .nil)))
/-- Table.states -/
def bd226 : Ss := 
  (.cons (.ret (.fld (.var 0) 1)) .nil)
/-- Table.__eq__ -/
def bd227 : Ss := 
  (.cons (.ret (.and (.isi (.var 1) [(.cls 1)]) (.cmp .eq (.fld (.var 0) 1) (.fld (.var 1) 1)))) .nil)
/-- _law_states -/
def bd229 : Ss := 
  (.cons (.par 1 2 (.call 10 (.cons (.var 0) (.cons (.con (.int (4))) .nil))) (.bin .add (.con (.int (1))) (.call 11 (.cons (.var 0) (.cons (.lst (.cons (.con (.int (0))) (.cons (.call 10 (.cons (.var 0) (.cons (.con (.int (4))) .nil))) (.cons (.call 10 (.cons (.var 0) (.cons (.con (.int (32))) .nil))) .nil)))) .nil))))) 
  (.cons (.ifs (.val (.cmp .eq (.var 1) (.con (.int (0))))) 
  (.cons (.par 3 4 (.lst (.cons (.con (.int (32))) (.cons (.con (.int (28))) (.cons (.con (.int (24))) (.cons (.con (.int (21))) (.cons (.con (.int (18))) (.cons (.con (.int (16))) (.cons (.con (.int (14))) (.cons (.con (.int (12))) (.cons (.con (.int (10))) (.cons (.con (.int (9))) (.cons (.con (.int (8))) (.cons (.con (.int (7))) (.cons (.con (.int (6))) (.cons (.con (.int (5))) (.cons (.con (.int (4))) (.cons (.con (.int (3))) (.cons (.con (.int (2))) (.cons (.con (.int (1))) .nil))))))))))))))))))) (.lst .nil)) 
  (.cons (.for_ (.nm 5) (.rng1 (.con (.int (18)))) 
  (.cons (.ex (.app (.var 4) (.tup (.cons (.idx (.var 3) (.var 5)) (.cons (.bi .min2 (.cons (.bin .add (.var 5) (.con (.int (1)))) (.cons (.con (.int (17))) .nil))) (.cons (.bi .max2 (.cons (.bin .sub (.var 5) (.con (.int (2)))) (.cons (.con (.int (0))) .nil))) (.cons (.bi .int (.cons (.cmp .eq (.var 5) (.con (.int (0)))) .nil)) .nil))))))) .nil)) 
  (.cons (.ret (.bi .mkt (.cons (.var 4) .nil))) .nil))) .nil) 
  (.cons (.set (.tp [(.nm 6), (.nm 7), (.nm 4)]) (.tup (.cons (.call 11 (.cons (.var 0) (.cons (.lst (.cons (.con (.int (1))) (.cons (.con (.int (32))) (.cons (.con (.int (0))) (.cons (.con (.int (0))) .nil))))) .nil))) (.cons (.call 10 (.cons (.var 0) (.cons (.con (.int (3))) .nil))) (.cons (.lst .nil) .nil))))) 
  (.cons (.for_ (.nm 5) (.rng1 (.var 2)) 
  (.cons (.set (.nm 8) (.ite (.val (.cmp .gt (.var 6) (.con (.int (0))))) (.var 6) (.bin .add (.con (.int (1))) (.call 10 (.cons (.var 0) (.cons (.con (.int (32))) .nil)))))) 
  (.cons (.set (.nm 9) (.ite (.val (.cmp .lt (.var 7) (.con (.int (2))))) (.var 7) (.call 10 (.cons (.var 0) (.cons (.con (.int (2))) .nil))))) 
  (.cons (.set (.nm 10) (.tup (.cons (.bin .mod (.bi .int (.cons (.bin .add (.var 5) (.con (.int (1)))) .nil)) (.var 2)) (.cons (.bin .mod (.bi .int (.cons (.bin .sub (.bin .add (.var 5) (.var 2)) (.con (.int (1)))) .nil)) (.var 2)) .nil)))) 
  (.cons (.ifs (.val (.cmp .gt (.var 1) (.con (.int (1))))) 
  (.cons (.set (.nm 10) (.tup (.cons (.call 10 (.cons (.var 0) (.cons (.var 2) .nil))) (.cons (.call 10 (.cons (.var 0) (.cons (.var 2) .nil))) .nil)))) .nil) .nil) 
  (.cons (.ex (.app (.var 4) (.tup (.cons (.var 8) (.cons (.idx (.var 10) (.con (.int (0)))) (.cons (.idx (.var 10) (.con (.int (1)))) (.cons (.var 9) .nil))))))) .nil)))))) 
  (.cons (.ret (.bi .mkt (.cons (.var 4) .nil))) .nil)))))
/-- _wall -/
def bd233 : Ss := 
  (.cons (.whl (.val (.con (.bl true))) 
  (.cons .pass .nil)) .nil)
/-- need_table -/
def bd235 : Ss := 
  (.cons (.ifs (.not (.val (.isi (.var 0) [(.cls 1)]))) 
  (.cons .raise .nil) .nil) .nil)
/-- Walk.__init__ -/
def bd236 : Ss := 
  (.cons (.stf (.var 0) 3 (.var 1)) 
  (.cons (.stf (.var 0) 4 (.dnew false)) 
  (.cons (.ex (.meth (.var 0) 1 .nil)) .nil)))
/-- Walk.restart -/
def bd237 : Ss := 
  (.cons (.stf (.var 0) 5 (.con (.int (0)))) 
  (.cons (.stf (.var 0) 6 (.con (.int (65536)))) 
  (.cons (.stf (.var 0) 7 (.con (.int (0)))) .nil)))
/-- Walk.place -/
def bd238 : Ss := 
  (.cons (.ret (.dget (.fld (.var 0) 4) (.var 1) (.tup (.cons (.con (.int (0))) (.cons (.con (.int (0))) .nil))))) .nil)
/-- Walk.common_part -/
def bd239 : Ss := 
  (.cons (.ret (.bin .sub (.fld (.var 0) 6) (.bin .fdiv (.bin .mul (.fld (.var 0) 6) (.idx (.idx (.prop (.fld (.var 0) 3) 1) (.idx (.meth (.var 0) 2 (.cons (.var 1) .nil)) (.con (.int (0))))) (.con (.int (0))))) (.con (.int (64)))))) .nil)
/-- Walk.step -/
def bd240 : Ss := 
  (.cons (.set (.tp [(.nm 3), (.nm 4)]) (.meth (.var 0) 2 (.cons (.var 2) .nil))) 
  (.cons (.set (.nm 5) (.meth (.var 0) 3 (.cons (.var 2) .nil))) 
  (.cons (.set (.nm 6) (.idx (.prop (.fld (.var 0) 3) 1) (.var 3))) 
  (.cons (.ifs (.val (.cmp .eq (.var 1) (.var 4))) 
  (.cons (.stf (.var 0) 6 (.var 5)) 
  (.cons (.sti (.fld (.var 0) 4) (.var 2) (.tup (.cons (.idx (.var 6) (.con (.int (1)))) (.cons (.var 4) .nil)))) .nil)) 
  (.cons (.augf (.var 0) 5 .add (.var 5)) 
  (.cons (.augf (.var 0) 6 .sub (.var 5)) 
  (.cons (.sti (.fld (.var 0) 4) (.var 2) (.tup (.cons (.idx (.var 6) (.con (.int (2)))) (.cons (.ite (.val (.cmp .eq (.idx (.var 6) (.con (.int (3)))) (.con (.int (1))))) (.bin .sub (.con (.int (1))) (.var 4)) (.var 4)) .nil)))) .nil)))) 
  (.cons (.set (.nm 7) (.con (.int (0)))) 
  (.cons (.whl (.val (.cmp .lt (.fld (.var 0) 6) (.con (.int (32768))))) 
  (.cons (.augf (.var 0) 5 .mul (.con (.int (2)))) 
  (.cons (.augf (.var 0) 6 .mul (.con (.int (2)))) 
  (.cons (.aug 7 .add (.con (.int (1)))) .nil)))) 
  (.cons (.augf (.var 0) 7 .add (.var 7)) 
  (.cons (.ret (.var 7)) .nil))))))))
/-- Walk.size -/
def bd241 : Ss := 
  (.cons (.ret (.bin .shl (.con (.int (65536))) (.fld (.var 0) 7))) .nil)
/-- written -/
def bd242 : Ss := 
  (.cons (.set (.nm 2) (.lst .nil)) 
  (.cons (.for_ (.nm 3) (.rng1 (.var 1)) 
  (.cons (.ex (.app (.var 2) (.bin .mod (.var 0) (.con (.int (256)))))) 
  (.cons (.set (.nm 0) (.bin .fdiv (.var 0) (.con (.int (256))))) .nil))) 
  (.cons (.ret (.bi .mkt (.cons (.rev (.var 2)) .nil))) .nil)))
/-- shortest -/
def bd243 : Ss := 
  (.cons (.par 1 2 (.con (.int (0))) (.con (.int (1)))) 
  (.cons (.set (.nm 3) (.con (.int (0)))) 
  (.cons (.whl (.or (.val (.cmp .ge (.bin .mul (.var 3) (.meth (.var 0) 5 .nil)) (.bin .mul (.bin .add (.fld (.var 0) 5) (.fld (.var 0) 6)) (.var 2)))) (.val (.cmp .lt (.bin .mul (.var 3) (.meth (.var 0) 5 .nil)) (.bin .mul (.fld (.var 0) 5) (.var 2))))) 
  (.cons (.par 1 2 (.bin .add (.var 1) (.con (.int (1)))) (.bin .mul (.var 2) (.con (.int (256))))) 
  (.cons (.set (.nm 3) (.neg (.bin .fdiv (.bin .mul (.neg (.fld (.var 0) 5)) (.var 2)) (.meth (.var 0) 5 .nil)))) .nil))) 
  (.cons (.ret (.call 242 (.cons (.var 3) (.cons (.var 1) .nil)))) .nil))))
/-- told_states -/
def bd244 : Ss := 
  (.cons (.ret (.bi .mkt (.cons (.bi .sorted (.cons (.lck (.fld (.var 0) 4) (.comp [1, 2] (.tup (.cons (.var 1) (.spl (.var 2) .nil))) (.tp [(.nm 1), (.nm 2)]) (.ditm (.fld (.var 0) 4)) .none)) .nil)) .nil))) .nil)
/-- Encoder.__init__ -/
def bd245 : Ss := 
  (.cons (.ex (.call 235 (.cons (.var 1) .nil))) 
  (.cons (.stf (.var 0) 8 (.mk 2 (.cons (.var 1) .nil))) 
  (.cons (.stf (.var 0) 9 (.con (.int (0)))) .nil)))
/-- Encoder.coded -/
def bd246 : Ss := 
  (.cons (.ex (.call 233 (.cons (.con (.int (0))) .nil))) .nil)
/-- Encoder.states -/
def bd247 : Ss := 
  (.cons (.ret (.call 244 (.cons (.fld (.var 0) 8) .nil))) .nil)
/-- Encoder.put -/
def bd248 : Ss := 
  (.cons (.ifs (.not (.val (.call 1 (.cons (.var 1) (.cons (.con (.int (0))) (.cons (.con (.int (1))) .nil)))))) 
  (.cons .raise .nil) .nil) 
  (.cons (.ifs (.not (.val (.call 1 (.cons (.var 2) (.cons (.con (.int (0))) (.cons (.con (.int (31))) .nil)))))) 
  (.cons .raise .nil) .nil) 
  (.cons (.ifs (.val (.cmp .eq (.fld (.var 0) 9) (.con (.int (4000))))) 
  (.cons .raise .nil) .nil) 
  (.cons (.ex (.meth (.fld (.var 0) 8) 4 (.cons (.var 1) (.cons (.var 2) .nil)))) 
  (.cons (.augf (.var 0) 9 .add (.con (.int (1)))) .nil)))))
/-- Encoder.flush -/
def bd250 : Ss := 
  (.cons (.set (.nm 1) (.call 243 (.cons (.fld (.var 0) 8) .nil))) 
  (.cons (.ex (.meth (.fld (.var 0) 8) 1 .nil)) 
  (.cons (.stf (.var 0) 9 (.con (.int (0)))) 
  (.cons (.ret (.var 1)) .nil))))
/-- _law_bits -/
def bd251 : Ss := 
  (.cons (.set (.nm 2) (.call 10 (.cons (.var 0) (.cons (.con (.int (6))) .nil)))) 
  (.cons (.ifs (.val (.cmp .lt (.var 2) (.con (.int (2))))) 
  (.cons (.ret (.bin .mul (.lst (.cons (.var 2) .nil)) (.var 1))) .nil) .nil) 
  (.cons (.ifs (.val (.cmp .eq (.var 2) (.con (.int (2))))) 
  (.cons (.ret (.comp [3] (.bin .mod (.bi .int (.cons (.var 3) .nil)) (.con (.int (2)))) (.nm 3) (.rng1 (.var 1)) .none)) .nil) .nil) 
  (.cons (.ifs (.val (.cmp .eq (.var 2) (.con (.int (3))))) 
  (.cons (.ret (.comp [3] (.bi .int (.cons (.cmp .eq (.call 10 (.cons (.var 0) (.cons (.con (.int (7))) .nil))) (.con (.int (0)))) .nil)) (.nm 3) (.rng1 (.var 1)) .none)) .nil) .nil) 
  (.cons (.ret (.comp [3] (.call 10 (.cons (.var 0) (.cons (.con (.int (2))) .nil))) (.nm 3) (.rng1 (.var 1)) .none)) .nil)))))
/-- _law_contexts -/
def bd252 : Ss := 
  (.cons (.set (.nm 2) (.call 11 (.cons (.var 0) (.cons (.lst (.cons (.con (.int (1))) (.cons (.con (.int (2))) (.cons (.con (.int (5))) (.cons (.con (.int (32))) .nil))))) .nil)))) 
  (.cons (.set (.nm 3) (.call 10 (.cons (.var 0) (.cons (.bin .sub (.con (.int (33))) (.var 2)) .nil)))) 
  (.cons (.ret (.comp [4] (.bin .add (.var 3) (.call 10 (.cons (.var 0) (.cons (.var 2) .nil)))) (.nm 4) (.rng1 (.var 1)) .none)) .nil)))
/-- _law_pairs -/
def bd253 : Ss := 
  (.cons (.par 2 3 (.call 251 (.cons (.var 0) (.cons (.var 1) .nil))) (.call 252 (.cons (.var 0) (.cons (.var 1) .nil)))) 
  (.cons (.ret (.bi .mkt (.cons (.comp [4] (.tup (.cons (.idx (.var 2) (.var 4)) (.cons (.idx (.var 3) (.var 4)) .nil))) (.nm 4) (.rng1 (.var 1)) .none) .nil))) .nil))
/-- _law_walk -/
def bd254 : Ss := 
  (.cons (.set (.tp [(.nm 3), (.nm 4), (.nm 5)]) (.tup (.cons (.con (.int (0))) (.cons (.con (.int (65536))) (.cons (.con (.int (0))) .nil))))) 
  (.cons (.for_ (.tp [(.nm 6), (.nm 7)]) (.seq (.var 2)) 
  (.cons (.set (.tp [(.nm 8), (.nm 9)]) (.dget (.var 1) (.var 7) (.tup (.cons (.con (.int (0))) (.cons (.con (.int (0))) .nil))))) 
  (.cons (.set (.tp [(.nm 10), (.nm 11), (.nm 12), (.nm 13)]) (.idx (.var 0) (.var 8))) 
  (.cons (.set (.nm 14) (.bin .fdiv (.bin .mul (.var 4) (.var 10)) (.con (.int (64))))) 
  (.cons (.ifs (.val (.cmp .eq (.var 6) (.var 9))) 
  (.cons (.set (.nm 4) (.bin .sub (.var 4) (.var 14))) 
  (.cons (.sti (.var 1) (.var 7) (.tup (.cons (.var 11) (.cons (.var 9) .nil)))) .nil)) 
  (.cons (.par 3 4 (.bin .sub (.bin .add (.var 3) (.var 4)) (.var 14)) (.var 14)) 
  (.cons (.sti (.var 1) (.var 7) (.tup (.cons (.var 12) (.cons (.bin .sub (.bin .add (.var 9) (.var 13)) (.bin .mul (.bin .mul (.con (.int (2))) (.var 9)) (.var 13))) .nil)))) .nil))) 
  (.cons (.whl (.val (.cmp .lt (.var 4) (.con (.int (32768))))) 
  (.cons (.set (.tp [(.nm 3), (.nm 4), (.nm 5)]) (.tup (.cons (.bin .mul (.con (.int (2))) (.var 3)) (.cons (.bin .mul (.con (.int (2))) (.var 4)) (.cons (.bin .add (.var 5) (.con (.int (1)))) .nil))))) .nil)) .nil)))))) 
  (.cons (.ret (.tup (.cons (.var 3) (.cons (.var 4) (.cons (.var 5) .nil))))) .nil)))
/-- law -/
def bd255 : Ss := 
  (.cons (.set (.nm 1) (.lst (.cons (.var 0) (.cons (.con (.int (0))) (.cons (.con (.int (3123))) (.cons (.con (.int (0))) .nil)))))) 
  (.cons (.for_ (.nm 2) (.rng1 (.con (.int (2)))) 
  (.cons (.set (.nm 3) (.call 229 (.cons (.var 1) .nil))) 
  (.cons (.set (.tp [(.nm 4), (.nm 5), (.nm 6)]) (.tup (.cons (.mk 1 (.cons (.var 3) .nil)) (.cons (.call 253 (.cons (.var 1) (.cons (.call 11 (.cons (.var 1) (.cons (.lst (.cons (.call 10 (.cons (.var 1) (.cons (.con (.int (9))) .nil))) (.cons (.call 10 (.cons (.var 1) (.cons (.con (.int (91))) .nil))) .nil))) .nil))) .nil))) (.cons (.dnew false) .nil))))) 
  (.cons (.set (.nm 7) (.mk 3 (.cons (.var 4) .nil))) 
  (.cons (.for_ (.nm 8) (.seq (.var 5)) 
  (.cons (.ex (.meth (.var 7) 6 (.cons (.idx (.var 8) (.con (.int (0)))) (.cons (.idx (.var 8) (.con (.int (1)))) .nil)))) 
  (.cons (.ex (.call 254 (.cons (.var 3) (.cons (.var 6) (.cons (.tup (.cons (.var 8) .nil)) .nil))))) 
  (.cons (.ifs (.not (.val (.call 13 (.cons (.prop (.var 7) 1) (.cons (.bi .mkt (.cons (.comp [9] (.bin .add (.tup (.cons (.var 9) .nil)) (.idx (.var 6) (.var 9))) (.nm 9) (.seq (.bi .sorted (.cons (.bi .mkl (.cons (.var 6) .nil)) .nil))) .none) .nil)) .nil))))) 
  (.cons (.ret (.con (.bl false))) .nil) .nil) .nil)))) 
  (.cons (.for_ (.nm 9) (.seq (.bi .sorted (.cons (.bi .mkl (.cons (.var 6) .nil)) .nil))) 
  (.cons (.set (.nm 10) (.mk 3 (.cons (.var 4) .nil))) 
  (.cons (.for_ (.nm 8) (.seq (.var 5)) 
  (.cons (.ifs (.val (.cmp .eq (.idx (.var 8) (.con (.int (1)))) (.var 9))) 
  (.cons (.ex (.meth (.var 10) 6 (.cons (.idx (.var 8) (.con (.int (0)))) (.cons (.var 9) .nil)))) .nil) .nil) .nil)) 
  (.cons (.ifs (.not (.val (.call 13 (.cons (.prop (.var 10) 1) (.cons (.tup (.cons (.bin .add (.tup (.cons (.var 9) .nil)) (.idx (.var 6) (.var 9))) .nil)) .nil))))) 
  (.cons (.ret (.con (.bl false))) .nil) .nil) .nil)))) .nil)))))) 
  (.cons (.ret (.con (.bl true))) .nil)))
/-- need_pairs -/
def bd257 : Ss := 
  (.cons (.ifs (.not (.val (.isi (.var 0) [.tuple]))) 
  (.cons .raise .nil) .nil) 
  (.cons (.ifs (.val (.cmp .gt (.bi .len (.cons (.var 0) .nil)) (.con (.int (4000))))) 
  (.cons .raise .nil) .nil) 
  (.cons (.for_ (.tp [(.nm 1), (.nm 2)]) (.enum (.var 0)) 
  (.cons (.ifs (.or (.not (.val (.call 2 (.cons (.var 2) (.cons (.con (.int (2))) (.cons (.con (.int (2))) .nil)))))) (.or (.not (.val (.call 1 (.cons (.idx (.var 2) (.con (.int (0)))) (.cons (.con (.int (0))) (.cons (.con (.int (1))) .nil)))))) (.not (.val (.call 1 (.cons (.idx (.var 2) (.con (.int (1)))) (.cons (.con (.int (0))) (.cons (.con (.int (31))) .nil)))))))) 
  (.cons .raise .nil) .nil) .nil)) .nil)))
/-- walked -/
def bd258 : Ss := 
  (.cons (.ex (.call 235 (.cons (.var 0) .nil))) 
  (.cons (.ex (.call 257 (.cons (.var 1) .nil))) 
  (.cons (.set (.nm 2) (.mk 2 (.cons (.var 0) .nil))) 
  (.cons (.for_ (.tp [(.nm 3), (.nm 4)]) (.seq (.var 1)) 
  (.cons (.ex (.meth (.var 2) 4 (.cons (.var 3) (.cons (.var 4) .nil)))) .nil)) 
  (.cons (.ret (.var 2)) .nil)))))
/-- interval -/
def bd259 : Ss := 
  (.cons (.set (.nm 2) (.call 258 (.cons (.var 0) (.cons (.var 1) .nil)))) 
  (.cons (.ret (.tup (.cons (.call 54 (.cons (.fld (.var 2) 5) (.cons (.meth (.var 2) 5 .nil) .nil))) (.cons (.call 54 (.cons (.fld (.var 2) 6) (.cons (.meth (.var 2) 5 .nil) .nil))) .nil)))) .nil))
/-- doublings -/
def bd260 : Ss := 
  (.cons (.ret (.fld (.call 258 (.cons (.var 0) (.cons (.var 1) .nil))) 7)) .nil)
/-- _law_size -/
def bd261 : Ss := 
  (.cons (.ret (.bin .shl (.con (.int (65536))) (.var 0))) .nil)
end Nz
namespace Nz
/-! ### plain rules -/
theorem R.bind_congr {α β : Type} {r r' : R α} {f : α → Store → R β} (h : r = r') : r.bind f = r'.bind f := by rw [h]
theorem R.grd_congr {α : Type} {b b' : Bool} {r : R α} (h : b = b') : R.grd b r = R.grd b' r := by rw [h]
@[simp] theorem cl_non (n : Nat) : D.cl n .non = true := by simp only [D.cl]
@[simp] theorem cl_bl (n : Nat) (b : Bool) : D.cl n (.bl b) = true := by simp only [D.cl]
@[simp] theorem cl_int (n : Nat) (b : Int) : D.cl n (.int b) = true := by simp only [D.cl]
@[simp] theorem cl_str (n : Nat) (b : Str) : D.cl n (.str b) = true := by simp only [D.cl]
@[simp] theorem cl_tup (n : Nat) (ds : List D) : D.cl n (.tup ds) = D.cls n ds := by simp only [D.cl]
@[simp] theorem cl_ref (n l : Nat) : D.cl n (.ref l) = decide (l < n) := by simp only [D.cl]
@[simp] theorem cls_nil (n : Nat) : D.cls n [] = true := by simp only [D.cls]
@[simp] theorem cls_cons (n : Nat) (d : D) (ds : List D) : D.cls n (d :: ds) = (D.cl n d && D.cls n ds) := by simp only [D.cls]
theorem pfx_app {n : Nat} : ∀ (st js : Store), pfx n st (st ++ js) = true
  | [], _ => by simp [pfx]
  | o :: os, js => by simp [pfx, O.beq_refl, pfx_app os js]
theorem pfx_self {n : Nat} (st : Store) : pfx n st st = true := by simpa using pfx_app (n := n) st []
theorem cls_int {n : Nat} : ∀ (is : List Int), D.cls n (is.map .int) = true
  | [] => by simp [D.cls]
  | i :: is => by simp [D.cls, D.cl, cls_int is]
/-- the call's end: a value that names no new place -/
theorem gc_ret {st s : Store} {d : D} (h1 : pfx st.length st s = true) (h2 : D.cl st.length d = true) : gc st (.ok d s) = .ok d (s.take st.length) := by
  simp [gc, h1, h2]
theorem gc_same {st : Store} {d : D} (js : Store) (h2 : D.cl st.length d = true) : gc st (.ok d (st ++ js)) = .ok d st := by
  rw [gc_ret (pfx_app _ _) h2]; simp
theorem gc_id {st : Store} {d : D} (h2 : D.cl st.length d = true) : gc st (.ok d st) = .ok d st := by simpa using gc_same (st := st) [] h2
theorem run_eq {P : Prog} {i : Nat} {d : Df} (h : P.defs.lookup i = some d) (k : Nat) (ds : List D) (st : Store) :
    run P (k + 1) i ds st = R.grd (ds.length == d.np) (gc st ((exs P.G (run P k) d.body (ds.map some ++ List.replicate (d.ns - d.np) none) st).bind fin)) := by
  simp only [run, h]
theorem compLoop_congr {step : D → Store → R (Option D)} {wat wat' : List (Nat × O)} {st₀ st₀' : Store} {c c' : Bool} {ds ds' : List D} {st st' : Store} (h1 : wat = wat') (h2 : st₀ = st₀') (h3 : c = c') (h4 : ds = ds') (h5 : st = st') : compLoop step wat st₀ c ds st = compLoop step wat' st₀' c' ds' st' := by
  subst h1 h2 h3 h4 h5; rfl
theorem forLoop_congr {body : Env → Store → R (Fl × Env)} {t : T} {ρ₀ ρ₀' : Env} {wat wat' : List (Nat × O)} {st₀ st₀' : Store} {ds ds' : List D} {ρ ρ' : Env} {st st' : Store} (h0 : ρ₀ = ρ₀') (h1 : wat = wat') (h2 : st₀ = st₀') (h3 : ρ = ρ') (h4 : ds = ds') (h5 : st = st') : forLoop body t ρ₀ st₀ wat ds ρ st = forLoop body t ρ₀' st₀' wat' ds' ρ' st' := by
  subst h0 h1 h2 h3 h4 h5; rfl
theorem whlLoop_congr {test : Env → Store → R Bool} {body : Env → Store → R (Fl × Env)} {ρ₀ ρ₀' : Env} {st₀ st₀' : Store} {n : Nat} {ρ ρ' : Env} {st st' : Store} (h0 : ρ₀ = ρ₀') (h2 : st₀ = st₀') (h3 : ρ = ρ') (h5 : st = st') : whlLoop test body ρ₀ st₀ n ρ st = whlLoop test body ρ₀' st₀' n ρ' st' := by
  subst h0 h2 h3 h5; rfl
theorem cutT_take {st : Store} (b : Bool) (js : Store) : cutT b st (st ++ js) = (match b with | true => st | false => st ++ js) := by
  cases b <;> simp [cutT]
theorem cutT_same (b : Bool) (st : Store) : cutT b st st = st := by
  cases b <;> simp [cutT]
/-- a comprehension whose turns leave the store -/
theorem compLoop_pure {step : D → Store → R (Option D)} {wat : List (Nat × O)} {st : Store} (f : D → Option D) : ∀ (c : Bool) (ds : List D), watOk wat st = true → (∀ d ∈ ds, step d st = .ok (f d) st) → compLoop step wat st c ds st = .ok (ds.filterMap f) st
  | c, [], h, _ => by simp [compLoop, h]
  | c, d :: ds, h, hs => by
    rw [compLoop, h, R.grd_true, hs d (List.mem_cons_self ..), R.bind_ok, cutT_same, compLoop_pure f _ ds h fun e he => hs e (List.mem_cons_of_mem _ he), R.bind_ok]
    cases q : f d <;> simp [q]
/-- a loop with an invariant by the turn -/
theorem forLoop_inv {body : Env → Store → R (Fl × Env)} {t : T} {ρ₀ : Env} {st₀ : Store} {wat : List (Nat × O)} (I : Nat → Env → Store → Prop) : ∀ (ds : List D) (j : Nat) (ρ : Env) (st : Store), I j ρ st →
    (∀ i ρ st, i ≤ j + ds.length → I i ρ st → watOk wat st = true) →
    (∀ i d ρ st, ds[i]? = some d → I (j + i) ρ st → ∃ ρ1 ρ2 s, T.asg t d ρ = some ρ1 ∧ (body ρ1 st = .ok (.nx, ρ2) s ∨ body ρ1 st = .ok (.ct, ρ2) s) ∧ I (j + i + 1) (mask ρ₀ ρ2) (cutE st₀ (mask ρ₀ ρ2) s)) →
    ∃ ρ' st', forLoop body t ρ₀ st₀ wat ds ρ st = .ok (.nx, ρ') st' ∧ I (j + ds.length) ρ' st'
  | [], j, ρ, st, h, hw, _ => ⟨ρ, st, by simp [forLoop, hw j ρ st (by simp) h], by simpa using h⟩
  | d :: ds, j, ρ, st, h, hw, hs => by
    obtain ⟨ρ1, ρ2, s, h1, h2, h3⟩ := hs 0 d ρ st (by simp) (by simpa using h)
    obtain ⟨ρ', st', h4, h5⟩ := forLoop_inv I ds (j + 1) _ _ (by simpa using h3) (fun i ρ st hi => hw i ρ st (by simp; omega)) fun i d ρ st hd hI => by
      have := hs (i + 1) d ρ st (by simpa using hd) (by rw [show j + (i + 1) = j + 1 + i by omega]; exact hI)
      rwa [show j + (i + 1) + 1 = j + 1 + i + 1 by omega] at this
    refine ⟨ρ', st', ?_, by rw [show j + (d :: ds).length = j + 1 + ds.length by simp; omega]; exact h5⟩
    rw [forLoop, hw j ρ st (by simp) h, R.grd_true, h1]
    rcases h2 with h2 | h2 <;> simp only [h2, R.bind_ok, h4]
theorem pow62 : (2 : Int) ^ 62 = 4611686018427387904 := by rfl
theorem rng_ok {i : Int} (h1 : -4611686018427387904 ≤ i) (h2 : i < 4611686018427387904) : rngOk i = true := by
  unfold rngOk
  exact decide_eq_true ⟨h1, h2⟩
theorem rng_0 : rngOk 0 = true := rng_ok (by omega) (by omega)
theorem rangeL_get {lo : Int} {n i : Nat} {d : D} (h : (rangeL lo n)[i]? = some d) : i < n ∧ d = .int (lo + i) := by
  unfold rangeL at h
  rw [List.getElem?_map] at h
  cases q : (List.range n)[i]? with
  | none => rw [q] at h; cases h
  | some j =>
    rw [q] at h
    have hl := (List.getElem?_eq_some_iff.mp q)
    obtain ⟨h1, h2⟩ := hl
    simp at h1 h2
    subst h2
    exact ⟨h1, by simpa using h.symm⟩
theorem rangeL_len (lo : Int) (n : Nat) : (rangeL lo n).length = n := by simp [rangeL]
/-! ### equations, one a form -/
section
variable {G : Ctx} {call : Nat → List D → Store → R D}
theorem ev_con {d} {ρ : Env} {st : Store} : ev G call (.con d) ρ st = .ok d st := by rw [ev] <;> rfl
theorem ev_var {i} {ρ : Env} {st : Store} : ev G call (.var i) ρ st = R.ofO (ρ[i]?.join) st := by rw [ev] <;> rfl
theorem ev_bin {o} {a} {b} {ρ : Env} {st : Store} : ev G call (.bin o a b) ρ st = (ev G call a ρ st).bind fun x s => (ev G call b ρ s).bind fun y s => binop o x y s := by rw [ev] <;> rfl
theorem ev_neg {a} {ρ : Env} {st : Store} : ev G call (.neg a) ρ st = (ev G call a ρ st).bind fun x s => (match x with
    | .int i => .ok (.int (-i)) s
    | _ => .no) := by rw [ev] <;> rfl
theorem ev_cmp {o} {a} {b} {ρ : Env} {st : Store} : ev G call (.cmp o a b) ρ st = (ev G call a ρ st).bind fun x s => (ev G call b ρ s).bind fun y s => cmpop o x y s := by rw [ev] <;> rfl
theorem ev_chn {o} {p} {a} {b} {c} {ρ : Env} {st : Store} : ev G call (.chn o p a b c) ρ st = (ev G call a ρ st).bind fun x s => (ev G call b ρ s).bind fun y s => (cmpop o x y s).bind fun k s => (match k with
    | .bl true => (ev G call c ρ s).bind fun z s => cmpop p y z s
    | .bl false => .ok (.bl false) s
    | _ => .no) := by rw [ev] <;> rfl
theorem ev_and {a} {b} {ρ : Env} {st : Store} : ev G call (.and a b) ρ st = (ev G call a ρ st).bind fun x s => (match x with
    | .bl true => ev G call b ρ s
    | .bl false => .ok (.bl false) s
    | _ => .no) := by rw [ev] <;> rfl
theorem ev_or {a} {b} {ρ : Env} {st : Store} : ev G call (.or a b) ρ st = (ev G call a ρ st).bind fun x s => (match x with
    | .bl true => .ok (.bl true) s
    | .bl false => ev G call b ρ s
    | _ => .no) := by rw [ev] <;> rfl
theorem ev_not {a} {ρ : Env} {st : Store} : ev G call (.not a) ρ st = (ev G call a ρ st).bind fun x s => (match x with
    | .bl b => .ok (.bl (!b)) s
    | _ => .no) := by rw [ev] <;> rfl
theorem ev_ite {c} {a} {b} {ρ : Env} {st : Store} : ev G call (.ite c a b) ρ st = (evC G call c ρ st).bind fun k s => (match k with
    | true => ev G call a ρ s
    | false => ev G call b ρ s) := by rw [ev] <;> rfl
theorem ev_tup {es} {ρ : Env} {st : Store} : ev G call (.tup es) ρ st = (evs G call es ρ st).bind fun ds s => newT ds s := by rw [ev] <;> rfl
theorem ev_lst {es} {ρ : Env} {st : Store} : ev G call (.lst es) ρ st = (evs G call es ρ st).bind fun ds s => newL ds s := by rw [ev] <;> rfl
theorem ev_idx {a} {i} {ρ : Env} {st : Store} : ev G call (.idx a i) ρ st = (ev G call a ρ st).bind fun x s => (ev G call i ρ s).bind fun y s => index x y s := by rw [ev] <;> rfl
theorem ev_slc {a} {lo} {hi} {ρ : Env} {st : Store} : ev G call (.slc a lo hi) ρ st = (ev G call a ρ st).bind fun x s => (evO G call lo ρ s).bind fun l s => (evO G call hi ρ s).bind fun h s => slice x l h s := by rw [ev] <;> rfl
theorem ev_rev {a} {ρ : Env} {st : Store} : ev G call (.rev a) ρ st = (ev G call a ρ st).bind fun x s => (match x with
    | .tup ds => .ok (.tup ds.reverse) s
    | x => (match lstOf x s with
      | some ds => newL ds.reverse s
      | none => .no)) := by rw [ev] <;> rfl
theorem ev_call {f} {es} {ρ : Env} {st : Store} : ev G call (.call f es) ρ st = (evs G call es ρ st).bind fun ds s => call f ds s := by rw [ev] <;> rfl
theorem ev_bi {b} {es} {ρ : Env} {st : Store} : ev G call (.bi b es) ρ st = (evs G call es ρ st).bind fun ds s => builtin b ds s := by rw [ev] <;> rfl
theorem ev_isi {a} {ks} {ρ : Env} {st : Store} : ev G call (.isi a ks) ρ st = (ev G call a ρ st).bind fun x s => R.ofB (isAny x s ks) s := by rw [ev] <;> rfl
theorem ev_fld {a} {f} {ρ : Env} {st : Store} : ev G call (.fld a f) ρ st = (ev G call a ρ st).bind fun x s => field x f s := by rw [ev] <;> rfl
theorem ev_meth {a} {m} {es} {ρ : Env} {st : Store} : ev G call (.meth a m es) ρ st = (ev G call a ρ st).bind fun x s => (match methF G.meth m x s with
    | some f => (evs G call es ρ s).bind fun ds s => call f (x :: ds) s
    | none => .no) := by rw [ev] <;> rfl
theorem ev_prop {a} {m} {ρ : Env} {st : Store} : ev G call (.prop a m) ρ st = (ev G call a ρ st).bind fun x s => propR G call m x s := by rw [ev] <;> rfl
theorem ev_mk {c} {es} {ρ : Env} {st : Store} : ev G call (.mk c es) ρ st = (evs G call es ρ st).bind fun ds s => mkR G call c ds s := by rw [ev] <;> rfl
theorem ev_app {a} {e} {ρ : Env} {st : Store} : ev G call (.app a e) ρ st = (ev G call a ρ st).bind fun x s => R.grd (lstOf x s).isSome ((ev G call e ρ s).bind fun y s => append x y s) := by rw [ev] <;> rfl
theorem ev_lrng {i} {ρ : Env} {st : Store} : ev G call (.lrng i) ρ st = (evi G call i ρ st).bind fun w s => newL w.its s := by rw [ev] <;> rfl
theorem ev_dnew {t} {ρ : Env} {st : Store} : ev G call (.dnew t) ρ st = .ok (.ref st.length) (st ++ [.dct t []]) := by rw [ev] <;> rfl
theorem ev_dget {a} {k} {d} {ρ : Env} {st : Store} : ev G call (.dget a k d) ρ st = (ev G call a ρ st).bind fun x s => R.grd (dctOf x s).isSome ((ev G call k ρ s).bind fun y s => (ev G call d ρ s).bind fun z s => dGet2 x y z s) := by rw [ev] <;> rfl
theorem evC_val {e} {ρ : Env} {st : Store} : evC G call (.val e) ρ st = (ev G call e ρ st).bind fun d s => R.asB d s := by rw [evC] <;> rfl
theorem evC_not {c} {ρ : Env} {st : Store} : evC G call (.not c) ρ st = (evC G call c ρ st).bind fun b s => .ok (!b) s := by rw [evC] <;> rfl
theorem evC_and {a} {b} {ρ : Env} {st : Store} : evC G call (.and a b) ρ st = (evC G call a ρ st).bind fun k s => (match k with
    | true => evC G call b ρ s
    | false => .ok false s) := by rw [evC] <;> rfl
theorem evC_or {a} {b} {ρ : Env} {st : Store} : evC G call (.or a b) ρ st = (evC G call a ρ st).bind fun k s => (match k with
    | true => .ok true s
    | false => evC G call b ρ s) := by rw [evC] <;> rfl
theorem evOc_none {ρ : Env} {st : Store} : evOc G call (.none) ρ st = .ok true st := by rw [evOc] <;> rfl
theorem evOc_some {c} {ρ : Env} {st : Store} : evOc G call (.some c) ρ st = evC G call c ρ st := by rw [evOc] <;> rfl
theorem evO_none {ρ : Env} {st : Store} : evO G call (.none) ρ st = .ok none st := by rw [evO] <;> rfl
theorem evO_some {e} {ρ : Env} {st : Store} : evO G call (.some e) ρ st = (ev G call e ρ st).bind fun x s => (match x with
    | .int i => .ok (some i) s
    | _ => .no) := by rw [evO] <;> rfl
theorem evs_nil {ρ : Env} {st : Store} : evs G call (.nil) ρ st = .ok [] st := by rw [evs] <;> rfl
theorem evs_spl {e} {es} {ρ : Env} {st : Store} : evs G call (.spl e es) ρ st = (ev G call e ρ st).bind fun x s => (seqR x s).bind fun ds s => (evs G call es ρ s).bind fun xs s => .ok (ds ++ xs) s := by rw [evs] <;> rfl
theorem evs_cons {e} {es} {ρ : Env} {st : Store} : evs G call (.cons e es) ρ st = (ev G call e ρ st).bind fun x s => (evs G call es ρ s).bind fun xs s => .ok (x :: xs) s := by rw [evs] <;> rfl
theorem evi_seq {e} {ρ : Env} {st : Store} : evi G call (.seq e) ρ st = (ev G call e ρ st).bind fun x s => wkSeq x s := by rw [evi] <;> rfl
theorem evi_rng1 {a} {ρ : Env} {st : Store} : evi G call (.rng1 a) ρ st = (ev G call a ρ st).bind fun x s => wkRng (.int 0) x s := by rw [evi] <;> rfl
theorem evi_rng2 {a} {b} {ρ : Env} {st : Store} : evi G call (.rng2 a b) ρ st = (ev G call a ρ st).bind fun x s => (ev G call b ρ s).bind fun y s => wkRng x y s := by rw [evi] <;> rfl
theorem evi_enum {e} {ρ : Env} {st : Store} : evi G call (.enum e) ρ st = (ev G call e ρ st).bind fun x s => wkEnum x s := by rw [evi] <;> rfl
theorem evi_rng3 {a} {b} {c} {ρ : Env} {st : Store} : evi G call (.rng3 a b c) ρ st = (ev G call a ρ st).bind fun x s => (ev G call b ρ s).bind fun y s => (ev G call c ρ s).bind fun z s => wkRng3 x y z s := by rw [evi] <;> rfl
theorem evi_zip2 {a} {b} {ρ : Env} {st : Store} : evi G call (.zip2 a b) ρ st = (ev G call a ρ st).bind fun x s => (ev G call b ρ s).bind fun y s => wkZip x y s := by rw [evi] <;> rfl
theorem evi_rrng1 {a} {ρ : Env} {st : Store} : evi G call (.rrng1 a) ρ st = (ev G call a ρ st).bind fun x s => (wkRng (.int 0) x s).bind fun w s => .ok ⟨w.its.reverse, []⟩ s := by rw [evi] <;> rfl
theorem evi_rseq {e} {ρ : Env} {st : Store} : evi G call (.rseq e) ρ st = (ev G call e ρ st).bind fun x s => wkRev x s := by rw [evi] <;> rfl
theorem ex_set {t} {e} {ρ : Env} {st : Store} : ex G call (.set t e) ρ st = (ev G call e ρ st).bind fun d s => (match T.asg t d ρ with
    | some ρ' => .ok (.nx, ρ') s
    | none => .no) := by rw [ex] <;> rfl
theorem ex_par {i} {j} {a} {b} {ρ : Env} {st : Store} : ex G call (.par i j a b) ρ st = (ev G call a ρ st).bind fun x s => (ev G call b ρ s).bind fun y s => .ok (.nx, (ρ.set i (some x)).set j (some y)) s := by rw [ex] <;> rfl
theorem ex_aug {i} {o} {e} {ρ : Env} {st : Store} : ex G call (.aug i o e) ρ st = (R.ofO (ρ[i]?.join) st).bind fun x s => (ev G call e ρ s).bind fun y s => (match x, y with
    | .int _, .int _ => (binop o x y s).bind fun d s => .ok (.nx, ρ.set i (some d)) s
    | _, _ => .no) := by rw [ex] <;> rfl
theorem ex_sti {a} {i} {e} {ρ : Env} {st : Store} : ex G call (.sti a i e) ρ st = (ev G call e ρ st).bind fun d s => (ev G call a ρ s).bind fun x s => (ev G call i ρ s).bind fun y s => (setAt x y d s).bind fun _ s => .ok (.nx, ρ) s := by rw [ex] <;> rfl
theorem ex_augi {a} {i} {o} {e} {ρ : Env} {st : Store} : ex G call (.augi a i o e) ρ st = (ev G call a ρ st).bind fun x s => (ev G call i ρ s).bind fun y s => R.grd ((lstOf x s).isSome || (dctOf x s).isSome) ((index x y s).bind fun v s => (ev G call e ρ s).bind fun z s => (match v, z with
    | .int _, .int _ => (binop o v z s).bind fun d s => (setAt x y d s).bind fun _ s => .ok (.nx, ρ) s
    | _, _ => .no)) := by rw [ex] <;> rfl
theorem ex_stf {a} {f} {e} {ρ : Env} {st : Store} : ex G call (.stf a f e) ρ st = (ev G call e ρ st).bind fun d s => (ev G call a ρ s).bind fun x s => (setField x f d s).bind fun _ s => .ok (.nx, ρ) s := by rw [ex] <;> rfl
theorem ex_augf {a} {f} {o} {e} {ρ : Env} {st : Store} : ex G call (.augf a f o e) ρ st = (ev G call a ρ st).bind fun x s0 => (field x f s0).bind fun v s => (ev G call e ρ s).bind fun z s => R.grd (clsOf x s0 == clsOf x s) (match v, z with
    | .int _, .int _ => (binop o v z s).bind fun d s => (setField x f d s).bind fun _ s => .ok (.nx, ρ) s
    | _, _ => .no) := by rw [ex] <;> rfl
theorem ex_ex {e} {ρ : Env} {st : Store} : ex G call (.ex e) ρ st = (ev G call e ρ st).bind fun _ s => .ok (.nx, ρ) s := by rw [ex] <;> rfl
theorem ex_ret {e} {ρ : Env} {st : Store} : ex G call (.ret e) ρ st = (ev G call e ρ st).bind fun d s => .ok (.ret d, ρ) s := by rw [ex] <;> rfl
theorem ex_retn {ρ : Env} {st : Store} : ex G call (.retn) ρ st = .ok (.ret .non, ρ) st := by rw [ex] <;> rfl
theorem ex_ifs {c} {a} {b} {ρ : Env} {st : Store} : ex G call (.ifs c a b) ρ st = (evC G call c ρ st).bind fun k s => (match k with
    | true => exs G call a ρ s
    | false => exs G call b ρ s) := by rw [ex] <;> rfl
theorem ex_brk {ρ : Env} {st : Store} : ex G call (.brk) ρ st = .ok (.bk, ρ) st := by rw [ex] <;> rfl
theorem ex_cont {ρ : Env} {st : Store} : ex G call (.cont) ρ st = .ok (.ct, ρ) st := by rw [ex] <;> rfl
theorem ex_pass {ρ : Env} {st : Store} : ex G call (.pass) ρ st = .ok (.nx, ρ) st := by rw [ex] <;> rfl
theorem ex_raise {ρ : Env} {st : Store} : ex G call (.raise) ρ st = .no := by rw [ex] <;> rfl
theorem exs_nil {ρ : Env} {st : Store} : exs G call .nil ρ st = .ok (.nx, ρ) st := by rw [exs]
theorem exs_nx {s : S} {ss : Ss} {ρ ρ' : Env} {st st' : Store} (h : ex G call s ρ st = .ok (.nx, ρ') st') : exs G call (.cons s ss) ρ st = exs G call ss ρ' st' := by rw [exs, h, R.bind_ok]
theorem exs_ret {s : S} {ss : Ss} {ρ ρ' : Env} {st st' : Store} {d : D} (h : ex G call s ρ st = .ok (.ret d, ρ') st') : exs G call (.cons s ss) ρ st = .ok (.ret d, ρ') st' := by rw [exs, h, R.bind_ok]
theorem exs_ct {s : S} {ss : Ss} {ρ ρ' : Env} {st st' : Store} (h : ex G call s ρ st = .ok (.ct, ρ') st') : exs G call (.cons s ss) ρ st = .ok (.ct, ρ') st' := by rw [exs, h, R.bind_ok]
theorem exs_bk {s : S} {ss : Ss} {ρ ρ' : Env} {st st' : Store} (h : ex G call s ρ st = .ok (.bk, ρ') st') : exs G call (.cons s ss) ρ st = .ok (.bk, ρ') st' := by rw [exs, h, R.bind_ok]
/-- behind a statement -/
def nxt (G : Ctx) (call : Nat → List D → Store → R D) (ss : Ss) (p : Fl × Env) (s : Store) : R (Fl × Env) := match p.1 with
  | .nx => exs G call ss p.2 s
  | f => .ok (f, p.2) s
theorem exs_one {s : S} {ss : Ss} {ρ : Env} {st : Store} : exs G call (.cons s ss) ρ st = (ex G call s ρ st).bind (nxt G call ss) := by rw [exs] <;> rfl
theorem nxt_nx {ss : Ss} {ρ : Env} {st : Store} : nxt G call ss (.nx, ρ) st = exs G call ss ρ st := (rfl)
theorem nxt_ret {ss : Ss} {ρ : Env} {st : Store} {d : D} : nxt G call ss (.ret d, ρ) st = .ok (.ret d, ρ) st := (rfl)
theorem nxt_ct {ss : Ss} {ρ : Env} {st : Store} : nxt G call ss (.ct, ρ) st = .ok (.ct, ρ) st := (rfl)
theorem nxt_bk {ss : Ss} {ρ : Env} {st : Store} : nxt G call ss (.bk, ρ) st = .ok (.bk, ρ) st := (rfl)
/-- behind a turn of a loop -/
def fnx (body : Env → Store → R (Fl × Env)) (t : T) (ρ₀ : Env) (st₀ : Store) (wat : List (Nat × O)) (ds : List D) (p : Fl × Env) (s : Store) : R (Fl × Env) := match p.1 with
  | .nx => forLoop body t ρ₀ st₀ wat ds (mask ρ₀ p.2) (cutE st₀ (mask ρ₀ p.2) s)
  | .ct => forLoop body t ρ₀ st₀ wat ds (mask ρ₀ p.2) (cutE st₀ (mask ρ₀ p.2) s)
  | .bk => .ok (.nx, mask ρ₀ p.2) (cutE st₀ (mask ρ₀ p.2) s)
  | .ret v => .ok (.ret v, p.2) s
section
variable {body : Env → Store → R (Fl × Env)} {t : T} {ρ₀ ρ : Env} {st₀ st : Store} {wat : List (Nat × O)} {ds : List D} {d : D}
theorem for_nil : forLoop body t ρ₀ st₀ wat [] ρ st = R.grd (watOk wat st) (.ok (.nx, ρ) st) := by rw [forLoop]
theorem for_cons : forLoop body t ρ₀ st₀ wat (d :: ds) ρ st = R.grd (watOk wat st) (match T.asg t d ρ with
    | none => .no
    | some ρ1 => (body ρ1 st).bind (fnx body t ρ₀ st₀ wat ds)) := by rw [forLoop] <;> rfl
theorem fnx_nx : fnx body t ρ₀ st₀ wat ds (.nx, ρ) st = forLoop body t ρ₀ st₀ wat ds (mask ρ₀ ρ) (cutE st₀ (mask ρ₀ ρ) st) := (rfl)
theorem fnx_ct : fnx body t ρ₀ st₀ wat ds (.ct, ρ) st = forLoop body t ρ₀ st₀ wat ds (mask ρ₀ ρ) (cutE st₀ (mask ρ₀ ρ) st) := (rfl)
theorem fnx_bk : fnx body t ρ₀ st₀ wat ds (.bk, ρ) st = .ok (.nx, mask ρ₀ ρ) (cutE st₀ (mask ρ₀ ρ) st) := (rfl)
theorem fnx_ret : fnx body t ρ₀ st₀ wat ds (.ret d, ρ) st = .ok (.ret d, ρ) st := (rfl)
end
theorem ex_forB {t : T} {i : Iw} {b : Ss} {ρ : Env} {st : Store} : ex G call (.for_ t i b) ρ st = (evi G call i ρ st).bind fun w s => forLoop (exs G call b) t ρ s w.wat w.its ρ s := by
  rw [ex]
section
variable {test : Env → Store → R Bool} {body : Env → Store → R (Fl × Env)} {ρ₀ ρ ρ' : Env} {st₀ st s s' : Store} {n : Nat}
theorem whl_false (h : test ρ st = .ok false s) : whlLoop test body ρ₀ st₀ (n + 1) ρ st = .ok (.nx, ρ) s := by
  show (test ρ st).bind _ = _
  rw [h, R.bind_ok]
theorem whl_true (h : test ρ st = .ok true s) (h2 : body ρ s = .ok (.nx, ρ') s') : whlLoop test body ρ₀ st₀ (n + 1) ρ st = whlLoop test body ρ₀ st₀ n (mask ρ₀ ρ') (cutE st₀ (mask ρ₀ ρ') s') := by
  show (test ρ st).bind _ = _
  rw [h, R.bind_ok]
  simp only [h2, R.bind_ok]
  rfl
end
theorem ex_whlB {c : C} {b : Ss} {ρ : Env} {st : Store} : ex G call (.whl c b) ρ st = whlLoop (evC G call c) (exs G call b) ρ st WF ρ st := by
  rw [ex]
/-- one turn of a comprehension -/
def stp (G : Ctx) (call : Nat → List D → Store → R D) (t : T) (ρ : Env) (c : Oc) (e : E) (d : D) (s : Store) : R (Option D) := match T.asg t d ρ with
  | none => .no
  | some ρ1 => (evOc G call c ρ1 s).bind fun k s => (match k with
    | true => (ev G call e ρ1 s).bind fun x s => .ok (some x) s
    | false => .ok none s)
theorem ev_comp {own : List Nat} {e : E} {t : T} {i : Iw} {c : Oc} {ρ : Env} {st s : Store} {w : Wk} (h : evi G call i ρ st = .ok w s) : ev G call (.comp own e t i c) ρ st = (compLoop (stp G call t (forget ρ own) c e) w.wat s true w.its s).bind fun ds s => newL ds s := by
  rw [ev, h, R.bind_ok]; rfl
theorem ex_for {t : T} {i : Iw} {b : Ss} {ρ : Env} {st s : Store} {w : Wk} (h : evi G call i ρ st = .ok w s) : ex G call (.for_ t i b) ρ st = forLoop (exs G call b) t ρ s w.wat w.its ρ s := by
  rw [ex, h, R.bind_ok]
/-- a comprehension whose turns leave the store -/
theorem comp_pure {own : List Nat} {e : E} {t : T} {i : Iw} {c : Oc} {ρ : Env} {st s : Store} {w : Wk} (f : D → Option D) (h : evi G call i ρ st = .ok w s) (hw : watOk w.wat s = true) (hs : ∀ d ∈ w.its, stp G call t (forget ρ own) c e d s = .ok (f d) s) :
    ev G call (.comp own e t i c) ρ st = newL (w.its.filterMap f) s := by
  rw [ev_comp h, compLoop_pure f _ _ hw hs, R.bind_ok]
end
/-! ### operations, by the forms of their values -/
section
variable {st : Store}
theorem rB_bl (b : Bool) : R.asB (.bl b) st = .ok b st := (rfl)
theorem rB_int (i : Int) : R.asB (.int i) st = .ok (i != 0) st := (rfl)
theorem rB_non : R.asB .non st = .ok false st := (rfl)
theorem rB_tup (ds : List D) : R.asB (.tup ds) st = .ok (!ds.isEmpty) st := (rfl)
theorem rB_ref {l : Nat} {ds : List D} (h : lstOf (.ref l) st = some ds) : R.asB (.ref l) st = .ok (!ds.isEmpty) st := by
  unfold lstOf at h
  unfold R.asB tru
  simp only at h ⊢
  split at h
  · cases h; rename_i q; simp [q]
  · cases h; rename_i q; simp [q]
  · cases h
theorem ofO_some (d : D) : R.ofO (some d) st = .ok d st := (rfl)
theorem isTy_non (k : Ty) : isTy k .non st = some false := by cases k <;> rfl
theorem isTy_bl (k : Ty) (b : Bool) : isTy k (.bl b) st = some (match k with | .int => true | .bool => true | _ => false) := by cases k <;> rfl
theorem isTy_int (k : Ty) (b : Int) : isTy k (.int b) st = some (match k with | .int => true | _ => false) := by cases k <;> rfl
theorem isTy_str (k : Ty) (b : Str) : isTy k (.str b) st = some (match k with | .str => true | _ => false) := by cases k <;> rfl
theorem isTy_tup (k : Ty) (b : List D) : isTy k (.tup b) st = some (match k with | .tuple => true | _ => false) := by cases k <;> rfl
theorem isTy_lst {k : Ty} {l : Nat} {ds : List D} (h : lstOf (.ref l) st = some ds) : isTy k (.ref l) st = some (match k with | .list => true | _ => false) := by
  unfold lstOf at h
  unfold isTy
  simp only at h ⊢
  split at h
  · rename_i q; simp only [q] <;> (cases k <;> rfl)
  · rename_i q; simp only [q] <;> (cases k <;> rfl)
  · cases h
theorem isTy_ins {k : Ty} {l c : Nat} {fs : List (Nat × D)} (h : st[l]? = some (.ins c fs)) : isTy k (.ref l) st = some (match k with | .cls d => c == d | _ => false) := by
  unfold isTy
  simp only [h] <;> (cases k <;> rfl)
theorem isAny_nil (x : D) : isAny x st [] = some false := (rfl)
theorem isAny_t {x : D} {k : Ty} {ks : List Ty} (h : isTy k x st = some true) : isAny x st (k :: ks) = some true := by simp only [isAny, h]
theorem isAny_f {x : D} {k : Ty} {ks : List Ty} (h : isTy k x st = some false) : isAny x st (k :: ks) = isAny x st ks := by simp only [isAny, h]
theorem seqW_of {x : D} {ds : List D} (h : seqOf x st = some ds) : seqW x st = some ds := by
  cases x with
  | wt _ => cases h
  | _ => exact h
theorem dctOf_tup (ds : List D) : dctOf (.tup ds) st = none := (rfl)
theorem dctOf_lst {l : Nat} {ds : List D} (h : lstOf (.ref l) st = some ds) : dctOf (.ref l) st = none := by
  unfold lstOf at h
  unfold dctOf
  simp only at h ⊢
  split at h
  · rename_i q; simp only [q]
  · rename_i q; simp only [q]
  · cases h
theorem dctOf_dct {l : Nat} {t : Bool} {kvs : List (D × D)} (h : st[l]? = some (.dct t kvs)) : dctOf (.ref l) st = some (t, kvs) := by simp only [dctOf, h]
theorem index_dct {l : Nat} {t : Bool} {kvs : List (D × D)} {k d : D} (h : st[l]? = some (.dct t kvs)) (hk : k.keyOk t = true) (hg : dGet kvs k = some d) : index (.ref l) k st = .ok d st := by
  simp only [index, dctOf_dct h, hk, hg, R.grd_true]
theorem dget_dct {l : Nat} {t : Bool} {kvs : List (D × D)} {k d : D} (h : st[l]? = some (.dct t kvs)) (hk : k.keyOk t = true) : dGet2 (.ref l) k d st = .ok ((dGet kvs k).getD d) st := by
  simp only [dGet2, dctOf_dct h, hk, R.grd_true]
theorem setAt_dct {l : Nat} {t : Bool} {kvs : List (D × D)} {k d : D} (h : st[l]? = some (.dct t kvs)) (hk : k.keyOk t = true) (hz : kvs.length < 16777216) : setAt (.ref l) k d st = .ok .non (st.set l (.dct t (dPut kvs k d))) := by
  simp only [setAt, h, hk, Bool.true_and, decide_eq_true (show kvs.length < LINE from hz), R.grd_true]
theorem isIn_dct {l : Nat} {t : Bool} {kvs : List (D × D)} {k : D} (h : st[l]? = some (.dct t kvs)) (hk : k.keyOk t = true) : isIn k (.ref l) st = some (dGet kvs k).isSome := by
  simp only [isIn, dctOf_dct h, hk, if_true]
theorem keyOk_int (i : Int) : D.keyOk false (.int i) = true := (rfl)
theorem index_wt {ds : List D} {i : Int} {d : D} (h : getAt ds i = some d) : index (.wt ds) (.int i) st = .ok d st := by simp only [index, dctOf, seqW, seqOf, h]
theorem index_tup {ds : List D} {i : Int} {d : D} (h : getAt ds i = some d) : index (.tup ds) (.int i) st = .ok d st := by simp only [index, dctOf, seqW, seqOf, h]
theorem index_lst {l : Nat} {ds : List D} {i : Int} {d : D} (h1 : lstOf (.ref l) st = some ds) (h : getAt ds i = some d) : index (.ref l) (.int i) st = .ok d st := by
  have : seqOf (.ref l) st = some ds := h1
  simp only [index, dctOf_lst h1, seqW_of this, h]
theorem lstOf_lst {l : Nat} {ds : List D} (h : st[l]? = some (.lst ds)) : lstOf (.ref l) st = some ds := by simp only [lstOf, h]
theorem lstOf_frz {l : Nat} {ds : List D} (h : st[l]? = some (.frz ds)) : lstOf (.ref l) st = some ds := by simp only [lstOf, h]
theorem getAt_nat {ds : List D} {i : Nat} {d : D} (h : ds[i]? = some d) : getAt ds (i : Int) = some d := by
  have hl := (List.getElem?_eq_some_iff.mp h).1
  have : ((i : Int) < (ds.length : Int)) := by omega
  simp [getAt, place, this, h]
theorem getAt_int {ds : List D} {i : Int} {d : D} (h0 : 0 ≤ i) (h : ds[i.toNat]? = some d) : getAt ds i = some d := by
  have := getAt_nat h
  rwa [Int.toNat_of_nonneg h0] at this
theorem getAt_0 {d : D} {ds : List D} : getAt (d :: ds) 0 = some d := getAt_nat (i := 0) rfl
theorem getAt_1 {d e : D} {ds : List D} : getAt (d :: e :: ds) 1 = some e := getAt_nat (i := 1) rfl
theorem getAt_2 {d e f : D} {ds : List D} : getAt (d :: e :: f :: ds) 2 = some f := getAt_nat (i := 2) rfl
theorem getAt_3 {d e f g : D} {ds : List D} : getAt (d :: e :: f :: g :: ds) 3 = some g := getAt_nat (i := 3) rfl
theorem bin_int (o : BinO) (i j : Int) : binop o (.int i) (.int j) st = R.ofI (arith o i j) st := (rfl)
theorem bin_tup (a b : List D) : binop .add (.tup a) (.tup b) st = newT (a ++ b) st := (rfl)
theorem bin_tmul {a : List D} {k : Int} (h1 : -9223372036854775808 ≤ k) (h2 : k < 9223372036854775808) : binop .mul (.tup a) (.int k) st = newT (reps k.toNat a) st := by
  have h : decide (-9223372036854775808 ≤ k ∧ k < 9223372036854775808) = true := decide_eq_true ⟨h1, h2⟩
  show R.grd (decide _) _ = _
  rw [h]; rfl
theorem bin_lst {l m : Nat} {a b : List D} (h1 : st[l]? = some (.lst a)) (h2 : st[m]? = some (.lst b)) : binop .add (.ref l) (.ref m) st = newL (a ++ b) st := by simp only [binop, binR, h1, h2]
theorem cmp_lt (i j : Int) : cmpop .lt (.int i) (.int j) st = .ok (.bl (decide (i < j))) st := (rfl)
theorem cmp_le (i j : Int) : cmpop .le (.int i) (.int j) st = .ok (.bl (decide (i ≤ j))) st := (rfl)
theorem cmp_gt (i j : Int) : cmpop .gt (.int i) (.int j) st = .ok (.bl (decide (j < i))) st := (rfl)
theorem cmp_ge (i j : Int) : cmpop .ge (.int i) (.int j) st = .ok (.bl (decide (j ≤ i))) st := (rfl)
theorem cmp_eq (x y : D) : cmpop .eq x y st = R.ofB (eqD x y st) st := (rfl)
theorem cmp_ne (x y : D) : cmpop .ne x y st = R.ofB ((eqD x y st).map not) st := (rfl)
theorem cmp_is (x : D) : cmpop .is_ x .non st = .ok (.bl (decide (x = .non))) st := (rfl)
theorem cmp_isn (x : D) : cmpop .isn x .non st = .ok (.bl (!decide (x = .non))) st := (rfl)
theorem cmp_isB (a b : Bool) : cmpop .is_ (.bl a) (.bl b) st = .ok (.bl (decide (a = b))) st := (rfl)
theorem cmp_isnB (a b : Bool) : cmpop .isn (.bl a) (.bl b) st = .ok (.bl (!decide (a = b))) st := (rfl)
theorem eqD_int (i j : Int) : eqD (.int i) (.int j) st = some (decide (i = j)) := (rfl)
theorem eqD_bl (i j : Bool) : eqD (.bl i) (.bl j) st = some (decide (i = j)) := (rfl)
theorem eqD_str (i j : Str) : eqD (.str i) (.str j) st = some (decide (i = j)) := (rfl)
theorem eqD_non : eqD .non .non st = some true := (rfl)
theorem eqD_is (i : Int) (s : Str) : eqD (.int i) (.str s) st = some false := (rfl)
theorem eqD_si (i : Int) (s : Str) : eqD (.str s) (.int i) st = some false := (rfl)
theorem eqD_in (i : Int) : eqD (.int i) .non st = some false := (rfl)
theorem eqD_ni (i : Int) : eqD .non (.int i) st = some false := (rfl)
theorem eqD_sn (s : Str) : eqD (.str s) .non st = some false := (rfl)
theorem eqD_ns (s : Str) : eqD .non (.str s) st = some false := (rfl)
theorem eqD_tup (a b : List D) : eqD (.tup a) (.tup b) st = eqP (.tup a) (.tup b) st := (rfl)
theorem eqD_ref (a b : Nat) : eqD (.ref a) (.ref b) st = eqP (.ref a) (.ref b) st := (rfl)
theorem bi_len (x : D) : builtin .len [x] st = biLen x st := (rfl)
theorem bi_abs (x : D) : builtin .abs [x] st = biAbs x st := (rfl)
theorem bi_int (x : D) : builtin .int [x] st = biInt x st := (rfl)
theorem bi_mkl (x : D) : builtin .mkl [x] st = biMkl x st := (rfl)
theorem bi_mkt (x : D) : builtin .mkt [x] st = biMkt x st := (rfl)
theorem bi_sum (x : D) : builtin .sum [x] st = biSum x st := (rfl)
theorem bi_all (x : D) : builtin .all [x] st = biAll x st := (rfl)
theorem bi_any (x : D) : builtin .any [x] st = biAny x st := (rfl)
theorem bi_max (i j : Int) : builtin .max2 [.int i, .int j] st = .ok (.int (if j > i then j else i)) st := (rfl)
theorem bi_min (i j : Int) : builtin .min2 [.int i, .int j] st = .ok (.int (if j < i then j else i)) st := (rfl)
theorem biInt_int (i : Int) : biInt (.int i) st = .ok (.int i) st := (rfl)
theorem biAbs_int (i : Int) : biAbs (.int i) st = .ok (.int i.natAbs) st := by
  unfold biAbs
  simp only
  congr 2
  split <;> omega
theorem biLen_tup (ds : List D) : biLen (.tup ds) st = .ok (.int ds.length) st := (rfl)
theorem biLen_lst {l : Nat} {ds : List D} (h : lstOf (.ref l) st = some ds) : biLen (.ref l) st = .ok (.int ds.length) st := by
  have : seqOf (.ref l) st = some ds := h
  unfold biLen
  simp only [seqW_of this]
theorem asg_nm (i : Nat) (d : D) (ρ : Env) : T.asg (.nm i) d ρ = some (ρ.set i (some d)) := by simp only [T.asg]
theorem asg_tp (ts : List T) (ds : List D) (ρ : Env) : T.asg (.tp ts) (.tup ds) ρ = T.asgs ts ds ρ := by simp only [T.asg]
theorem asgs_nil (ρ : Env) : T.asgs [] [] ρ = some ρ := by simp only [T.asgs]
theorem asgs_cons (t : T) (ts : List T) (d : D) (ds : List D) (ρ : Env) : T.asgs (t :: ts) (d :: ds) ρ = (match T.asg t d ρ with
    | some ρ' => T.asgs ts ds ρ'
    | none => none) := by rw [T.asgs] <;> rfl
theorem setAt_lst {l : Nat} {ds : List D} {i : Int} {d : D} {j : Nat} (h1 : st[l]? = some (.lst ds)) (h2 : place ds.length i = some j) : setAt (.ref l) (.int i) d st = .ok .non (st.set l (.lst (ds.set j d))) := by simp only [setAt, h1, h2]
theorem app_lst {l : Nat} {ds : List D} {d : D} (h1 : st[l]? = some (.lst ds)) (h2 : ds.length < 16777216) : append (.ref l) d st = .ok .non (st.set l (.lst (ds ++ [d]))) := by
  simp only [append, h1]
  rw [decide_eq_true (show ds.length < LINE from h2)]; rfl
theorem newT_ok' {ds : List D} (h : ds.length ≤ 16777216) : newT ds st = .ok (.tup ds) st := by
  unfold newT; rw [decide_eq_true (show ds.length ≤ LINE from h)]; rfl
theorem newL_ok' {ds : List D} (h : ds.length ≤ 16777216) : newL ds st = .ok (.ref st.length) (st ++ [.lst ds]) := by
  unfold newL; rw [decide_eq_true (show ds.length ≤ LINE from h)]; rfl
theorem fin_ret (d : D) (ρ : Env) : fin (.ret d, ρ) st = .ok d st := (rfl)
theorem fin_nx (ρ : Env) : fin (.nx, ρ) st = .ok .non st := (rfl)
theorem wkRng_int {i j : Int} (h1 : rngOk i = true) (h2 : rngOk j = true) : wkRng (.int i) (.int j) st = .ok ⟨rangeL i (j - i).toNat, []⟩ st := by
  unfold wkRng; simp only [h1, h2]; rfl
theorem wkSeq_tup (ds : List D) : wkSeq (.tup ds) st = .ok ⟨ds, []⟩ st := (rfl)
theorem wkSeq_lst {l : Nat} {ds : List D} (h : st[l]? = some (.lst ds)) : wkSeq (.ref l) st = .ok ⟨ds, [(l, .lst ds)]⟩ st := by simp only [wkSeq, h]
theorem field_ins {l c f : Nat} {fs : List (Nat × D)} {d : D} (h : st[l]? = some (.ins c fs)) (h2 : getF f fs = some d) : field (.ref l) f st = .ok d st := by simp only [field, h, h2]
end
theorem ar_add (i j : Int) : arith .add i j = some (i + j) := (rfl)
theorem ar_sub (i j : Int) : arith .sub i j = some (i - j) := (rfl)
theorem ar_mod {i j : Int} (h : 0 < j) : arith .mod i j = some (i % j) := by simp only [arith, h, if_true]
theorem divOk_of {j : Int} (h : 0 < j) (h2 : j < 18446744073709551616) : divOk j = true := by
  unfold divOk
  rw [decide_eq_true h, Bool.true_and, Bool.or_eq_true]
  right
  have hn : j.natAbs < 2 ^ 64 := by omega
  have h0 : j.natAbs ≠ 0 := by omega
  have := (Nat.log2_lt h0).mpr hn
  exact decide_eq_true (by omega)
theorem ar_fdiv {i j : Int} (h : 0 < j) (h2 : j < 18446744073709551616) : arith .fdiv i j = some (i / j) := by simp only [arith, divOk_of h h2, if_true]
theorem ar_mul {i j : Int} (h : mulOk i j = true) : arith .mul i j = some (i * j) := by simp only [arith, h, if_true]
theorem mulOk_l {i j : Int} (h : -18446744073709551616 < i) (h2 : i < 18446744073709551616) : mulOk i j = true := by
  unfold mulOk
  rw [decide_eq_true (Or.inl ⟨h, h2⟩)]; rfl
theorem mulOk_r {i j : Int} (h : -18446744073709551616 < j) (h2 : j < 18446744073709551616) : mulOk i j = true := by
  unfold mulOk
  rw [decide_eq_true (Or.inr ⟨h, h2⟩)]; rfl
theorem ar_pow {i j : Int} (h : 0 ≤ j) (h2 : j ≤ 1000000) (h3 : i.natAbs < 18446744073709551616) : arith .pow i j = some (i ^ j.toNat) := by simp only [arith, h, h2, h3, and_self, if_true]
theorem ar_shl {i j : Int} (h : 0 ≤ j) (h2 : j ≤ 1000000) (h3 : i.natAbs.log2 + j.toNat < 100000000) : arith .shl i j = some (i * 2 ^ j.toNat) := by simp only [arith, h, h2, h3, and_self, if_true]
theorem ar_shr {i j : Int} (h : 0 ≤ j) : arith .shr i j = some (i / 2 ^ j.toNat) := by simp only [arith, h, if_true]
section
variable {G : Ctx} {call : Nat → List D → Store → R D}
theorem ev_cnt {a b : E} {ρ : Env} {st : Store} : ev G call (.cnt a b) ρ st = (ev G call a ρ st).bind fun x s => R.grd (lstOf x s).isSome ((ev G call b ρ s).bind fun y s => cntR x y s) := by rw [ev]
theorem ev_popi {a b : E} {ρ : Env} {st : Store} : ev G call (.popi a b) ρ st = (ev G call a ρ st).bind fun x s => R.grd (lstOf x s).isSome ((ev G call b ρ s).bind fun y s => popR x y s) := by rw [ev]
theorem ev_disp {ks : List Str} {es : Es} {ρ : Env} {st : Store} : ev G call (.disp ks es) ρ st = (evs G call es ρ (st ++ [.dct false []])).bind fun ds s => dispR ks st.length ds s := by rw [ev]
/-- one turn of a dict comprehension -/
def dstp (G : Ctx) (call : Nat → List D → Store → R D) (t : T) (ρ : Env) (l : Nat) (b : Bool) (c : Oc) (k v : E) (d : D) (s1 : Store) : R D := match T.asg t d ρ with
  | none => .no
  | some ρ1 => (evOc G call c ρ1 s1).bind fun q s2 => (match q with
    | true => (ev G call k ρ1 s2).bind fun x s3 => (ev G call v ρ1 s3).bind fun y s4 => dPutR l b x y s4
    | false => .ok .non s2)
theorem ev_dcomp {b : Bool} {own : List Nat} {k v : E} {t : T} {i : Iw} {c : Oc} {ρ : Env} {st s : Store} {w : Wk} (h : evi G call i ρ st = .ok w s) :
    ev G call (.dcomp b own k v t i c) ρ st = (lpU (dstp G call t (forget ρ own) s.length b c k v) w.wat w.its (s ++ [.dct b []])).bind fun _ s' => .ok (.ref s.length) s' := by
  rw [ev, h, R.bind_ok]; rfl
end
section
variable {G : Ctx} {call : Nat → List D → Store → R D}
theorem ev_lck {a e : E} {ρ : Env} {st : Store} : ev G call (.lck a e) ρ st = lckR (ev G call a ρ st) st fun s => ev G call e ρ s := by rw [ev]
theorem ev_lm {m : Lm} {a : E} {es : Es} {ρ : Env} {st : Store} : ev G call (.lm m a es) ρ st = (ev G call a ρ st).bind fun x s => R.grd (lstOf x s).isSome ((evs G call es ρ s).bind fun ds s => lmR m x ds s) := by rw [ev]
theorem evi_ditm {e : E} {ρ : Env} {st : Store} : evi G call (.ditm e) ρ st = (ev G call e ρ st).bind fun x s => wkItm x s := by rw [evi]
theorem ex_lck {a : E} {b : S} {ρ : Env} {st : Store} : ex G call (.lck a b) ρ st = lckR (ev G call a ρ st) st fun s => ex G call b ρ s := by rw [ex]
/-- the values of a last target with a star -/
def unpR (ts : List T) (r : T) (ρ : Env) (d : D) (s : Store) : R (Fl × Env) := match d with
  | .tup ds => R.grd (decide (ts.length ≤ ds.length) && decide (ds.length ≤ 1000)) (match T.asgs ts (ds.take ts.length) ρ with
    | some ρ1 => (match T.asg r (.ref s.length) ρ1 with
      | some ρ2 => .ok (.nx, ρ2) (s ++ [.lst (ds.drop ts.length)])
      | none => .no)
    | none => .no)
  | _ => .no
theorem ex_unp {ts : List T} {r : T} {e : E} {ρ : Env} {st : Store} : ex G call (.unp ts r e) ρ st = (ev G call e ρ st).bind (unpR ts r ρ) := by rw [ex]; rfl
theorem bi_mkd {x : D} {st : Store} : builtin .mkd [x] st = biMkd x st := (rfl)
theorem lckR_dct {α : Type} {l : Nat} {s0 st : Store} {t : Bool} {kvs : List (D × D)} {g : Store → R α} (h : st[l]? = some (.dct t kvs)) : lckR (.ok (.ref l) s0) st g = (g (st.set l (.dlk t kvs))).bind fun r s => (match s[l]? with
      | some (.dlk u ps) => .ok r (s.set l (.dct u ps))
      | _ => .no) := by unfold lckR; simp only [h] <;> rfl
theorem wkItm_dlk {l : Nat} {st : Store} {kvs : List (D × D)} (h : st[l]? = some (.dlk false kvs)) : wkItm (.ref l) st = .ok ⟨kvs.map fun p => .tup [p.1, p.2], [(l, .dlk false kvs)]⟩ st := by unfold wkItm; simp only [h]
end
/-- the lemmas of evaluation, in one -/
theorem EVa : type_of% (And.intro @exs_nil (And.intro @nxt_nx (And.intro @nxt_ret (And.intro @nxt_ct (And.intro @nxt_bk (And.intro @ev_con (And.intro @ev_var (And.intro @ev_bin (And.intro @ev_neg (And.intro @ev_cmp (And.intro @ev_chn (And.intro @ev_and (And.intro @ev_or (And.intro @ev_not (And.intro @ev_ite (And.intro @ev_tup (And.intro @ev_lst (And.intro @ev_idx (And.intro @ev_slc (And.intro @ev_rev (And.intro @ev_call (And.intro @ev_bi (And.intro @ev_isi (And.intro @ev_fld (And.intro @ev_meth (And.intro @ev_prop (And.intro @ev_mk (And.intro @ev_app (And.intro @ev_lrng (And.intro @ev_dnew (And.intro @ev_dget (And.intro @evC_val (And.intro @evC_not (And.intro @evC_and (And.intro @evC_or (And.intro @evOc_none (And.intro @evOc_some (And.intro @evO_none (And.intro @evO_some (And.intro @evs_nil (And.intro @evs_cons (And.intro @evi_seq (And.intro @evi_rng1 (And.intro @evi_rng2 (And.intro @evi_enum (And.intro @evi_zip2 (And.intro @evi_rrng1 (And.intro @evi_rseq (And.intro @ex_set (And.intro @ex_par (And.intro @ex_aug (And.intro @ex_sti (And.intro @ex_augi (And.intro @ex_stf (And.intro @ex_augf (And.intro @ex_ex (And.intro @ex_ret (And.intro @ex_retn (And.intro @ex_ifs (And.intro @ex_brk (And.intro @ex_cont (And.intro @ex_pass (And.intro @ex_raise (And.intro @rB_bl (And.intro @rB_int (And.intro @rB_non (And.intro @rB_tup (And.intro @rB_ref (And.intro @ofO_some (And.intro @isTy_non (And.intro @isTy_bl (And.intro @isTy_int (And.intro @isTy_str (And.intro @isTy_tup (And.intro @isAny_nil (And.intro @isAny_t (And.intro @isAny_f (And.intro @index_tup (And.intro @index_lst (And.intro @lstOf_lst (And.intro @lstOf_frz (And.intro @getAt_0 (And.intro @getAt_1 (And.intro @getAt_2 (And.intro @getAt_3 (And.intro @bin_int (And.intro @bin_tup (And.intro @bin_lst (And.intro @cmp_lt (And.intro @cmp_le (And.intro @cmp_gt (And.intro @cmp_ge (And.intro @cmp_eq (And.intro @cmp_ne (And.intro @cmp_is (And.intro @cmp_isn (And.intro @cmp_isB (And.intro @cmp_isnB (And.intro @eqD_int (And.intro @eqD_bl (And.intro @eqD_str (And.intro @eqD_non (And.intro @eqD_is (And.intro @eqD_si (And.intro @eqD_in (And.intro @eqD_ni (And.intro @eqD_sn (And.intro @eqD_ns (And.intro @eqD_tup (And.intro @eqD_ref (And.intro @bi_len (And.intro @bi_abs (And.intro @bi_int (And.intro @bi_mkl (And.intro @bi_mkt (And.intro @bi_sum (And.intro @bi_all (And.intro @bi_any (And.intro @bi_max (And.intro @bi_min (And.intro @biInt_int (And.intro @biAbs_int (And.intro @biLen_tup (And.intro @biLen_lst (And.intro @asg_nm (And.intro @asg_tp (And.intro @asgs_nil (And.intro @asgs_cons (And.intro @setAt_lst (And.intro @app_lst (And.intro @newT_ok' (And.intro @newL_ok' (And.intro @fin_ret (And.intro @fin_nx (And.intro @wkRng_int (And.intro @wkSeq_tup (And.intro @wkSeq_lst (And.intro @field_ins (And.intro @isTy_lst (And.intro @isTy_ins (And.intro @ar_add (And.intro @ar_sub (And.intro @ar_mod (And.intro @ar_fdiv (And.intro @ar_mul (And.intro @mulOk_l (And.intro @mulOk_r (And.intro @ar_pow (And.intro @ar_shr (And.intro @ev_lck (And.intro @ev_lm (And.intro @evi_ditm (And.intro @ex_lck (And.intro @ex_unp @bi_mkd)))))))))))))))))))))))))))))))))))))))))))))))))))))))))))))))))))))))))))))))))))))))))))))))))))))))))))))))))))))))))))))))))))))))))))))))))))))))))) := (And.intro @exs_nil (And.intro @nxt_nx (And.intro @nxt_ret (And.intro @nxt_ct (And.intro @nxt_bk (And.intro @ev_con (And.intro @ev_var (And.intro @ev_bin (And.intro @ev_neg (And.intro @ev_cmp (And.intro @ev_chn (And.intro @ev_and (And.intro @ev_or (And.intro @ev_not (And.intro @ev_ite (And.intro @ev_tup (And.intro @ev_lst (And.intro @ev_idx (And.intro @ev_slc (And.intro @ev_rev (And.intro @ev_call (And.intro @ev_bi (And.intro @ev_isi (And.intro @ev_fld (And.intro @ev_meth (And.intro @ev_prop (And.intro @ev_mk (And.intro @ev_app (And.intro @ev_lrng (And.intro @ev_dnew (And.intro @ev_dget (And.intro @evC_val (And.intro @evC_not (And.intro @evC_and (And.intro @evC_or (And.intro @evOc_none (And.intro @evOc_some (And.intro @evO_none (And.intro @evO_some (And.intro @evs_nil (And.intro @evs_cons (And.intro @evi_seq (And.intro @evi_rng1 (And.intro @evi_rng2 (And.intro @evi_enum (And.intro @evi_zip2 (And.intro @evi_rrng1 (And.intro @evi_rseq (And.intro @ex_set (And.intro @ex_par (And.intro @ex_aug (And.intro @ex_sti (And.intro @ex_augi (And.intro @ex_stf (And.intro @ex_augf (And.intro @ex_ex (And.intro @ex_ret (And.intro @ex_retn (And.intro @ex_ifs (And.intro @ex_brk (And.intro @ex_cont (And.intro @ex_pass (And.intro @ex_raise (And.intro @rB_bl (And.intro @rB_int (And.intro @rB_non (And.intro @rB_tup (And.intro @rB_ref (And.intro @ofO_some (And.intro @isTy_non (And.intro @isTy_bl (And.intro @isTy_int (And.intro @isTy_str (And.intro @isTy_tup (And.intro @isAny_nil (And.intro @isAny_t (And.intro @isAny_f (And.intro @index_tup (And.intro @index_lst (And.intro @lstOf_lst (And.intro @lstOf_frz (And.intro @getAt_0 (And.intro @getAt_1 (And.intro @getAt_2 (And.intro @getAt_3 (And.intro @bin_int (And.intro @bin_tup (And.intro @bin_lst (And.intro @cmp_lt (And.intro @cmp_le (And.intro @cmp_gt (And.intro @cmp_ge (And.intro @cmp_eq (And.intro @cmp_ne (And.intro @cmp_is (And.intro @cmp_isn (And.intro @cmp_isB (And.intro @cmp_isnB (And.intro @eqD_int (And.intro @eqD_bl (And.intro @eqD_str (And.intro @eqD_non (And.intro @eqD_is (And.intro @eqD_si (And.intro @eqD_in (And.intro @eqD_ni (And.intro @eqD_sn (And.intro @eqD_ns (And.intro @eqD_tup (And.intro @eqD_ref (And.intro @bi_len (And.intro @bi_abs (And.intro @bi_int (And.intro @bi_mkl (And.intro @bi_mkt (And.intro @bi_sum (And.intro @bi_all (And.intro @bi_any (And.intro @bi_max (And.intro @bi_min (And.intro @biInt_int (And.intro @biAbs_int (And.intro @biLen_tup (And.intro @biLen_lst (And.intro @asg_nm (And.intro @asg_tp (And.intro @asgs_nil (And.intro @asgs_cons (And.intro @setAt_lst (And.intro @app_lst (And.intro @newT_ok' (And.intro @newL_ok' (And.intro @fin_ret (And.intro @fin_nx (And.intro @wkRng_int (And.intro @wkSeq_tup (And.intro @wkSeq_lst (And.intro @field_ins (And.intro @isTy_lst (And.intro @isTy_ins (And.intro @ar_add (And.intro @ar_sub (And.intro @ar_mod (And.intro @ar_fdiv (And.intro @ar_mul (And.intro @mulOk_l (And.intro @mulOk_r (And.intro @ar_pow (And.intro @ar_shr (And.intro @ev_lck (And.intro @ev_lm (And.intro @evi_ditm (And.intro @ex_lck (And.intro @ex_unp @bi_mkd))))))))))))))))))))))))))))))))))))))))))))))))))))))))))))))))))))))))))))))))))))))))))))))))))))))))))))))))))))))))))))))))))))))))))))))))))))))))))
end Nz
namespace Nz
/-! ### what all laws share -/
section
variable {P : Prog}
/-- checks -/
theorem is_integer_int (h0 : P.defs.lookup 0 = some ⟨1, 1, bd0⟩) (k : Nat) (i : Int) (st : Store) : run P (k + 1) 0 [.int i] st = .ok (.bl true) st := by
  rw [run_eq h0]
  simp [exs, bd0, EVa, place, List.map_cons, List.map_nil, List.cons_append, List.nil_append, Nat.reduceSub, List.replicate_succ, List.replicate_zero, List.getElem?_cons_zero, List.getElem?_cons_succ, Option.join_some, gc_id]
theorem is_in_int (h0 : P.defs.lookup 0 = some ⟨1, 1, bd0⟩) (h1 : P.defs.lookup 1 = some ⟨3, 3, bd1⟩) (k : Nat) (v lo hi : Int) (st : Store) : run P (k + 2) 1 [.int v, .int lo, .int hi] st = .ok (.bl (decide (lo ≤ v ∧ v ≤ hi))) st := by
  rw [run_eq h1]
  simp [exs, bd1, EVa, place, List.map_cons, List.map_nil, List.cons_append, List.nil_append, Nat.reduceSub, List.replicate_succ, List.replicate_zero, List.getElem?_cons_zero, List.getElem?_cons_succ, Option.join_some, is_integer_int h0]
  by_cases q : lo ≤ v <;> simp [q, gc_id, EVa, place, List.map_cons, List.map_nil, List.cons_append, List.nil_append, Nat.reduceSub, List.replicate_succ, List.replicate_zero, List.getElem?_cons_zero, List.getElem?_cons_succ, Option.join_some]
theorem is_list_tup (h2 : P.defs.lookup 2 = some ⟨3, 3, bd2⟩) (k : Nat) (ds : List D) (lo hi : Int) (st : Store) : run P (k + 1) 2 [.tup ds, .int lo, .int hi] st = .ok (.bl (decide (lo ≤ ds.length ∧ ds.length ≤ hi))) st := by
  rw [run_eq h2]
  simp [exs, bd2, EVa, place, List.map_cons, List.map_nil, List.cons_append, List.nil_append, Nat.reduceSub, List.replicate_succ, List.replicate_zero, List.getElem?_cons_zero, List.getElem?_cons_succ, Option.join_some]
  by_cases q : lo ≤ ds.length <;> simp [q, gc_id, EVa, place, List.map_cons, List.map_nil, List.cons_append, List.nil_append, Nat.reduceSub, List.replicate_succ, List.replicate_zero, List.getElem?_cons_zero, List.getElem?_cons_succ, Option.join_some]
/-! draws -/
abbrev S0 (zs : List Int) (a b c : Int) (rest : Store) : Store := .frz (zs.map .int) :: .lst [.ref 0, .int a, .int b, .int c] :: rest
theorem gcS {zs : List Int} {a b c a' b' c' : Int} {rest : Store} {d : D} (js : Store) (h : D.cl (rest.length + 2) d = true) : gc (S0 zs a b c rest) (.ok d (S0 zs a' b' c' (rest ++ js))) = .ok d (S0 zs a' b' c' rest) := by
  rw [gc_ret (by simp [pfx, O.beq_refl, O.cl, D.cls, D.cl, pfx_app]) (by simpa using h)]
  simp
theorem gcS0 {zs : List Int} {a b c a' b' c' : Int} {rest : Store} {d : D} (h : D.cl (rest.length + 2) d = true) : gc (S0 zs a b c rest) (.ok d (S0 zs a' b' c' rest)) = .ok d (S0 zs a' b' c' rest) := by simpa using gcS (zs := zs) (a := a) (b := b) (c := c) (a' := a') (b' := b') (c' := c') [] h
/-- a draw: a value with the wish, the script's row moved on -/
def Drw (zs : List Int) (rest : Store) (r : R D) (W : D → Prop) : Prop := ∃ d a b c, W d ∧ 0 ≤ a ∧ r = .ok d (S0 zs a b c rest)
def InR (lo hi : Int) (d : D) : Prop := ∃ n, d = .int n ∧ lo ≤ n ∧ n < hi
theorem taken (h10 : P.defs.lookup 10 = some ⟨2, 4, bd10⟩) (zs : List Int) (a b c : Int) (rest : Store) (many : Int) (k : Nat) (ha : 0 ≤ a) (hm : 0 < many) (hm2 : many < 18446744073709551616) :
    Drw zs rest (run P (k + 1) 10 [.ref 1, .int many] (S0 zs a b c rest)) (InR 0 many) := by
  rw [run_eq h10]
  have hm3 : many < 18446744073709551616 := by omega
  by_cases hc : 0 < c
  · simp [exs, bd10, EVa, place, List.map_cons, List.map_nil, List.cons_append, List.nil_append, Nat.reduceSub, List.replicate_succ, List.replicate_zero, List.getElem?_cons_zero, List.getElem?_cons_succ, Option.join_some, hc, hm, hm2, hm3]
    exact ⟨_, _, _, _, ⟨_, rfl, Int.emod_nonneg _ (by omega), Int.emod_lt_of_pos _ hm⟩, ha, gcS0 rfl⟩
  · by_cases hl : (zs.length : Int) < a + 1
    · simp [exs, bd10, EVa, place, List.map_cons, List.map_nil, List.cons_append, List.nil_append, Nat.reduceSub, List.replicate_succ, List.replicate_zero, List.getElem?_cons_zero, List.getElem?_cons_succ, Option.join_some, hc, hm, hm2, hm3, hl]
      exact ⟨_, _, _, _, ⟨_, rfl, Int.emod_nonneg _ (by omega), Int.emod_lt_of_pos _ hm⟩, by omega, gcS0 rfl⟩
    · have hl2 : a.toNat < zs.length := by omega
      have h1 : zs[a.toNat]? = some zs[a.toNat] := by simp [hl2]
      have h2 : a < zs.length := by omega
      have h3 : getAt (zs.map .int) a = some (.int zs[a.toNat]) := getAt_int ha (by simp [h1])
      by_cases hg : 1000000000000000000 ≤ zs[a.toNat]
      · simp [exs, bd10, EVa, place, List.map_cons, List.map_nil, List.cons_append, List.nil_append, Nat.reduceSub, List.replicate_succ, List.replicate_zero, List.getElem?_cons_zero, List.getElem?_cons_succ, Option.join_some, hc, hm, hm2, hm3, hl, h3, hg]
        exact ⟨_, _, _, _, ⟨_, rfl, Int.emod_nonneg _ (by omega), Int.emod_lt_of_pos _ hm⟩, by omega, gcS0 rfl⟩
      · simp [exs, bd10, EVa, place, List.map_cons, List.map_nil, List.cons_append, List.nil_append, Nat.reduceSub, List.replicate_succ, List.replicate_zero, List.getElem?_cons_zero, List.getElem?_cons_succ, Option.join_some, hc, hm, hm2, hm3, hl, h3, hg]
        exact ⟨_, _, _, _, ⟨_, rfl, Int.emod_nonneg _ (by omega), Int.emod_lt_of_pos _ hm⟩, by omega, gcS0 rfl⟩
theorem pick (h10 : P.defs.lookup 10 = some ⟨2, 4, bd10⟩) (h11 : P.defs.lookup 11 = some ⟨2, 2, bd11⟩) (zs : List Int) (a b c : Int) (rest : Store) (j : Nat) (ds : List D) (k : Nat) (ha : 0 ≤ a) (hj : rest[j]? = some (.lst ds)) (h0 : ds ≠ []) (hm2 : ds.length < 1073741824) (hcl : D.cls (rest.length + 2) ds = true) :
    Drw zs rest (run P (k + 2) 11 [.ref 1, .ref (j + 2)] (S0 zs a b c rest)) fun d => d ∈ ds := by
  rw [run_eq h11]
  have hl : 0 < ds.length := List.length_pos_iff.mpr h0
  obtain ⟨d, a', b', c', ⟨n, rfl, h1, h2⟩, ha', e⟩ := taken h10 zs a b c rest ds.length k ha (by omega) (by omega)
  have hn : n.toNat < ds.length := by omega
  have hg : getAt ds n = some ds[n.toNat] := getAt_int h1 (by simp [hn])
  simp [exs, bd11, EVa, place, List.map_cons, List.map_nil, List.cons_append, List.nil_append, Nat.reduceSub, List.replicate_succ, List.replicate_zero, List.getElem?_cons_zero, List.getElem?_cons_succ, Option.join_some, hj, e, h1, h2, hg]
  have cl : ∀ (ds : List D) (d : D), D.cls (rest.length + 2) ds = true → d ∈ ds → D.cl (rest.length + 2) d = true := by
    intro ds
    induction ds with
    | nil => intro d _ h; cases h
    | cons x xs ih =>
      intro d h m
      simp only [D.cls, Bool.and_eq_true] at h
      rcases List.mem_cons.mp m with e | m
      · rw [e]; exact h.1
      · exact ih d h.2 m
  exact ⟨_, _, _, _, List.getElem_mem hn, ha', gcS0 (cl ds _ hcl (List.getElem_mem hn))⟩
theorem signed (h10 : P.defs.lookup 10 = some ⟨2, 4, bd10⟩) (h12 : P.defs.lookup 12 = some ⟨2, 2, bd12⟩) (zs : List Int) (a b c : Int) (rest : Store) (most : Int) (k : Nat) (ha : 0 ≤ a) (hm : 0 ≤ most) (hm2 : most < 4611686018427387904) :
    Drw zs rest (run P (k + 2) 12 [.ref 1, .int most] (S0 zs a b c rest)) (InR (-most) (most + 1)) := by
  rw [run_eq h12]
  obtain ⟨d, a', b', c', ⟨n, rfl, h1, h2⟩, ha', e⟩ := taken h10 zs a b c rest (2 * most + 1) k ha (by omega) (by omega)
  simp [exs, bd12, EVa, place, List.map_cons, List.map_nil, List.cons_append, List.nil_append, Nat.reduceSub, List.replicate_succ, List.replicate_zero, List.getElem?_cons_zero, List.getElem?_cons_succ, Option.join_some, e]
  exact ⟨_, _, _, _, ⟨_, rfl, by omega, by omega⟩, ha', gcS0 rfl⟩
theorem cutS0 {zs : List Int} {a b c a' b' c' : Int} {js : Store} {ρ : Env} (h : envCl 2 ρ = true) : cutE (S0 zs a b c []) ρ (S0 zs a' b' c' js) = S0 zs a' b' c' [] := by
  simp [cutE, pfx, O.beq_refl, O.cl, h, cutT]
end
end Nz
namespace Nz
/-! ### == of trees of ints -/
def D.it : Nat → D → Bool
  | 0, _ => false
  | n + 1, d => (match d with
    | .int _ => true
    | .tup ds => ds.all (D.it n)
    | _ => false)
def D.cv : Nat → D → PySem.PyData
  | 0, _ => .none
  | n + 1, d => (match d with
    | .int i => .int i
    | .tup ds => .tuple (ds.map (D.cv n))
    | _ => .none)
theorem it_ps {lk : Nat → Option PySem.PyData} {n : Nat} (ih : ∀ d, D.it n d = true → toP lk d = some (D.cv n d)) : ∀ ds : List D, ds.all (D.it n) = true → toPs lk ds = some (ds.map (D.cv n))
  | [], _ => by simp only [toPs, List.map_nil]
  | d :: ds, h => by
    simp only [List.all_cons, Bool.and_eq_true] at h
    simp only [toPs, ih d h.1, it_ps ih ds h.2, List.map_cons]
theorem it_toP {lk : Nat → Option PySem.PyData} : ∀ (n : Nat) (d : D), D.it n d = true → toP lk d = some (D.cv n d)
  | 0, d, h => by simp [D.it] at h
  | n + 1, d, h => by
    cases d with
    | int i => simp only [toP, D.cv]
    | tup ds =>
      simp only [D.it] at h
      simp only [toP, D.cv, it_ps (fun d => it_toP n d) ds h, Option.map_some]
    | _ => simp [D.it] at h
theorem it_lays {n : Nat} (ih : ∀ d, D.it n d = true → PySem.PyData.canLay0 (D.cv n d) = true ∧ PySem.PyData.depth (D.cv n d) ≤ n) : ∀ ds : List D, ds.all (D.it n) = true → PySem.PyData.canLayAll0 (ds.map (D.cv n)) = true ∧ PySem.PyData.depthAll (ds.map (D.cv n)) ≤ n
  | [], _ => by simp [PySem.PyData.canLayAll0, PySem.PyData.depthAll]
  | d :: ds, h => by
    simp only [List.all_cons, Bool.and_eq_true] at h
    obtain ⟨a1, a2⟩ := ih d h.1
    obtain ⟨b1, b2⟩ := it_lays ih ds h.2
    simp only [List.map_cons, PySem.PyData.canLayAll0, PySem.PyData.depthAll, a1, b1, Bool.and_self, true_and]
    omega
theorem it_lay : ∀ (n : Nat) (d : D), D.it n d = true → PySem.PyData.canLay0 (D.cv n d) = true ∧ PySem.PyData.depth (D.cv n d) ≤ n
  | 0, d, h => by simp [D.it] at h
  | n + 1, d, h => by
    cases d with
    | int i => simp [D.cv, PySem.PyData.canLay0, PySem.PyData.depth]
    | tup ds =>
      simp only [D.it] at h
      obtain ⟨a1, a2⟩ := it_lays (fun d => it_lay n d) ds h
      simp only [D.cv, PySem.PyData.canLay0, PySem.PyData.depth, a1, true_and]
      omega
    | _ => simp [D.it] at h
theorem it_eqs {n : Nat} (ih : ∀ d e, D.it n d = true → D.it n e = true → PySem.PyData.eqv (D.cv n d) (D.cv n e) = decide (d = e)) : ∀ ds es : List D, ds.all (D.it n) = true → es.all (D.it n) = true → PySem.PyData.eqvAll (ds.map (D.cv n)) (es.map (D.cv n)) = decide (ds = es)
  | [], [], _, _ => by simp [PySem.PyData.eqvAll]
  | [], e :: es, _, _ => by simp [PySem.PyData.eqvAll]
  | d :: ds, [], _, _ => by simp [PySem.PyData.eqvAll]
  | d :: ds, e :: es, h, h2 => by
    simp only [List.all_cons, Bool.and_eq_true] at h h2
    simp only [List.map_cons, PySem.PyData.eqvAll, ih d e h.1 h2.1, it_eqs ih ds es h.2 h2.2, List.cons.injEq, Bool.decide_and]
theorem it_eqv : ∀ (n : Nat) (d e : D), D.it n d = true → D.it n e = true → PySem.PyData.eqv (D.cv n d) (D.cv n e) = decide (d = e)
  | 0, d, _, h, _ => by simp [D.it] at h
  | n + 1, d, e, h, h2 => by
    cases d with
    | int i =>
      cases e with
      | int j =>
        simp only [D.cv, PySem.PyData.eqv, D.int.injEq]
        by_cases q : i = j <;> simp [q]
      | tup es => simp [D.cv, PySem.PyData.eqv]
      | _ => simp [D.it] at h2
    | tup ds =>
      cases e with
      | int j => simp [D.cv, PySem.PyData.eqv]
      | tup es =>
        simp only [D.it] at h h2
        simp only [D.cv, PySem.PyData.eqv, it_eqs (fun d e => it_eqv n d e) ds es h h2, D.tup.injEq]
      | _ => simp [D.it] at h2
    | _ => simp [D.it] at h
theorem eqP_it {st : Store} {d e : D} (h1 : D.it 30 d = true) (h2 : D.it 30 e = true) : eqP d e st = some (decide (d = e)) := by
  obtain ⟨a1, a2⟩ := it_lay 30 d h1
  obtain ⟨b1, b2⟩ := it_lay 30 e h2
  have s1 : PySem.SeqAt.shaped (D.cv 30 d) = true := by unfold PySem.SeqAt.shaped; rw [a1]; simp; omega
  have s2 : PySem.SeqAt.shaped (D.cv 30 e) = true := by unfold PySem.SeqAt.shaped; rw [b1]; simp; omega
  simp only [eqP, it_toP 30 d h1, it_toP 30 e h2, s1, s2, Bool.and_self, if_true, it_eqv 30 d e h1 h2]
theorem eqP_lst {st : Store} {l m : Nat} {ds es : List D} (g1 : lstOf (.ref l) st = some ds) (g2 : lstOf (.ref m) st = some es) (h1 : ds.all (D.it 30) = true) (h2 : es.all (D.it 30) = true) : eqP (.ref l) (.ref m) st = some (decide (ds = es)) := by
  have look : ∀ {l : Nat} {ds : List D}, lstOf (.ref l) st = some ds → ds.all (D.it 30) = true → toP (lookP st 8) (.ref l) = some (.list (ds.map (D.cv 30))) := by
    intro l ds g h
    unfold lstOf at g
    simp only at g
    simp only [toP]
    unfold lookP
    split at g
    · cases g; rename_i q; simp only [q, it_ps (fun d => it_toP 30 d) ds h, Option.map_some]
    · cases g; rename_i q; simp only [q, it_ps (fun d => it_toP 30 d) ds h, Option.map_some]
    · cases g
  obtain ⟨a1, a2⟩ := it_lays (fun d => it_lay 30 d) ds h1
  obtain ⟨b1, b2⟩ := it_lays (fun d => it_lay 30 d) es h2
  have s1 : PySem.SeqAt.shaped (.list (ds.map (D.cv 30))) = true := by unfold PySem.SeqAt.shaped; simp only [PySem.PyData.canLay0, PySem.PyData.depth, a1]; simp; omega
  have s2 : PySem.SeqAt.shaped (.list (es.map (D.cv 30))) = true := by unfold PySem.SeqAt.shaped; simp only [PySem.PyData.canLay0, PySem.PyData.depth, b1]; simp; omega
  simp only [eqP, look g1 h1, look g2 h2, s1, s2, Bool.and_self, if_true, PySem.PyData.eqv, it_eqs (fun d e => it_eqv 30 d e) ds es h1 h2]
theorem it_ints {n : Nat} (is : List Int) : (is.map D.int).all (D.it (n + 1)) = true := by simp [D.it]
theorem fm_none {α β : Type} (l : List α) : l.filterMap (fun _ => (none : Option β)) = [] := by
  induction l with
  | nil => rfl
  | cons a l ih => simp [ih]
end Nz
namespace Nz
/-- the same data, through lists; within n -/
def Same (st : Store) : Nat → D → D → Prop
  | 0, _, _ => False
  | n + 1, d, e => (match e with
    | .tup es => ∃ ds, d = .tup ds ∧ ds.length = es.length ∧ es.length < 1000000 ∧ ∀ (i : Nat) x y, ds[i]? = some x → es[i]? = some y → Same st n x y
    | .wt _ => False
    | .ref l => ∃ m ds es, d = .ref m ∧ lstOf (.ref m) st = some ds ∧ lstOf (.ref l) st = some es ∧ ds.length = es.length ∧ es.length < 1000000 ∧ ∀ (i : Nat) x y, ds[i]? = some x → es[i]? = some y → Same st n x y
    | e => d = e)
section
variable {P : Prog}
theorem alike_seq (k : Nat) (st : Store) (d e : D) (ds es : List D) (hd : (d = .tup ds ∧ e = .tup es) ∨ ((∃ l, d = .ref l ∧ lstOf (.ref l) st = some ds) ∧ ∃ l, e = .ref l ∧ lstOf (.ref l) st = some es))
    (hl : ds.length = es.length) (hz : es.length < 1000000) (ih : ∀ (i : Nat) x y, ds[i]? = some x → es[i]? = some y → run P k 13 [x, y] st = .ok (.bl true) st) :
    exs P.G (run P k) bd13 [some d, some e, none] st = .ok (.ret (.bl true), [some d, some e, none]) (st ++ [.lst [], .lst []]) := by
  have hz2 : (es.length : Int) < 4611686018427387904 := by omega
  have hlen : biLen e st = .ok (.int es.length) st := by
    rcases hd with ⟨rfl, rfl⟩ | ⟨⟨l, rfl, h1⟩, m, rfl, h2⟩
    · simp [EVa, place, List.map_cons, List.map_nil, List.cons_append, List.nil_append, Nat.reduceSub, List.replicate_succ, List.replicate_zero, List.getElem?_cons_zero, List.getElem?_cons_succ, Option.join_some]
    · simp [EVa, place, List.map_cons, List.map_nil, List.cons_append, List.nil_append, Nat.reduceSub, List.replicate_succ, List.replicate_zero, List.getElem?_cons_zero, List.getElem?_cons_succ, Option.join_some, h2]
  have hlen2 : biLen d st = .ok (.int es.length) st := by
    rcases hd with ⟨rfl, rfl⟩ | ⟨⟨l, rfl, h1⟩, m, rfl, h2⟩
    · simp [EVa, place, List.map_cons, List.map_nil, List.cons_append, List.nil_append, Nat.reduceSub, List.replicate_succ, List.replicate_zero, List.getElem?_cons_zero, List.getElem?_cons_succ, Option.join_some, hl]
    · simp [EVa, place, List.map_cons, List.map_nil, List.cons_append, List.nil_append, Nat.reduceSub, List.replicate_succ, List.replicate_zero, List.getElem?_cons_zero, List.getElem?_cons_succ, Option.join_some, h1, hl]
  have hix : ∀ i : Nat, i < es.length → index d (.int i) st = .ok (ds[i]?.getD .non) st ∧ index e (.int i) st = .ok (es[i]?.getD .non) st := by
    intro i hi
    have e1 : es[i]? = some es[i] := by simp [hi]
    have e2 : ds[i]? = some (ds[i]'(by omega)) := by simp [hl, hi]
    rw [e1, e2]
    rcases hd with ⟨rfl, rfl⟩ | ⟨⟨l, rfl, h1⟩, m, rfl, h2⟩
    · simp [index_tup (getAt_nat e1), index_tup (getAt_nat e2)]
    · simp [index_lst h2 (getAt_nat e1), index_lst h1 (getAt_nat e2)]
  have t1 : isAny e st [.tuple, .list] = some true := by
    rcases hd with ⟨rfl, rfl⟩ | ⟨⟨l, rfl, h1⟩, m, rfl, h2⟩
    · simp [EVa, place, List.map_cons, List.map_nil, List.cons_append, List.nil_append, Nat.reduceSub, List.replicate_succ, List.replicate_zero, List.getElem?_cons_zero, List.getElem?_cons_succ, Option.join_some]
    · simp [isAny, isTy_lst h2]
  have t2 : isAny d st [.tuple, .list] = some true := by
    rcases hd with ⟨rfl, rfl⟩ | ⟨⟨l, rfl, h1⟩, m, rfl, h2⟩
    · simp [EVa, place, List.map_cons, List.map_nil, List.cons_append, List.nil_append, Nat.reduceSub, List.replicate_succ, List.replicate_zero, List.getElem?_cons_zero, List.getElem?_cons_succ, Option.join_some]
    · simp [isAny, isTy_lst h1]
  obtain ⟨bb, t3, t4⟩ : ∃ bb, isAny e st [.list] = some bb ∧ isAny d st [.list] = some bb := by
    rcases hd with ⟨rfl, rfl⟩ | ⟨⟨l, rfl, h1⟩, m, rfl, h2⟩
    · exact ⟨false, by simp [EVa, place, List.map_cons, List.map_nil, List.cons_append, List.nil_append, Nat.reduceSub, List.replicate_succ, List.replicate_zero, List.getElem?_cons_zero, List.getElem?_cons_succ, Option.join_some], by simp [EVa, place, List.map_cons, List.map_nil, List.cons_append, List.nil_append, Nat.reduceSub, List.replicate_succ, List.replicate_zero, List.getElem?_cons_zero, List.getElem?_cons_succ, Option.join_some]⟩
    · exact ⟨true, by simp [isAny, isTy_lst h2], by simp [isAny, isTy_lst h1]⟩
  unfold bd13
  apply exs_ret
  simp only [ex_ifs, evC_val, ev_isi, ev_var, List.getElem?_cons_succ, List.getElem?_cons_zero, Option.join_some, ofO_some, R.bind_ok, t1, R.ofB_some, rB_bl]
  rw [exs_nx (ρ' := [some d, some e, none]) (st' := st) (by simp [EVa, place, List.map_cons, List.map_nil, List.cons_append, List.nil_append, Nat.reduceSub, List.replicate_succ, List.replicate_zero, List.getElem?_cons_zero, List.getElem?_cons_succ, Option.join_some, t2, t3, t4, exs_nil])]
  rw [exs_nx (ρ' := [some d, some e, none]) (st' := st) (by simp [EVa, place, List.map_cons, List.map_nil, List.cons_append, List.nil_append, Nat.reduceSub, List.replicate_succ, List.replicate_zero, List.getElem?_cons_zero, List.getElem?_cons_succ, Option.join_some, hlen, hlen2, exs_nil])]
  apply exs_ret
  have hc : ev P.G (run P k) (.comp [2] (.var 2) (.nm 2) (.rng1 (.bi .len (.cons (.var 1) .nil))) (.some (.not (.val (.call 13 (.cons (.idx (.var 0) (.var 2)) (.cons (.idx (.var 1) (.var 2)) .nil))))))) [some d, some e, none] st = newL [] st := by
    rw [comp_pure (fun _ => none) (w := ⟨rangeL 0 es.length, []⟩) (s := st) _ rfl]
    · rw [fm_none]
    · intro x hx
      obtain ⟨i, hi⟩ := List.mem_iff_getElem?.mp hx
      obtain ⟨h1, rfl⟩ := rangeL_get hi
      have e1 : es[i]? = some es[i] := by simp [h1]
      have e2 : ds[i]? = some (ds[i]'(by omega)) := by simp [hl, h1]
      have q := hix i h1
      rw [e1, e2] at q
      simp only [Option.getD_some] at q
      simp [stp, EVa, place, List.map_cons, List.map_nil, List.cons_append, List.nil_append, Nat.reduceSub, List.replicate_succ, List.replicate_zero, List.getElem?_cons_zero, List.getElem?_cons_succ, Option.join_some, forget, q, ih i _ _ e2 e1]
    · have hr : rngOk (es.length : Int) = true := rng_ok (by omega) hz2
      simp [EVa, place, List.map_cons, List.map_nil, List.cons_append, List.nil_append, Nat.reduceSub, List.replicate_succ, List.replicate_zero, List.getElem?_cons_zero, List.getElem?_cons_succ, Option.join_some, hlen, rng_0, hr]
  have hq : eqP (.ref st.length) (.ref (st.length + 1)) (st ++ [.lst [], .lst []]) = some true := by
    rw [eqP_lst (ds := []) (es := []) (by simp [lstOf]) (by simp [lstOf]) rfl rfl]
    rfl
  rw [newL_ok' (by simp)] at hc
  simp [EVa, place, List.map_cons, List.map_nil, List.cons_append, List.nil_append, Nat.reduceSub, List.replicate_succ, List.replicate_zero, List.getElem?_cons_zero, List.getElem?_cons_succ, Option.join_some, hc, hq]
theorem alike (h13 : P.defs.lookup 13 = some ⟨2, 3, bd13⟩) (n : Nat) : ∀ (st : Store) (d e : D), Same st n d e → ∀ k, run P (k + n) 13 [d, e] st = .ok (.bl true) st := by
  induction n with
  | zero => intro _ _ _ h; exact h.elim
  | succ n ih =>
    intro st d e h k
    rw [show k + (n + 1) = (k + n) + 1 by omega, run_eq h13]
    cases e with
    | non => have h : d = .non := h; subst h; simp [bd13, exs, EVa, place, List.map_cons, List.map_nil, List.cons_append, List.nil_append, Nat.reduceSub, List.replicate_succ, List.replicate_zero, List.getElem?_cons_zero, List.getElem?_cons_succ, Option.join_some, gc_id]
    | bl b => have h : d = .bl b := h; subst h; simp [bd13, exs, EVa, place, List.map_cons, List.map_nil, List.cons_append, List.nil_append, Nat.reduceSub, List.replicate_succ, List.replicate_zero, List.getElem?_cons_zero, List.getElem?_cons_succ, Option.join_some, gc_id]
    | int b => have h : d = .int b := h; subst h; simp [bd13, exs, EVa, place, List.map_cons, List.map_nil, List.cons_append, List.nil_append, Nat.reduceSub, List.replicate_succ, List.replicate_zero, List.getElem?_cons_zero, List.getElem?_cons_succ, Option.join_some, gc_id]
    | str b => have h : d = .str b := h; subst h; simp [bd13, exs, EVa, place, List.map_cons, List.map_nil, List.cons_append, List.nil_append, Nat.reduceSub, List.replicate_succ, List.replicate_zero, List.getElem?_cons_zero, List.getElem?_cons_succ, Option.join_some, gc_id]
    | wt es => exact h.elim
    | tup es =>
      obtain ⟨ds, rfl, hl, hz, hs⟩ := h
      have := alike_seq (P := P) (k + n) st _ _ ds es (.inl ⟨rfl, rfl⟩) hl hz fun i x y h1 h2 => ih st x y (hs i x y h1 h2) k
      simp only [List.length_cons, List.length_nil, List.map_cons, List.map_nil, List.cons_append, List.nil_append, Nat.reduceSub, List.replicate_succ, List.replicate_zero, Nat.reduceAdd, beq_self_eq_true, R.grd_true, this, R.bind_ok, fin_ret]
      exact gc_same _ rfl
    | ref l =>
      obtain ⟨m, ds, es, rfl, g1, g2, hl, hz, hs⟩ := h
      have := alike_seq (P := P) (k + n) st _ _ ds es (.inr ⟨⟨m, rfl, g1⟩, l, rfl, g2⟩) hl hz fun i x y h1 h2 => ih st x y (hs i x y h1 h2) k
      simp only [List.length_cons, List.length_nil, List.map_cons, List.map_nil, List.cons_append, List.nil_append, Nat.reduceSub, List.replicate_succ, List.replicate_zero, Nat.reduceAdd, beq_self_eq_true, R.grd_true, this, R.bind_ok, fin_ret]
      exact gc_same _ rfl
theorem same_int (st : Store) (n : Nat) (i : Int) : Same st (n + 1) (.int i) (.int i) := rfl
theorem same_bl (st : Store) (n : Nat) (i : Bool) : Same st (n + 1) (.bl i) (.bl i) := rfl
/-- data without places, through at most n tuples -/
def D.pl : Nat → D → Bool
  | 0, _ => false
  | n + 1, d => (match d with
    | .tup ds => decide (ds.length < 1000000) && ds.all (D.pl n)
    | .ref _ => false
    | .wt _ => false
    | _ => true)
theorem same_pl (st : Store) : ∀ (n : Nat) (d : D), D.pl n d = true → Same st n d d
  | 0, d, h => by simp [D.pl] at h
  | n + 1, d, h => by
    cases d with
    | tup ds =>
      simp only [D.pl, Bool.and_eq_true, decide_eq_true_eq] at h
      refine ⟨ds, rfl, rfl, h.1, fun i x y hx hy => ?_⟩
      rw [hx] at hy
      cases hy
      exact same_pl st n x (List.all_eq_true.mp h.2 x (List.mem_of_getElem? hx))
    | ref l => simp [D.pl] at h
    | wt l => simp [D.pl] at h
    | _ => rfl
end
end Nz
namespace Nz
/-! ### lifting steps: the numbers -/
def mir (n i : Int) : Int := if i % (2 * (n - 1)) < n then i % (2 * (n - 1)) else 2 * (n - 1) - i % (2 * (n - 1))
theorem mir_rng {n i : Int} (h : 2 ≤ n) : 0 ≤ mir n i ∧ mir n i < n := by
  have h1 := Int.emod_nonneg i (show 2 * (n - 1) ≠ 0 by omega)
  have h2 := Int.emod_lt_of_pos i (show 0 < 2 * (n - 1) by omega)
  unfold mir
  generalize i % (2 * (n - 1)) = j at *
  split <;> omega
theorem mir_id {n i : Int} (h : 2 ≤ n) (h0 : 0 ≤ i) (h1 : i < n) : mir n i = i := by
  unfold mir
  rw [Int.emod_eq_of_lt h0 (by omega), if_pos h1]
theorem neg_emod' {L i : Int} (h : 0 < L) : (-i) % L = if i % L = 0 then 0 else L - i % L := by
  have h1 := Int.emod_nonneg i (show L ≠ 0 by omega)
  have h2 := Int.emod_lt_of_pos i h
  have e := Int.mul_ediv_add_emod i L
  by_cases c : i % L = 0
  · rw [if_pos c, show -i = 0 + L * (-(i / L)) by rw [Int.mul_neg]; omega, Int.add_mul_emod_self_left]
    rfl
  · rw [if_neg c, show -i = (L - i % L) + L * (-(i / L) - 1) by rw [Int.mul_sub, Int.mul_neg, Int.mul_one]; omega, Int.add_mul_emod_self_left]
    exact Int.emod_eq_of_lt (by omega) (by omega)
theorem mir_neg {n i : Int} (h : 2 ≤ n) : mir n (-i) = mir n i := by
  have h1 := Int.emod_nonneg i (show 2 * (n - 1) ≠ 0 by omega)
  have h2 := Int.emod_lt_of_pos i (show 0 < 2 * (n - 1) by omega)
  unfold mir
  rw [neg_emod' (by omega)]
  generalize i % (2 * (n - 1)) = j at *
  split <;> split <;> (try split) <;> omega
theorem mir_flip {n i : Int} (h : 2 ≤ n) : mir n (2 * (n - 1) - i) = mir n i := by
  rw [← mir_neg (i := i) h]
  unfold mir
  rw [show 2 * (n - 1) - i = -i + 2 * (n - 1) * 1 by omega, Int.add_mul_emod_self_left]
/-- a sample -/
def gi (xs : List Int) (i : Int) : Int := xs.getD i.toNat 0
theorem gi_get {xs : List Int} {i : Int} (h0 : 0 ≤ i) (h1 : i < xs.length) : getAt (xs.map .int) i = some (.int (gi xs i)) := by
  refine getAt_int h0 ?_
  have : i.toNat < xs.length := by omega
  rw [List.getElem?_map, List.getElem?_eq_getElem this]
  unfold gi
  rw [List.getD_eq_getElem?_getD, List.getElem?_eq_getElem this]
  rfl
/-- a sum over the first numbers -/
def ps (g : Nat → Int) : Nat → Int
  | 0 => 0
  | j + 1 => ps g j + g j
def wsm (ws xs : List Int) (p : Int) (f : Nat) : Int := ws.getD f 0 * (gi xs (mir xs.length (p - 1 - 2 * f)) + gi xs (mir xs.length (p + 1 + 2 * f)))
def sv (ws : List Int) (sh num start : Int) (xs : List Int) (p : Nat) : Int := gi xs p + (if (num + (start + p)) % 2 = 1 then (ps (wsm ws xs p) ws.length + 2 ^ sh.toNat / 2) / 2 ^ sh.toNat else 0)
def stepped (ws : List Int) (sh num start : Int) (xs : List Int) : List Int := if xs.length ≤ 1 then xs else (List.range xs.length).map fun p => sv ws sh num start xs p
theorem stepped_len {ws : List Int} {sh num start : Int} {xs : List Int} : (stepped ws sh num start xs).length = xs.length := by
  unfold stepped; split <;> simp
/-- samples of which the first j are changed -/
def half (f : Nat → Int) (xs : List Int) (j : Nat) : List Int := (List.range xs.length).map fun p => if p < j then f p else gi xs p
theorem half_len {f : Nat → Int} {xs : List Int} {j : Nat} : (half f xs j).length = xs.length := by simp [half]
theorem half_0 {f : Nat → Int} {xs : List Int} : half f xs 0 = xs := by
  apply List.ext_getElem
  · simp [half]
  · intro i h1 h2
    simp [half, gi, h2]
theorem half_all {f : Nat → Int} {xs : List Int} : half f xs xs.length = (List.range xs.length).map f := by
  apply List.ext_getElem
  · simp [half]
  · intro i h1 h2
    simp [half, half_len] at h1 ⊢
    omega
theorem half_get {f : Nat → Int} {xs : List Int} {j : Nat} (h : j < xs.length) : gi (half f xs j) j = gi xs j := by
  simp [half, gi, h]
theorem half_set {f : Nat → Int} {xs : List Int} {j : Nat} (h : j < xs.length) : (half f xs j).set j (f j) = half f xs (j + 1) := by
  apply List.ext_getElem
  · simp [half]
  · intro i h1 h2
    simp only [half, List.getElem_set, List.getElem_map, List.getElem_range]
    by_cases c : j = i
    · subst c; simp
    · rw [if_neg c]
      by_cases d : i < j
      · rw [if_pos d, if_pos (by omega)]
      · rw [if_neg d, if_neg (by omega)]
theorem half_same {f : Nat → Int} {xs : List Int} {j : Nat} (h : j < xs.length) (e : f j = gi xs j) : half f xs (j + 1) = half f xs j := by
  unfold half
  apply List.map_congr_left
  intro p hp
  by_cases c : p = j
  · subst c; simp [e]
  · by_cases d : p < j
    · rw [if_pos d, if_pos (by omega)]
    · rw [if_neg d, if_neg (by omega)]
/-! ### values that are walked or read by place -/
section
variable {st : Store} {x : D} {ds : List D}
theorem seqOf_app (js : Store) (h : seqOf x st = some ds) : seqOf x (st ++ js) = some ds := by
  cases x with
  | tup es => exact h
  | ref l =>
    simp only [seqOf] at h ⊢
    cases e : st[l]? with
    | none => rw [e] at h; cases h
    | some o =>
      rw [List.getElem?_append_left (List.getElem?_eq_some_iff.mp e).1, e]
      rw [e] at h
      exact h
  | _ => cases h
theorem dctOf_seq (h : seqOf x st = some ds) : dctOf x st = none := by
  cases x with
  | ref l =>
    unfold seqOf at h
    unfold dctOf
    simp only at h ⊢
    split at h
    · rename_i q; simp only [q]
    · rename_i q; simp only [q]
    · cases h
  | _ => rfl
theorem index_seq {i : Int} {d : D} (h : seqOf x st = some ds) (h2 : getAt ds i = some d) : index x (.int i) st = .ok d st := by simp only [index, dctOf_seq h, seqW_of h, h2]
theorem len_seq (h : seqOf x st = some ds) : biLen x st = .ok (.int ds.length) st := by simp only [biLen, seqW_of h]
theorem mkl_seq (h : seqOf x st = some ds) : biMkl x st = newL ds st := by simp only [biMkl, h]
theorem mkt_seq (h : seqOf x st = some ds) : biMkt x st = newT ds st := by
  cases x with
  | tup es => cases h; rfl
  | ref l =>
    show (match seqOf (.ref l) st with
    | some ds => newT ds st
    | none => .no) = _
    rw [h]
  | _ => cases h
theorem wkEnum_tup : wkEnum (.tup ds) st = .ok ⟨numbered 0 ds, []⟩ st := (rfl)
theorem get_last {o : O} : (st ++ [o])[st.length]? = some o := by simp
theorem set_last {o p : O} : (st ++ [o]).set st.length p = st ++ [p] := by simp
theorem lst_last : lstOf (.ref st.length) (st ++ [.lst ds]) = some ds := by simp [lstOf]
theorem cutE_open {ρ : Env} {s : Store} (h : envCl st.length ρ = false) : cutE st ρ s = s := by simp [cutE, h, cutT]
theorem cutE_same {ρ : Env} : cutE st ρ st = st := by simp [cutE, cutT_same]
theorem cutE_app {ρ : Env} (js : Store) (h : envCl st.length ρ = true) : cutE st ρ (st ++ js) = st := by simp [cutE, h, pfx_app, cutT]
end
theorem asg_two (i j : Nat) (a b : D) (ρ : Env) : T.asg (.tp [.nm i, .nm j]) (.tup [a, b]) ρ = some ((ρ.set i (some a)).set j (some b)) := by simp only [asg_tp, asgs_cons, asg_nm, asgs_nil]
theorem num_get : ∀ {ds : List D} {i n : Nat} {d : D}, (numbered n ds)[i]? = some d → ∃ e, ds[i]? = some e ∧ d = .tup [.int ((n + i : Nat) : Int), e]
  | [], i, n, d, h => by simp [numbered] at h
  | x :: xs, 0, n, d, h => by simp [numbered] at h; exact ⟨x, rfl, by simp [← h]⟩
  | x :: xs, i + 1, n, d, h => by
    simp only [numbered, List.getElem?_cons_succ] at h
    obtain ⟨e, h1, h2⟩ := num_get h
    exact ⟨e, h1, by rw [h2]; congr 3; omega⟩
theorem num_len : ∀ {ds : List D} {n : Nat}, (numbered n ds).length = ds.length
  | [], n => rfl
  | x :: xs, n => by simp [numbered, num_len]
theorem rangeL_nat {n i : Nat} {d : D} (h : (rangeL 0 n)[i]? = some d) : i < n ∧ d = .int (i : Int) := by
  obtain ⟨h1, h2⟩ := rangeL_get h
  exact ⟨h1, by rw [h2]; simp⟩
/-! ### lifting steps: the program -/
section
variable {P : Prog}
theorem mirrored31 (h31 : P.defs.lookup 31 = some ⟨2, 3, bd31⟩) (k : Nat) (i n : Int) (st : Store) (h : 2 ≤ n) (hn : n ≤ 1000) : run P (k + 1) 31 [.int i, .int n] st = .ok (.int (mir n i)) st := by
  rw [run_eq h31]
  have m1 : mulOk 2 (n - 1) = true := mulOk_l (by omega) (by omega)
  have p1 : 0 < 2 * (n - 1) := by omega
  unfold mir
  have a1 := ar_mod (i := i) p1
  by_cases c : i % (2 * (n - 1)) < n <;> simp [exs, bd31, EVa, place, List.map_cons, List.map_nil, List.cons_append, List.nil_append, Nat.reduceSub, List.replicate_succ, List.replicate_zero, List.getElem?_cons_zero, List.getElem?_cons_succ, Option.join_some, m1, a1, c, gc_id]
theorem weighted32 (h31 : P.defs.lookup 31 = some ⟨2, 3, bd31⟩) (h32 : P.defs.lookup 32 = some ⟨3, 8, bd32⟩) (k : Nat) (ws xs : List Int) (p : Int) (x : D) (st : Store) (hx : seqOf x st = some (xs.map .int)) (h2 : 2 ≤ xs.length) (h64 : xs.length ≤ 1000) (hw : ∀ w ∈ ws, -64 ≤ w ∧ w ≤ 64) :
    run P (k + 2) 32 [.tup (ws.map .int), x, .int p] st = .ok (.int (ps (wsm ws xs p) ws.length)) st := by
  rw [run_eq h32]
  simp only [List.length_cons, List.length_nil, List.map_cons, List.map_nil, List.cons_append, List.nil_append, Nat.reduceSub, List.replicate_succ, List.replicate_zero, Nat.reduceAdd, beq_self_eq_true, R.grd_true]
  unfold bd32
  rw [exs_one]
  simp [EVa, place, List.map_cons, List.map_nil, List.cons_append, List.nil_append, Nat.reduceSub, List.replicate_succ, List.replicate_zero, List.getElem?_cons_zero, List.getElem?_cons_succ, Option.join_some]
  rw [exs_one, ex_forB]
  simp [EVa, place, List.map_cons, List.map_nil, List.cons_append, List.nil_append, Nat.reduceSub, List.replicate_succ, List.replicate_zero, List.getElem?_cons_zero, List.getElem?_cons_succ, Option.join_some, wkEnum_tup]
  have len := len_seq hx
  obtain ⟨ρ', st', e1, e2⟩ := forLoop_inv (body := exs P.G (run P (k + 1)) (match bd32 with
    | .cons _ (.cons (.for_ _ _ b) _) => b
    | _ => .nil)) (t := .tp [.nm 4, .nm 5]) (ρ₀ := [some (.tup (ws.map .int)), some x, some (.int p), some (.int 0), none, none, none, none]) (st₀ := st) (wat := [])
    (fun j ρ st' => ρ = [some (.tup (ws.map .int)), some x, some (.int p), some (.int (ps (wsm ws xs p) j)), none, none, none, none] ∧ st' = st) (numbered 0 (ws.map .int)) 0 [some (.tup (ws.map .int)), some x, some (.int p), some (.int 0), none, none, none, none] st ⟨rfl, rfl⟩ (fun _ _ _ _ _ => rfl) fun j d ρ st' hd ⟨e1, e2⟩ => by
      subst e1 e2
      obtain ⟨e, he, rfl⟩ := num_get hd
      rw [List.getElem?_map] at he
      obtain ⟨w, hw1, rfl⟩ := Option.map_eq_some_iff.mp he
      have hwb := hw w (List.mem_of_getElem? hw1)
      have hg : ws.getD j 0 = w := by rw [List.getD_eq_getElem?_getD, hw1]; rfl
      simp only [Nat.zero_add]
      refine ⟨_, [some (.tup (ws.map .int)), some x, some (.int p), some (.int (ps (wsm ws xs p) (j + 1))), some (.int j), some (.int w), some (.int (gi xs (mir xs.length (p - 1 - 2 * j)))), some (.int (gi xs (mir xs.length (p + 1 + 2 * j))))], _, asg_two _ _ _ _ _, .inl ?_, rfl, cutE_same⟩
      have n2 : (2 : Int) ≤ (xs.length : Int) := by omega
      have m1 := fun i st => mirrored31 h31 k i (xs.length : Int) st n2 (by omega)
      have g1 := gi_get (xs := xs) (mir_rng (i := p - 1 - 2 * j) n2).1 (mir_rng n2).2
      have g2 := gi_get (xs := xs) (mir_rng (i := p + 1 + 2 * j) n2).1 (mir_rng n2).2
      have i1 := index_seq hx g1
      have i2 := index_seq hx g2
      have m2 : mulOk 2 (j : Int) = true := mulOk_l (by omega) (by omega)
      have m3 : ∀ y, mulOk w y = true := fun y => mulOk_l (by omega) (by omega)
      simp [exs, bd32, EVa, place, List.map_cons, List.map_nil, List.cons_append, List.nil_append, Nat.reduceSub, List.replicate_succ, List.replicate_zero, List.getElem?_cons_zero, List.getElem?_cons_succ, Option.join_some, len, m1, m2, m3, i1, i2]
      simp only [ps, wsm, hg]
  unfold bd32 at e1
  simp only at e1
  rw [e1]
  simp only [num_len, List.length_map, Nat.zero_add] at e2
  obtain ⟨rfl, rfl⟩ := e2
  simp [exs, EVa, place, List.map_cons, List.map_nil, List.cons_append, List.nil_append, Nat.reduceSub, List.replicate_succ, List.replicate_zero, List.getElem?_cons_zero, List.getElem?_cons_succ, Option.join_some, nxt_nx, gc_id]
theorem is_changed33 (h33 : P.defs.lookup 33 = some ⟨2, 2, bd33⟩) (k : Nat) (i j : Int) (st : Store) : run P (k + 1) 33 [.int i, .int j] st = .ok (.bl (decide ((i + j) % 2 = 1))) st := by
  rw [run_eq h33]
  simp [exs, bd33, EVa, place, List.map_cons, List.map_nil, List.cons_append, List.nil_append, Nat.reduceSub, List.replicate_succ, List.replicate_zero, List.getElem?_cons_zero, List.getElem?_cons_succ, Option.join_some, gc_id]
/-- weights and shift of a step -/
structure StOk (s : List Int × Int) : Prop where
  n1 : 1 ≤ s.1.length
  n2 : s.1.length ≤ 2
  w : ∀ w ∈ s.1, -64 ≤ w ∧ w ≤ 64
  s0 : 0 ≤ s.2
  s1 : s.2 ≤ 8
abbrev stD (s : List Int × Int) : D := .tup [.tup (s.1.map .int), .int s.2]
abbrev stsD (ss : List (List Int × Int)) : D := .tup (ss.map stD)
theorem pow_ok {s : Int} (h0 : 0 ≤ s) (h1 : s ≤ 8) : (1 : Int).natAbs.log2 + s.toNat < 100000000 ∧ 0 < (2 : Int) ^ s.toNat ∧ (2 : Int) ^ s.toNat ≤ 256 := by
  have h : ∀ n : Nat, n < 9 → (1 : Int).natAbs.log2 + n < 100000000 ∧ 0 < (2 : Int) ^ n ∧ (2 : Int) ^ n ≤ 256 := by decide
  exact h s.toNat (by omega)
theorem ar_shl1 {s : Int} (h0 : 0 ≤ s) (h1 : s ≤ 8) : arith .shl 1 s = some (2 ^ s.toNat) := by
  have := (pow_ok h0 h1).1
  simp only [arith, h0, this, show s ≤ 1000000 by omega, and_self, if_true, Int.one_mul]
theorem with_step34 (h31 : P.defs.lookup 31 = some ⟨2, 3, bd31⟩) (h32 : P.defs.lookup 32 = some ⟨3, 8, bd32⟩) (h33 : P.defs.lookup 33 = some ⟨2, 2, bd33⟩) (h34 : P.defs.lookup 34 = some ⟨5, 9, bd34⟩) (k : Nat) (ss : List (List Int × Int)) (s : List Int × Int) (num : Nat) (start : Int) (xs : List Int) (x : D) (st : Store)
    (hs : ss[num]? = some s) (ok : StOk s) (hx : seqOf x st = some (xs.map .int)) (h64 : xs.length ≤ 1000) :
    run P (k + 3) 34 [stsD ss, .int num, .int start, x, .int 1] st = .ok (.ref st.length) (st ++ [.lst ((stepped s.1 s.2 num start xs).map .int)]) := by
  obtain ⟨ws, sh⟩ := s
  have hg : getAt (ss.map stD) (num : Int) = some (stD (ws, sh)) := getAt_nat (by rw [List.getElem?_map, hs]; rfl)
  rw [run_eq h34]
  simp only [List.length_cons, List.length_nil, List.map_cons, List.map_nil, List.cons_append, List.nil_append, Nat.reduceSub, List.replicate_succ, List.replicate_zero, Nat.reduceAdd, beq_self_eq_true, R.grd_true]
  have hl : (xs.map D.int).length ≤ 16777216 := by rw [List.length_map]; omega
  have gcl : ∀ ys : List Int, gc st (.ok (.ref st.length) (st ++ [.lst (ys.map .int)])) = .ok (.ref st.length) (st ++ [.lst (ys.map .int)]) := fun ys => by
    simp [gc, pfx_app, O.cl, cls_int]
  unfold bd34
  rw [exs_one]
  simp [EVa, place, List.map_cons, List.map_nil, List.cons_append, List.nil_append, Nat.reduceSub, List.replicate_succ, List.replicate_zero, List.getElem?_cons_zero, List.getElem?_cons_succ, Option.join_some, hg]
  rw [exs_one]
  simp [EVa, place, List.map_cons, List.map_nil, List.cons_append, List.nil_append, Nat.reduceSub, List.replicate_succ, List.replicate_zero, List.getElem?_cons_zero, List.getElem?_cons_succ, Option.join_some, mkl_seq hx, newL_ok' (st := st) hl]
  have len := fun js => len_seq (seqOf_app js hx)
  rw [exs_one]
  by_cases c : xs.length ≤ 1
  · have c' : ¬ ((1 : Int) < (xs.length : Int)) := by omega
    simp [EVa, place, List.map_cons, List.map_nil, List.cons_append, List.nil_append, Nat.reduceSub, List.replicate_succ, List.replicate_zero, List.getElem?_cons_zero, List.getElem?_cons_succ, Option.join_some, len, c']
    rw [exs_one]
    simp [EVa, place, List.map_cons, List.map_nil, List.cons_append, List.nil_append, Nat.reduceSub, List.replicate_succ, List.replicate_zero, List.getElem?_cons_zero, List.getElem?_cons_succ, Option.join_some]
    rw [gcl]
    simp [stepped, c]
  · have c' : (1 : Int) < (xs.length : Int) := by omega
    have e1 : stepped ws sh num start xs = half (fun p => sv ws sh num start xs p) xs xs.length := by
      rw [half_all, stepped, if_neg c]
    obtain ⟨f, hf⟩ : ∃ f : Nat → Int, f = fun p => sv ws sh num start xs p := ⟨_, rfl⟩
    rw [← hf] at e1
    simp [EVa, place, List.map_cons, List.map_nil, List.cons_append, List.nil_append, Nat.reduceSub, List.replicate_succ, List.replicate_zero, List.getElem?_cons_zero, List.getElem?_cons_succ, Option.join_some, len, c']
    rw [exs_one, ex_forB]
    simp [EVa, place, List.map_cons, List.map_nil, List.cons_append, List.nil_append, Nat.reduceSub, List.replicate_succ, List.replicate_zero, List.getElem?_cons_zero, List.getElem?_cons_succ, Option.join_some, len, rng_0, rng_ok (i := xs.length) (by omega) (by omega)]
    obtain ⟨ρ', st', e2, e3⟩ := forLoop_inv (body := exs P.G (run P (k + 2)) (match bd34 with
      | .cons _ (.cons _ (.cons (.ifs _ (.cons (.for_ _ _ b) _) _) _)) => b
      | _ => .nil)) (t := .nm 8) (ρ₀ := [some (.tup (ss.map stD)), some (.int num), some (.int start), some x, some (.int 1), some (.tup (ws.map .int)), some (.int sh), some (.ref st.length), none]) (st₀ := st ++ [.lst (xs.map .int)]) (wat := [])
      (fun j ρ st' => ρ = [some (.tup (ss.map stD)), some (.int num), some (.int start), some x, some (.int 1), some (.tup (ws.map .int)), some (.int sh), some (.ref st.length), none] ∧ st' = st ++ [.lst ((half f xs j).map .int)]) (rangeL 0 xs.length) 0 [some (.tup (ss.map stD)), some (.int num), some (.int start), some x, some (.int 1), some (.tup (ws.map .int)), some (.int sh), some (.ref st.length), none] (st ++ [.lst (xs.map .int)]) ⟨rfl, by rw [half_0]⟩ (fun _ _ _ _ _ => rfl) fun j d ρ st' hd ⟨e1, e2⟩ => by
        subst e1 e2
        obtain ⟨hj, rfl⟩ := rangeL_nat hd
        simp only [Nat.zero_add]
        have cut : ∀ ys : List Int, ∀ ρ, cutE (st ++ [.lst (xs.map .int)]) ρ (st ++ [.lst (ys.map .int)]) = st ++ [.lst (ys.map .int)] := fun ys ρ => by
          unfold cutE
          cases (pfx (st ++ [O.lst (xs.map .int)]).length (st ++ [O.lst (xs.map .int)]) (st ++ [O.lst (ys.map .int)]) && envCl (st ++ [O.lst (xs.map .int)]).length ρ)
          · rfl
          · simp [cutT, List.take_append]
            exact List.take_of_length_le (by omega)
        have ch := fun st => is_changed33 h33 (k + 1) (num : Int) (start + j) st
        by_cases q : ((num : Int) + (start + j)) % 2 = 1
        · have w1 := fun st hx => weighted32 h31 h32 k ws xs (j : Int) x st hx (by omega) h64 ok.w
          have w2 := w1 _ (seqOf_app [.lst ((half f xs j).map .int)] hx)
          obtain ⟨_, q1, q2⟩ := pow_ok ok.s0 ok.s1
          have a1 := ar_shl1 ok.s0 ok.s1
          have a2 := fun i => ar_shr (i := i) (j := sh) ok.s0
          have fj : f j = gi xs j + (ps (wsm ws xs j) ws.length + 2 ^ sh.toNat / 2) / 2 ^ sh.toNat := by rw [hf]; simp only [sv, q, if_true]
          have gg : getAt ((half f xs j).map D.int) (j : Int) = some (.int (gi xs j)) := by
            rw [gi_get (by omega) (by rw [half_len]; omega), half_get hj]
          have hi : index (.ref st.length) (.int (j : Int)) (st ++ [.lst ((half f xs j).map .int)]) = .ok (.int (gi xs j)) (st ++ [.lst ((half f xs j).map .int)]) := index_lst lst_last gg
          have pl : place ((half f xs j).map D.int).length (j : Int) = some j := by
            simp only [place, List.length_map, half_len]
            rw [if_pos (by omega), if_pos (by omega)]
            simp
          have sa : ∀ v, setAt (.ref st.length) (.int (j : Int)) (.int v) (st ++ [.lst ((half f xs j).map .int)]) = .ok .non (st ++ [.lst (((half f xs j).set j v).map .int)]) := fun v => by
            rw [setAt_lst get_last pl, set_last, List.map_set]
          refine ⟨_, [some (.tup (ss.map stD)), some (.int num), some (.int start), some x, some (.int 1), some (.tup (ws.map .int)), some (.int sh), some (.ref st.length), some (.int j)], st ++ [.lst ((half f xs (j + 1)).map .int)], asg_nm _ _ _, .inl ?_, rfl, cut _ _⟩
          rw [← half_set hj, fj]
          have m1 : ∀ y, mulOk 1 y = true := fun y => mulOk_l (by omega) (by omega)
          simp [exs, bd34, EVa, place, List.map_cons, List.map_nil, List.cons_append, List.nil_append, Nat.reduceSub, List.replicate_succ, List.replicate_zero, List.getElem?_cons_zero, List.getElem?_cons_succ, Option.join_some, ch, q, w2, a1, a2, hi, sa, lst_last, m1]
        · have fj : f j = gi xs j := by rw [hf]; simp only [sv, q, if_false, Int.add_zero]
          refine ⟨_, [some (.tup (ss.map stD)), some (.int num), some (.int start), some x, some (.int 1), some (.tup (ws.map .int)), some (.int sh), some (.ref st.length), some (.int j)], st ++ [.lst ((half f xs (j + 1)).map .int)], asg_nm _ _ _, .inl ?_, rfl, cut _ _⟩
          rw [half_same hj fj]
          simp [exs, bd34, EVa, place, List.map_cons, List.map_nil, List.cons_append, List.nil_append, Nat.reduceSub, List.replicate_succ, List.replicate_zero, List.getElem?_cons_zero, List.getElem?_cons_succ, Option.join_some, ch, q]
    unfold bd34 at e2
    simp only at e2
    rw [e2]
    simp only [rangeL_len, Nat.zero_add] at e3
    obtain ⟨rfl, rfl⟩ := e3
    simp [exs, EVa, place, List.map_cons, List.map_nil, List.cons_append, List.nil_append, Nat.reduceSub, List.replicate_succ, List.replicate_zero, List.getElem?_cons_zero, List.getElem?_cons_succ, Option.join_some, nxt_nx]
    rw [gcl, e1]
end
end Nz
namespace Nz
/-! ### draws as a function -/
structure Row where
  a : Nat
  b : Int
  c : Int
abbrev SR (zs : List Int) (r : Row) (rest : Store) : Store := S0 zs r.a r.b r.c rest
def Row.val (zs : List Int) (r : Row) (m : Int) : Int := if 0 < r.c then r.c % m else if (zs.length : Int) < r.a + 1 then ((r.b * 48271 + 11) % 2147483647) / 7 % m else zs.getD r.a 0 % m
def Row.nx (zs : List Int) (r : Row) (m : Int) : Row := if 0 < r.c then ⟨r.a, r.b, r.c / m⟩ else if (zs.length : Int) < r.a + 1 then ⟨r.a + 1, (r.b * 48271 + 11) % 2147483647, r.c⟩ else
  ⟨r.a + 1, (r.b * 48271 + zs.getD r.a 0 + 11) % 2147483647, if 1000000000000000000 ≤ zs.getD r.a 0 then zs.getD r.a 0 / m else r.c⟩
theorem Row.val_lo {zs : List Int} {r : Row} {m : Int} (h : 0 < m) : 0 ≤ r.val zs m := by
  unfold Row.val; split
  · exact Int.emod_nonneg _ (by omega)
  · split <;> exact Int.emod_nonneg _ (by omega)
theorem Row.val_hi {zs : List Int} {r : Row} {m : Int} (h : 0 < m) : r.val zs m < m := by
  unfold Row.val; split
  · exact Int.emod_lt_of_pos _ h
  · split <;> exact Int.emod_lt_of_pos _ h
section
variable {P : Prog}
theorem gcR {zs : List Int} {r r' : Row} {rest : Store} {d : D} (js : Store) (h : D.cl (rest.length + 2) d = true) : gc (SR zs r rest) (.ok d (SR zs r' (rest ++ js))) = .ok d (SR zs r' rest) := gcS js h
theorem gcR0 {zs : List Int} {r r' : Row} {rest : Store} {d : D} (h : D.cl (rest.length + 2) d = true) : gc (SR zs r rest) (.ok d (SR zs r' rest)) = .ok d (SR zs r' rest) := gcS0 h
theorem tk (h10 : P.defs.lookup 10 = some ⟨2, 4, bd10⟩) (zs : List Int) (r : Row) (rest : Store) (many : Int) (k : Nat) (hm : 0 < many) (hm2 : many < 18446744073709551616) :
    run P (k + 1) 10 [.ref 1, .int many] (SR zs r rest) = .ok (.int (r.val zs many)) (SR zs (r.nx zs many) rest) := by
  rw [run_eq h10]
  obtain ⟨a, b, c⟩ := r
  by_cases hc : 0 < c
  · simp [exs, bd10, EVa, place, List.map_cons, List.map_nil, List.cons_append, List.nil_append, Nat.reduceSub, List.replicate_succ, List.replicate_zero, List.getElem?_cons_zero, List.getElem?_cons_succ, Option.join_some, hc, hm, hm2]
    rw [gcS0 rfl]
    simp [Row.val, Row.nx, hc]
  · by_cases hl : (zs.length : Int) < (a : Int) + 1
    · simp [exs, bd10, EVa, place, List.map_cons, List.map_nil, List.cons_append, List.nil_append, Nat.reduceSub, List.replicate_succ, List.replicate_zero, List.getElem?_cons_zero, List.getElem?_cons_succ, Option.join_some, hc, hm, hm2, hl]
      rw [gcS0 rfl]
      simp [Row.val, Row.nx, hc, hl]
    · have hl2 : a < zs.length := by omega
      have h1 : zs[a]? = some zs[a] := by simp [hl2]
      have h3 : getAt (zs.map .int) (a : Int) = some (.int zs[a]) := getAt_nat (by simp [h1])
      have h4 : zs.getD a 0 = zs[a] := by rw [List.getD_eq_getElem?_getD, h1]; rfl
      by_cases hg : 1000000000000000000 ≤ zs[a]
      · simp [exs, bd10, EVa, place, List.map_cons, List.map_nil, List.cons_append, List.nil_append, Nat.reduceSub, List.replicate_succ, List.replicate_zero, List.getElem?_cons_zero, List.getElem?_cons_succ, Option.join_some, hc, hm, hm2, hl, h3, hg]
        rw [gcS0 rfl]
        simp [Row.val, Row.nx, hc, hl, h4, hg, hl2]
      · simp [exs, bd10, EVa, place, List.map_cons, List.map_nil, List.cons_append, List.nil_append, Nat.reduceSub, List.replicate_succ, List.replicate_zero, List.getElem?_cons_zero, List.getElem?_cons_succ, Option.join_some, hc, hm, hm2, hl, h3, hg]
        rw [gcS0 rfl]
        simp [Row.val, Row.nx, hc, hl, h4, hg, hl2]
/-- one of some things -/
theorem pk (h10 : P.defs.lookup 10 = some ⟨2, 4, bd10⟩) (h11 : P.defs.lookup 11 = some ⟨2, 2, bd11⟩) (zs : List Int) (r : Row) (rest : Store) (j : Nat) (ds : List D) (k : Nat) (hj : rest[j]? = some (.lst ds)) (h0 : 0 < ds.length) (hm2 : ds.length < 1073741824) (hcl : D.cls (rest.length + 2) ds = true) :
    run P (k + 2) 11 [.ref 1, .ref (j + 2)] (SR zs r rest) = .ok (ds.getD (r.val zs ds.length).toNat .non) (SR zs (r.nx zs ds.length) rest) := by
  rw [run_eq h11]
  have e := tk h10 zs r rest ds.length k (by omega) (by omega)
  have h1 := Row.val_lo (zs := zs) (r := r) (m := ds.length) (by omega)
  have h2 := Row.val_hi (zs := zs) (r := r) (m := ds.length) (by omega)
  obtain ⟨n, hn⟩ : ∃ n : Nat, r.val zs ds.length = n := ⟨(r.val zs ds.length).toNat, by omega⟩
  rw [hn] at e h2 ⊢
  have hn2 : n < ds.length := by omega
  have hg : getAt ds (n : Int) = some ds[n] := getAt_nat (by simp [hn2])
  have hd : ds.getD (n : Int).toNat .non = ds[n] := by rw [Int.toNat_natCast, List.getD_eq_getElem?_getD, List.getElem?_eq_getElem hn2]; rfl
  rw [hd]
  simp [exs, bd11, EVa, place, List.map_cons, List.map_nil, List.cons_append, List.nil_append, Nat.reduceSub, List.replicate_succ, List.replicate_zero, List.getElem?_cons_zero, List.getElem?_cons_succ, Option.join_some, hj, e, h1, h2, hg]
  have cl : ∀ (ds : List D) (d : D), D.cls (rest.length + 2) ds = true → d ∈ ds → D.cl (rest.length + 2) d = true := by
    intro ds
    induction ds with
    | nil => intro d _ h; cases h
    | cons x xs ih =>
      intro d h m
      simp only [D.cls, Bool.and_eq_true] at h
      rcases List.mem_cons.mp m with e | m
      · rw [e]; exact h.1
      · exact ih d h.2 m
  exact gcR0 (cl ds _ hcl (List.getElem_mem hn2))
theorem pk_mem {zs : List Int} {r : Row} {ds : List D} (h0 : 0 < ds.length) : ds.getD (r.val zs ds.length).toNat .non ∈ ds := by
  have h1 := Row.val_lo (zs := zs) (r := r) (m := ds.length) (by omega)
  have h2 := Row.val_hi (zs := zs) (r := r) (m := ds.length) (by omega)
  have hn : (r.val zs ds.length).toNat < ds.length := by omega
  rw [List.getD_eq_getElem?_getD, List.getElem?_eq_getElem hn]
  exact List.getElem_mem hn
theorem sg (h10 : P.defs.lookup 10 = some ⟨2, 4, bd10⟩) (h12 : P.defs.lookup 12 = some ⟨2, 2, bd12⟩) (zs : List Int) (r : Row) (rest : Store) (most : Int) (k : Nat) (hm : 0 ≤ most) (hm2 : most < 4611686018427387904) :
    run P (k + 2) 12 [.ref 1, .int most] (SR zs r rest) = .ok (.int (r.val zs (2 * most + 1) - most)) (SR zs (r.nx zs (2 * most + 1)) rest) := by
  rw [run_eq h12]
  have e := tk h10 zs r rest (2 * most + 1) k (by omega) (by omega)
  simp [exs, bd12, EVa, place, List.map_cons, List.map_nil, List.cons_append, List.nil_append, Nat.reduceSub, List.replicate_succ, List.replicate_zero, List.getElem?_cons_zero, List.getElem?_cons_succ, Option.join_some, e]
  exact gcR0 rfl
/-- a comprehension whose turns draw -/
theorem comp_row {G : Ctx} {call : Nat → List D → Store → R D} {own : List Nat} {e : E} {t : T} {i : Iw} {ρ : Env} {st : Store} {zs : List Int} {rest : Store} {r : Row} {w : Wk} (W : Nat → D → Prop) (h : evi G call i ρ st = .ok w (SR zs r rest)) (hw : ∀ r, watOk w.wat (SR zs r rest) = true) (hl : w.its.length ≤ 16777216)
    (hs : ∀ (j : Nat) d, w.its[j]? = some d → ∀ r, ∃ x r' js, W j x ∧ D.cl (rest.length + 2) x = true ∧ stp G call t (forget ρ own) .none e d (SR zs r rest) = .ok (some x) (SR zs r' (rest ++ js))) :
    ∃ xs r', (∀ (j : Nat) x, xs[j]? = some x → W j x) ∧ xs.length = w.its.length ∧ D.cls (rest.length + 2) xs = true ∧ ev G call (.comp own e t i .none) ρ st = .ok (.ref (rest.length + 2)) (SR zs r' (rest ++ [.lst xs])) := by
  rw [ev_comp h]
  obtain ⟨its, wat⟩ := w
  simp only at *
  have key : ∀ (its : List D) (r r0 : Row) (V : Nat → D → Prop), (∀ (j : Nat) d, its[j]? = some d → ∀ r, ∃ x r' js, V j x ∧ D.cl (rest.length + 2) x = true ∧ stp G call t (forget ρ own) .none e d (SR zs r rest) = .ok (some x) (SR zs r' (rest ++ js))) →
      ∃ xs r', (∀ (j : Nat) x, xs[j]? = some x → V j x) ∧ xs.length = its.length ∧ D.cls (rest.length + 2) xs = true ∧ compLoop (stp G call t (forget ρ own) .none e) wat (SR zs r0 rest) true its (SR zs r rest) = .ok xs (SR zs r' rest) := by
    intro its
    induction its with
    | nil => intro r r0 V _; exact ⟨[], r, fun j x h => by simp at h, rfl, rfl, by simp [compLoop, hw r]⟩
    | cons d ds ih =>
      intro r r0 V hv
      obtain ⟨x, r1, js, hx, hc, hs⟩ := hv 0 d rfl r
      obtain ⟨xs, r2, h1, h2, h3, h4⟩ := ih r1 r0 (fun j => V (j + 1)) fun j d hd => hv (j + 1) d (by simpa using hd)
      have hb : cutB true (SR zs r0 rest) (some x) (SR zs r1 (rest ++ js)) = true := by simp [cutB, pfx, O.beq_refl, O.cl, D.cls, D.cl, pfx_app, hc]
      have hct : cutT true (SR zs r0 rest) (SR zs r1 (rest ++ js)) = SR zs r1 rest := by simp [cutT]
      refine ⟨x :: xs, r2, fun j y hy => ?_, by simp [h2], by simp [D.cls, hc, h3], ?_⟩
      · match j, hy with
        | 0, hy => cases hy; exact hx
        | j + 1, hy => exact h1 j y (by simpa using hy)
      · rw [compLoop, hw r, R.grd_true, hs, R.bind_ok, hb, hct, h4, R.bind_ok]
  obtain ⟨xs, r', h1, h2, h3, h4⟩ := key its r r W hs
  refine ⟨xs, r', h1, h2, h3, ?_⟩
  rw [h4, R.bind_ok, newL_ok' (by omega)]
  simp
end
end Nz
namespace Nz
/-! ### the binary coder: tables and walks -/
theorem pfx_of {n : Nat} : ∀ {st s : Store}, (∀ (i : Nat) o, st[i]? = some o → ∃ p, s[i]? = some p ∧ (o = p ∨ O.cl n p = true)) → pfx n st s = true
  | [], _, _ => by simp [pfx]
  | o :: st, [], h => by obtain ⟨p, h, _⟩ := h 0 o rfl; simp at h
  | o :: st, p :: s, h => by
    obtain ⟨q, h1, h2⟩ := h 0 o rfl
    simp at h1
    subst h1
    have ih := pfx_of (n := n) (st := st) (s := s) fun i o ho => h (i + 1) o (by simpa using ho)
    rcases h2 with rfl | h2
    · simp [pfx, O.beq_refl, ih]
    · simp [pfx, h2, ih]
/-- a loop whose turns change nothing -/
theorem forLoop_chk {body : Env → Store → R (Fl × Env)} {t : T} {ρ₀ : Env} {st : Store} {wat : List (Nat × O)} (hw : watOk wat st = true) : ∀ (its : List D), (∀ d ∈ its, ∃ ρ1 ρ2, T.asg t d ρ₀ = some ρ1 ∧ body ρ1 st = .ok (.nx, ρ2) st ∧ mask ρ₀ ρ2 = ρ₀) →
    forLoop body t ρ₀ st wat its ρ₀ st = .ok (.nx, ρ₀) st
  | [], _ => by rw [for_nil, hw, R.grd_true]
  | d :: its, h => by
    obtain ⟨ρ1, ρ2, e1, e2, e3⟩ := h d (List.mem_cons_self ..)
    rw [for_cons, hw, R.grd_true, e1]
    simp only [e2, R.bind_ok, fnx_nx, e3]
    rw [show cutE st ρ₀ st = st from by simp [cutE, cutT_same]]
    exact forLoop_chk hw its fun d hd => h d (List.mem_cons_of_mem _ hd)
structure Sta where
  s : Int
  u : Int
  r : Int
  f : Int
  deriving Inhabited
def Sta.d (x : Sta) : D := .tup [.int x.s, .int x.u, .int x.r, .int x.f]
abbrev tbD (ss : List Sta) : D := .tup (ss.map Sta.d)
structure StaOk (n : Nat) (x : Sta) : Prop where
  s1 : 1 ≤ x.s
  s2 : x.s ≤ 32
  u1 : 0 ≤ x.u
  u2 : x.u < n
  r1 : 0 ≤ x.r
  r2 : x.r < n
  f : x.f = 0 ∨ x.f = 1
structure TbOk (ss : List Sta) : Prop where
  n1 : 1 ≤ ss.length
  n2 : ss.length ≤ 32
  ok : ∀ x ∈ ss, StaOk ss.length x
theorem cl_sta {n : Nat} (x : Sta) : D.cl n x.d = true := by simp [Sta.d]
theorem cls_sta {n : Nat} : ∀ ss : List Sta, D.cls n (ss.map Sta.d) = true
  | [] => rfl
  | x :: ss => by simp [cl_sta, cls_sta ss]
def TbAt (st : Store) (l : Nat) (ss : List Sta) : Prop := st[l]? = some (.ins 1 [(1, tbD ss)])
structure TabP (P : Prog) : Prop where
  h0 : P.defs.lookup 0 = some ⟨1, 1, bd0⟩
  h1 : P.defs.lookup 1 = some ⟨3, 3, bd1⟩
  h2 : P.defs.lookup 2 = some ⟨3, 3, bd2⟩
  h224 : P.defs.lookup 224 = some ⟨2, 2, bd224⟩
  h225 : P.defs.lookup 225 = some ⟨2, 4, bd225⟩
  h226 : P.defs.lookup 226 = some ⟨1, 1, bd226⟩
  h235 : P.defs.lookup 235 = some ⟨1, 1, bd235⟩
  hI : P.G.init[1]? = some (some 225)
  hp : atOf P.G.prop 1 1 = some 226
section
variable {P : Prog} (T : TabP P)
include T
theorem is_state224 (k : Nat) (x : Sta) (n : Nat) (st : Store) (ok : StaOk n x) : run P (k + 3) 224 [x.d, .int n] st = .ok (.bl true) st := by
  obtain ⟨s, u, r, f⟩ := x
  obtain ⟨a1, a2, a3, a4, a5, a6, a7⟩ := ok
  simp only at *
  have f1 : 0 ≤ f := by omega
  have f2 : f ≤ 1 := by omega
  have u3 : u ≤ (n : Int) - 1 := by omega
  have r3 : r ≤ (n : Int) - 1 := by omega
  rw [run_eq T.h224]
  simp [exs, bd224, Sta.d, EVa, place, List.map_cons, List.map_nil, List.cons_append, List.nil_append, Nat.reduceSub, List.replicate_succ, List.replicate_zero, List.getElem?_cons_zero, List.getElem?_cons_succ, Option.join_some, is_list_tup T.h2, is_in_int T.h0 T.h1, a1, a2, a3, a5, f1, f2, u3, r3, ar_fdiv, gc_id]
theorem mk_table (k : Nat) (ss : List Sta) (ok : TbOk ss) (st : Store) : mkR P.G (run P (k + 4)) 1 [tbD ss] st = .ok (.ref st.length) (st ++ [.ins 1 [(1, tbD ss)]]) := by
  have q1 : (1 : Int) ≤ (ss.length : Int) := by have := ok.n1; omega
  have q2 : (ss.length : Int) ≤ 32 := by have := ok.n2; omega
  have e : run P (k + 4) 225 [.ref st.length, tbD ss] (st ++ [.ins 1 []]) = .ok .non (st ++ [.ins 1 [(1, tbD ss)]]) := by
    rw [run_eq T.h225]
    simp only [List.length_cons, List.length_nil, List.map_cons, List.map_nil, List.cons_append, List.nil_append, Nat.reduceSub, List.replicate_succ, List.replicate_zero, Nat.reduceAdd, beq_self_eq_true, R.grd_true]
    unfold bd225
    rw [exs_one]
    simp [EVa, place, List.map_cons, List.map_nil, List.cons_append, List.nil_append, Nat.reduceSub, List.replicate_succ, List.replicate_zero, List.getElem?_cons_zero, List.getElem?_cons_succ, Option.join_some, is_list_tup T.h2, q1, q2]
    rw [exs_one, ex_forB]
    simp [EVa, place, List.map_cons, List.map_nil, List.cons_append, List.nil_append, Nat.reduceSub, List.replicate_succ, List.replicate_zero, List.getElem?_cons_zero, List.getElem?_cons_succ, Option.join_some, wkEnum_tup]
    rw [forLoop_chk rfl _ fun d hd => by
      obtain ⟨j, hj⟩ := List.mem_iff_getElem?.mp hd
      obtain ⟨e, he, rfl⟩ := num_get hj
      rw [List.getElem?_map] at he
      obtain ⟨s, hs, rfl⟩ := Option.map_eq_some_iff.mp he
      have c := is_state224 T k s ss.length (st ++ [.ins 1 []]) (ok.ok s (List.mem_of_getElem? hs))
      exact ⟨_, [some (.ref st.length), some (tbD ss), some (.int ((0 + j : Nat) : Int)), some s.d], asg_two _ _ _ _ _, by simp [exs, EVa, place, List.map_cons, List.map_nil, List.cons_append, List.nil_append, Nat.reduceSub, List.replicate_succ, List.replicate_zero, List.getElem?_cons_zero, List.getElem?_cons_succ, Option.join_some, c], rfl⟩]
    have sf : setField (.ref st.length) 1 (tbD ss) (st ++ [.ins 1 []]) = .ok .non (st ++ [.ins 1 [(1, tbD ss)]]) := by
      simp [setField, putF]
    simp [exs, EVa, place, List.map_cons, List.map_nil, List.cons_append, List.nil_append, Nat.reduceSub, List.replicate_succ, List.replicate_zero, List.getElem?_cons_zero, List.getElem?_cons_succ, Option.join_some, nxt_nx, sf]
    rw [gc_ret (pfx_of fun i o ho => by
      by_cases hi : i < st.length
      · rw [List.getElem?_append_left hi] at ho ⊢
        exact ⟨o, ho, .inl rfl⟩
      · have hi2 : i = st.length := by have := (List.getElem?_eq_some_iff.mp ho).1; simp at this; omega
        subst hi2
        refine ⟨.ins 1 [(1, tbD ss)], by simp, .inr (by simp [O.cl, cls_sta])⟩) rfl]
    rw [List.take_of_length_le (by simp)]
  simp only [mkR, T.hI, e, R.bind_ok]
theorem states226 (k : Nat) {st : Store} {l : Nat} {ss : List Sta} (h : TbAt st l ss) : propR P.G (run P (k + 1)) 1 (.ref l) st = .ok (tbD ss) st := by
  unfold TbAt at h
  simp only [propR, methF, clsOf, h, T.hp]
  rw [run_eq T.h226]
  have f := field_ins (f := 1) h (d := tbD ss) rfl
  simp [exs, bd226, EVa, place, List.map_cons, List.map_nil, List.cons_append, List.nil_append, Nat.reduceSub, List.replicate_succ, List.replicate_zero, List.getElem?_cons_zero, List.getElem?_cons_succ, Option.join_some, f]
  exact gc_id (by simp [cls_sta])
theorem need_table235 (k : Nat) {st : Store} {l : Nat} {ss : List Sta} (h : TbAt st l ss) : run P (k + 1) 235 [.ref l] st = .ok .non st := by
  unfold TbAt at h
  rw [run_eq T.h235]
  have t := isTy_ins (k := .cls 1) h
  simp [exs, bd235, EVa, place, List.map_cons, List.map_nil, List.cons_append, List.nil_append, Nat.reduceSub, List.replicate_succ, List.replicate_zero, List.getElem?_cons_zero, List.getElem?_cons_succ, Option.join_some, isAny, t, gc_id]
end
/-! ### walks -/
/-- contexts' places, the interval -/
structure WS where
  kv : List (D × D)
  low : Int
  w : Int
  n : Nat
def plc (kv : List (D × D)) (c : Int) : Int × Int := match dGet kv (.int c) with
  | some (.tup [.int s, .int b]) => (s, b)
  | _ => (0, 0)
def plD (p : Int × Int) : D := .tup [.int p.1, .int p.2]
/-- the places have the form of places -/
def KvOk (m : Nat) (kv : List (D × D)) : Prop := ∀ c d, dGet kv (.int c) = some d → ∃ s b, d = plD (s, b) ∧ 0 ≤ s ∧ s < m ∧ (b = 0 ∨ b = 1)
theorem plc_get {m : Nat} {kv : List (D × D)} (h : KvOk m kv) (c : Int) : (dGet kv (.int c)).getD (plD (0, 0)) = plD (plc kv c) := by
  unfold plc
  cases e : dGet kv (.int c) with
  | none => rfl
  | some d => obtain ⟨s, b, rfl, _⟩ := h c d e; rfl
theorem plc_ok {m : Nat} {kv : List (D × D)} (hm : 0 < m) (h : KvOk m kv) (c : Int) : 0 ≤ (plc kv c).1 ∧ (plc kv c).1 < m ∧ ((plc kv c).2 = 0 ∨ (plc kv c).2 = 1) := by
  unfold plc
  cases e : dGet kv (.int c) with
  | none => exact ⟨by simp, by simp; omega, .inl rfl⟩
  | some d => obtain ⟨s, b, rfl, h1, h2, h3⟩ := h c d e; exact ⟨h1, h2, h3⟩
theorem dGet_put {kv : List (D × D)} {k j v : D} : dGet (dPut kv k v) j = if j = k then some v else dGet kv j := by
  unfold dPut
  split
  · rename_i h
    induction kv with
    | nil => simp at h
    | cons p kv ih =>
      obtain ⟨x, y⟩ := p
      by_cases c : x = k
      · subst c
        by_cases d : j = x
        · subst d; simp [dGet]
        · have d' : ¬ x = j := fun e => d e.symm
          rw [if_neg d]
          simp only [List.map_cons, if_true]
          unfold dGet
          rw [List.find?_cons_of_neg (by simp [d']), List.find?_cons_of_neg (by simp [d'])]
          by_cases h2 : (kv.any fun p => decide (p.1 = x)) = true
          · have := ih h2
            rw [if_neg d] at this
            exact this
          · have e : kv.map (fun p => if p.1 = x then (p.1, v) else p) = kv := by
              conv => rhs; rw [← List.map_id kv]
              refine List.map_congr_left fun p hp => ?_
              have : ¬ p.1 = x := fun e => h2 (List.any_eq_true.mpr ⟨p, hp, by simp [e]⟩)
              simp [this]
            rw [e]
      · have h2 : (kv.any fun p => decide (p.1 = k)) = true := by simpa [c] using h
        have := ih h2
        simp only [List.map_cons, if_neg c]
        by_cases d : x = j
        · subst d
          rw [if_neg c]
          simp [dGet]
        · unfold dGet at this ⊢
          rw [List.find?_cons_of_neg (by simp [d]), List.find?_cons_of_neg (by simp [d])]
          exact this
  · rename_i h
    have hn : ∀ p ∈ kv, ¬ p.1 = k := fun p hp e => h (List.any_eq_true.mpr ⟨p, hp, by simp [e]⟩)
    unfold dGet
    rw [List.find?_append]
    by_cases d : j = k
    · subst d
      rw [if_pos rfl, List.find?_eq_none.mpr (by intro p hp; simpa using hn p hp)]
      simp
    · rw [if_neg d]
      have d' : ¬ k = j := fun e => d e.symm
      simp [d']
theorem dPut_len {kv : List (D × D)} {k v : D} : (dPut kv k v).length ≤ kv.length + 1 := by
  unfold dPut; split <;> simp
theorem KvOk.put {m : Nat} {kv : List (D × D)} (h : KvOk m kv) {c s b : Int} (h1 : 0 ≤ s) (h2 : s < m) (h3 : b = 0 ∨ b = 1) : KvOk m (dPut kv (.int c) (plD (s, b))) := by
  intro c' d hd
  rw [dGet_put] at hd
  split at hd
  · cases hd; exact ⟨s, b, rfl, h1, h2, h3⟩
  · exact h c' d hd
theorem plc_put {kv : List (D × D)} {c c' s b : Int} : plc (dPut kv (.int c) (plD (s, b))) c' = if c' = c then (s, b) else plc kv c' := by
  unfold plc
  rw [dGet_put]
  by_cases e : c' = c
  · subst e; simp [plD]
  · simp [e]
def stt (ss : List Sta) (i : Int) : Sta := ss.getD i.toNat ⟨1, 0, 0, 0⟩
theorem stt_get {ss : List Sta} {i : Int} (h0 : 0 ≤ i) (h1 : i < ss.length) : getAt (ss.map Sta.d) i = some (stt ss i).d := by
  have h : i.toNat < ss.length := by omega
  refine getAt_int h0 ?_
  rw [List.getElem?_map, List.getElem?_eq_getElem h]
  unfold stt
  rw [List.getD_eq_getElem?_getD, List.getElem?_eq_getElem h]
  rfl
theorem stt_ok {ss : List Sta} (T : TbOk ss) {i : Int} (h0 : 0 ≤ i) (h1 : i < ss.length) : StaOk ss.length (stt ss i) := by
  have h : i.toNat < ss.length := by omega
  refine T.ok _ ?_
  unfold stt
  rw [List.getD_eq_getElem?_getD, List.getElem?_eq_getElem h]
  exact List.getElem_mem h
/-- how often a width is doubled -/
def gr : Nat → Int → Nat
  | 0, _ => 0
  | f + 1, w => if w < 32768 then gr f (2 * w) + 1 else 0
def WS.first (ss : List Sta) (x : WS) (c : Int) : Int := x.w - x.w * (stt ss (plc x.kv c).1).s / 64
def WS.narrow (ss : List Sta) (x : WS) (bit c : Int) : WS :=
  if bit = (plc x.kv c).2 then ⟨dPut x.kv (.int c) (plD ((stt ss (plc x.kv c).1).u, (plc x.kv c).2)), x.low, x.first ss c, x.n⟩
  else ⟨dPut x.kv (.int c) (plD ((stt ss (plc x.kv c).1).r, if (stt ss (plc x.kv c).1).f = 1 then 1 - (plc x.kv c).2 else (plc x.kv c).2)), x.low + x.first ss c, x.w - x.first ss c, x.n⟩
def WS.grow (x : WS) : WS := ⟨x.kv, x.low * 2 ^ gr 16 x.w, x.w * 2 ^ gr 16 x.w, x.n + gr 16 x.w⟩
def WS.step (ss : List Sta) (x : WS) (bit c : Int) : WS := (x.narrow ss bit c).grow
structure WS.Ok (ss : List Sta) (x : WS) : Prop where
  kv : KvOk ss.length x.kv
  w1 : 32768 ≤ x.w
  w2 : x.w ≤ 65536
theorem WS.Ok.plc {ss : List Sta} {x : WS} (T : TbOk ss) (h : x.Ok ss) (c : Int) : 0 ≤ (plc x.kv c).1 ∧ (plc x.kv c).1 < ss.length ∧ ((plc x.kv c).2 = 0 ∨ (plc x.kv c).2 = 1) := plc_ok (by have := T.n1; omega) h.kv c
theorem WS.first_rng {ss : List Sta} {x : WS} (T : TbOk ss) (h : x.Ok ss) (c : Int) : 512 ≤ x.first ss c ∧ x.first ss c + 512 ≤ x.w := by
  obtain ⟨p1, p2, _⟩ := h.plc T c
  have ok := stt_ok T p1 p2
  have a1 := ok.s1
  have a2 := ok.s2
  unfold WS.first
  generalize (stt ss (Nz.plc x.kv c).1).s = s at a1 a2 ⊢
  have b1 : x.w * 1 ≤ x.w * s := Int.mul_le_mul_of_nonneg_left a1 (by have := h.w1; omega)
  have b2 : x.w * s ≤ x.w * 32 := Int.mul_le_mul_of_nonneg_left a2 (by have := h.w1; omega)
  have := h.w1
  have := h.w2
  generalize x.w * s = y at *
  omega
theorem gr_up : ∀ (f : Nat) {w : Int}, w ≤ 65536 → w * 2 ^ gr f w ≤ 65536
  | 0, w, h => by simpa [gr] using h
  | f + 1, w, h => by
    unfold gr
    split
    · have := gr_up f (w := 2 * w) (by omega)
      rw [Int.pow_succ, Int.mul_comm _ 2, ← Int.mul_assoc, Int.mul_comm w 2]
      exact this
    · simpa using h
theorem gr_lo : ∀ (f : Nat) {w : Int}, 32768 ≤ w * 2 ^ f → 32768 ≤ w * 2 ^ gr f w
  | 0, w, h => by simpa [gr] using h
  | f + 1, w, h => by
    unfold gr
    split
    · have := gr_lo f (w := 2 * w) (by rw [Int.pow_succ, Int.mul_comm _ 2, ← Int.mul_assoc, Int.mul_comm w 2] at h; exact h)
      rw [Int.pow_succ, Int.mul_comm _ 2, ← Int.mul_assoc, Int.mul_comm w 2]
      exact this
    · simp; omega
theorem gr_fix : ∀ (f : Nat) {w : Int}, 32768 ≤ w → gr f w = 0
  | 0, _, _ => rfl
  | f + 1, w, h => by
    unfold gr
    rw [if_neg (by omega)]
theorem WS.narrow_w {ss : List Sta} {x : WS} (T : TbOk ss) (h : x.Ok ss) (bit c : Int) : 512 ≤ (x.narrow ss bit c).w ∧ (x.narrow ss bit c).w ≤ 65536 := by
  obtain ⟨a, b⟩ := WS.first_rng T h c
  have := h.w2
  unfold WS.narrow
  split <;> simp only <;> omega
theorem WS.step_ok {ss : List Sta} {x : WS} (T : TbOk ss) (h : x.Ok ss) (bit c : Int) : (x.step ss bit c).Ok ss := by
  obtain ⟨a, b⟩ := WS.narrow_w T h bit c
  obtain ⟨p1, p2, p3⟩ := h.plc T c
  have ok := stt_ok T p1 p2
  refine ⟨?_, gr_lo 16 (by omega), gr_up 16 b⟩
  unfold WS.step WS.narrow WS.grow
  split
  · exact h.kv.put ok.u1 ok.u2 p3
  · exact h.kv.put ok.r1 ok.r2 (by split <;> omega)
theorem WS.step_len {ss : List Sta} {x : WS} {bit c : Int} : (x.step ss bit c).kv.length ≤ x.kv.length + 1 := by
  unfold WS.step WS.narrow WS.grow
  split <;> exact dPut_len
end Nz
namespace Nz
/-! ### the binary coder: the program's walk -/
def wkO (tb pl : Nat) (x : WS) : O := .ins 2 [(3, .ref tb), (4, .ref pl), (5, .int x.low), (6, .int x.w), (7, .int (x.n : Nat))]
structure WkAt (st : Store) (l tb pl : Nat) (ss : List Sta) (x : WS) : Prop where
  w : st[l]? = some (wkO tb pl x)
  p : st[pl]? = some (.dct false x.kv)
  t : TbAt st tb ss
def wset (st : Store) (l tb pl : Nat) (x : WS) : Store := (st.set l (wkO tb pl x)).set pl (.dct false x.kv)
section
variable {st : Store} {l tb pl : Nat} {ss : List Sta} {x y : WS}
theorem WkAt.ne1 (h : WkAt st l tb pl ss x) : l ≠ pl := fun e => by
  have a := h.w; rw [e, h.p] at a; cases a
theorem WkAt.ne2 (h : WkAt st l tb pl ss x) : l ≠ tb := fun e => by
  have a := h.w; rw [e, h.t] at a; simp [wkO] at a
theorem WkAt.ne3 (h : WkAt st l tb pl ss x) : tb ≠ pl := fun e => by
  have a := h.p; rw [← e, h.t] at a; cases a
theorem WkAt.ll (h : WkAt st l tb pl ss x) : l < st.length := (List.getElem?_eq_some_iff.mp h.w).1
theorem WkAt.lp (h : WkAt st l tb pl ss x) : pl < st.length := (List.getElem?_eq_some_iff.mp h.p).1
theorem WkAt.lt (h : WkAt st l tb pl ss x) : tb < st.length := (List.getElem?_eq_some_iff.mp h.t).1
theorem WkAt.wset (h : WkAt st l tb pl ss x) : WkAt (wset st l tb pl y) l tb pl ss y := by
  have n1 := h.ne1
  have n2 := h.ne2
  have n3 := h.ne3
  refine ⟨?_, ?_, ?_⟩
  · unfold Nz.wset
    rw [List.getElem?_set_ne (Ne.symm n1), List.getElem?_set_self h.ll]
  · unfold Nz.wset
    rw [List.getElem?_set_self (by simpa using h.lp)]
  · unfold Nz.wset TbAt
    rw [List.getElem?_set_ne (Ne.symm n3), List.getElem?_set_ne n2]
    exact h.t
theorem wset_len : (wset st l tb pl y).length = st.length := by simp [wset]
theorem set_same {i : Nat} {o : O} (h : st[i]? = some o) : st.set i o = st := by
  obtain ⟨h1, h2⟩ := List.getElem?_eq_some_iff.mp h
  rw [← h2]; exact List.set_getElem_self h1
theorem WkAt.same (h : WkAt st l tb pl ss x) : Nz.wset st l tb pl x = st := by
  unfold Nz.wset
  rw [set_same h.w, set_same h.p]
theorem wset_wset {z : WS} (h : l ≠ pl) : wset (wset st l tb pl y) l tb pl z = wset st l tb pl z := by
  unfold wset
  rw [List.set_comm _ _ (Ne.symm h), List.set_set, List.set_set]
theorem WkAt.f3 (h : WkAt st l tb pl ss x) : field (.ref l) 3 st = .ok (.ref tb) st := field_ins h.w rfl
theorem WkAt.f4 (h : WkAt st l tb pl ss x) : field (.ref l) 4 st = .ok (.ref pl) st := field_ins h.w rfl
theorem WkAt.f5 (h : WkAt st l tb pl ss x) : field (.ref l) 5 st = .ok (.int x.low) st := field_ins h.w rfl
theorem WkAt.f6 (h : WkAt st l tb pl ss x) : field (.ref l) 6 st = .ok (.int x.w) st := field_ins h.w rfl
theorem WkAt.f7 (h : WkAt st l tb pl ss x) : field (.ref l) 7 st = .ok (.int (x.n : Nat)) st := field_ins h.w rfl
theorem WkAt.cls (h : WkAt st l tb pl ss x) : clsOf (.ref l) st = some 2 := by simp [clsOf, h.w, wkO]
/-- what a field's store does -/
theorem WkAt.s5 (h : WkAt st l tb pl ss x) (i : Int) : setField (.ref l) 5 (.int i) st = .ok .non (Nz.wset st l tb pl ⟨x.kv, i, x.w, x.n⟩) := by
  simp only [setField, h.w, wkO, List.length_cons, List.length_nil, R.grd]
  unfold Nz.wset
  rw [set_same (o := .dct false x.kv) (by rw [List.getElem?_set_ne h.ne1]; exact h.p)]
  rfl
theorem WkAt.s6 (h : WkAt st l tb pl ss x) (i : Int) : setField (.ref l) 6 (.int i) st = .ok .non (Nz.wset st l tb pl ⟨x.kv, x.low, i, x.n⟩) := by
  simp only [setField, h.w, wkO, List.length_cons, List.length_nil, R.grd]
  unfold Nz.wset
  rw [set_same (o := .dct false x.kv) (by rw [List.getElem?_set_ne h.ne1]; exact h.p)]
  rfl
theorem WkAt.s7 (h : WkAt st l tb pl ss x) (i : Nat) : setField (.ref l) 7 (.int (i : Nat)) st = .ok .non (Nz.wset st l tb pl ⟨x.kv, x.low, x.w, i⟩) := by
  simp only [setField, h.w, wkO, List.length_cons, List.length_nil, R.grd]
  unfold Nz.wset
  rw [set_same (o := .dct false x.kv) (by rw [List.getElem?_set_ne h.ne1]; exact h.p)]
  rfl
theorem WkAt.sp (h : WkAt st l tb pl ss x) (hl : x.kv.length < 16777216) (c : Int) (d : D) : setAt (.ref pl) (.int c) d st = .ok .non (Nz.wset st l tb pl ⟨dPut x.kv (.int c) d, x.low, x.w, x.n⟩) := by
  rw [setAt_dct h.p rfl hl]
  unfold Nz.wset
  rw [set_same (o := wkO tb pl ⟨dPut x.kv (.int c) d, x.low, x.w, x.n⟩) h.w]
theorem cl_kv {m : Nat} : ∀ {kv : List (D × D)}, (∀ p ∈ kv, ∃ c s b : Int, p = (.int c, plD (s, b))) → D.cls m (kv.map (·.1)) = true ∧ D.cls m (kv.map (·.2)) = true
  | [], _ => ⟨rfl, rfl⟩
  | p :: kv, h => by
    obtain ⟨a, b⟩ := cl_kv (m := m) fun q hq => h q (List.mem_cons_of_mem _ hq)
    obtain ⟨c, s, t, rfl⟩ := h p (List.mem_cons_self ..)
    simp [a, b, plD]
end
/-- all pairs have the form of places -/
def KvF (kv : List (D × D)) : Prop := ∀ p ∈ kv, ∃ c s b : Int, p = (.int c, plD (s, b))
theorem KvF.put {kv : List (D × D)} (h : KvF kv) (c s b : Int) : KvF (dPut kv (.int c) (plD (s, b))) := fun p hp => by
  unfold dPut at hp
  split at hp
  · obtain ⟨q, hq, e⟩ := List.mem_map.mp hp
    split at e
    · rename_i hk
      exact ⟨c, s, b, by rw [← e, hk]⟩
    · rw [← e]; exact h q hq
  · rcases List.mem_append.mp hp with hp | hp
    · exact h p hp
    · rw [List.mem_singleton.mp hp]; exact ⟨c, s, b, rfl⟩
theorem WS.step_f {ss : List Sta} {x : WS} (h : KvF x.kv) (bit c : Int) : KvF (x.step ss bit c).kv := by
  unfold WS.step WS.narrow WS.grow
  split <;> exact h.put _ _ _
structure WalP (P : Prog) : Prop where
  T : TabP P
  h236 : P.defs.lookup 236 = some ⟨2, 2, bd236⟩
  h237 : P.defs.lookup 237 = some ⟨1, 1, bd237⟩
  h238 : P.defs.lookup 238 = some ⟨2, 2, bd238⟩
  h239 : P.defs.lookup 239 = some ⟨2, 2, bd239⟩
  h240 : P.defs.lookup 240 = some ⟨3, 8, bd240⟩
  h241 : P.defs.lookup 241 = some ⟨1, 1, bd241⟩
  hI : P.G.init[2]? = some (some 236)
  m1 : atOf P.G.meth 1 2 = some 237
  m2 : atOf P.G.meth 2 2 = some 238
  m3 : atOf P.G.meth 3 2 = some 239
  m4 : atOf P.G.meth 4 2 = some 240
  m5 : atOf P.G.meth 5 2 = some 241
section
variable {P : Prog} (W : WalP P)
include W
theorem place238 (k : Nat) {st : Store} {l tb pl : Nat} {ss : List Sta} {x : WS} (h : WkAt st l tb pl ss x) (ok : KvOk ss.length x.kv) (c : Int) : run P (k + 1) 238 [.ref l, .int c] st = .ok (plD (plc x.kv c)) st := by
  rw [run_eq W.h238]
  have g := plc_get ok c
  have d : dGet2 (.ref pl) (.int c) (.tup [.int 0, .int 0]) st = .ok (plD (plc x.kv c)) st := by
    rw [dget_dct h.p rfl]
    rw [← g]; rfl
  simp [exs, bd238, EVa, place, List.map_cons, List.map_nil, List.cons_append, List.nil_append, Nat.reduceSub, List.replicate_succ, List.replicate_zero, List.getElem?_cons_zero, List.getElem?_cons_succ, Option.join_some, h.f4, dctOf_dct h.p, d]
  exact gc_id (by simp [plD])
theorem meth2 (k : Nat) {st : Store} {l tb pl : Nat} {ss : List Sta} {x : WS} (h : WkAt st l tb pl ss x) : methF P.G.meth 2 (.ref l) st = some 238 := by simp [methF, h.cls, W.m2]
theorem meth3 (k : Nat) {st : Store} {l tb pl : Nat} {ss : List Sta} {x : WS} (h : WkAt st l tb pl ss x) : methF P.G.meth 3 (.ref l) st = some 239 := by simp [methF, h.cls, W.m3]
theorem meth4 (k : Nat) {st : Store} {l tb pl : Nat} {ss : List Sta} {x : WS} (h : WkAt st l tb pl ss x) : methF P.G.meth 4 (.ref l) st = some 240 := by simp [methF, h.cls, W.m4]
theorem meth5 (k : Nat) {st : Store} {l tb pl : Nat} {ss : List Sta} {x : WS} (h : WkAt st l tb pl ss x) : methF P.G.meth 5 (.ref l) st = some 241 := by simp [methF, h.cls, W.m5]
theorem meth1 (k : Nat) {st : Store} {l tb pl : Nat} {ss : List Sta} {x : WS} (h : WkAt st l tb pl ss x) : methF P.G.meth 1 (.ref l) st = some 237 := by simp [methF, h.cls, W.m1]
theorem part239 (k : Nat) {st : Store} {l tb pl : Nat} {ss : List Sta} {x : WS} (h : WkAt st l tb pl ss x) (tk : TbOk ss) (ok : x.Ok ss) (c : Int) : run P (k + 2) 239 [.ref l, .int c] st = .ok (.int (x.first ss c)) st := by
  rw [run_eq W.h239]
  obtain ⟨p1, p2, _⟩ := ok.plc tk c
  have g := stt_get p1 p2
  have e1 := place238 W k h ok.kv c
  have e2 := states226 W.T k h.t
  have m := meth2 W k h
  have i0 : getAt [D.int (plc x.kv c).fst, D.int (plc x.kv c).snd] 0 = some (.int (plc x.kv c).fst) := getAt_0
  have mo : mulOk x.w (stt ss (plc x.kv c).1).s = true := mulOk_l (by have := ok.w1; omega) (by have := ok.w2; omega)
  simp only [plD] at e1
  simp [exs, bd239, EVa, place, List.map_cons, List.map_nil, List.cons_append, List.nil_append, Nat.reduceSub, List.replicate_succ, List.replicate_zero, List.getElem?_cons_zero, List.getElem?_cons_succ, Option.join_some, h.f3, h.f6, e1, e2, m, g, Sta.d, mo, ar_fdiv]
  rw [gc_id rfl]; rfl
theorem size241 (k : Nat) {st : Store} {l tb pl : Nat} {ss : List Sta} {x : WS} (h : WkAt st l tb pl ss x) (hn : x.n ≤ 100000) : run P (k + 1) 241 [.ref l] st = .ok (.int (65536 * 2 ^ x.n)) st := by
  rw [run_eq W.h241]
  have a : arith .shl 65536 (x.n : Int) = some (65536 * 2 ^ x.n) := by
    have e : Nat.log2 (65536 : Int).natAbs = 16 := by decide
    rw [ar_shl (by omega) (by omega) (by rw [e, Int.toNat_natCast]; omega), Int.toNat_natCast]
  simp [exs, bd241, EVa, place, List.map_cons, List.map_nil, List.cons_append, List.nil_append, Nat.reduceSub, List.replicate_succ, List.replicate_zero, List.getElem?_cons_zero, List.getElem?_cons_succ, Option.join_some, h.f7, a, gc_id]
end
end Nz
namespace Nz
/-- a record's end: the walk and its dict changed, nothing new -/
theorem gc_wset {st : Store} {l tb pl : Nat} {ss : List Sta} {x y : WS} {d : D} (js : Store) (h : WkAt st l tb pl ss x) (hf : KvF y.kv) (hd : D.cl st.length d = true) : gc st (.ok d (wset st l tb pl y ++ js)) = .ok d (wset st l tb pl y) := by
  have n1 := h.ne1
  have hl := h.ll
  have hp := h.lp
  have ht := h.lt
  rw [gc_ret (pfx_of fun i o ho => by
    have hi := (List.getElem?_eq_some_iff.mp ho).1
    rw [List.getElem?_append_left (by rw [wset_len]; exact hi)]
    unfold wset
    by_cases c : i = pl
    · subst c
      rw [List.getElem?_set_self (by simpa using hi)]
      obtain ⟨a, b⟩ := cl_kv (m := st.length) hf
      exact ⟨_, rfl, .inr (by simp only [O.cl, a, b, Bool.and_self])⟩
    · rw [List.getElem?_set_ne (Ne.symm c)]
      by_cases c2 : i = l
      · subst c2
        rw [List.getElem?_set_self hi]
        exact ⟨_, rfl, .inr (by simp [wkO, O.cl, ht, hp])⟩
      · rw [List.getElem?_set_ne (Ne.symm c2)]
        exact ⟨o, ho, .inl rfl⟩) hd]
  rw [List.take_left' wset_len]
theorem gc_wset0 {st : Store} {l tb pl : Nat} {ss : List Sta} {x y : WS} {d : D} (h : WkAt st l tb pl ss x) (hf : KvF y.kv) (hd : D.cl st.length d = true) : gc st (.ok d (wset st l tb pl y)) = .ok d (wset st l tb pl y) := by
  have := gc_wset (y := y) (d := d) [] h hf hd
  simpa using this
theorem cutE_wset {st : Store} {l tb pl : Nat} {ss : List Sta} {x y : WS} {ρ : Env} (h : WkAt st l tb pl ss x) : cutE st ρ (wset st l tb pl y) = wset st l tb pl y := by
  unfold cutE cutT
  split
  · rw [List.take_of_length_le (by rw [wset_len]; exact Nat.le_refl _)]
  · rfl
def bdStepLoop : Ss := match bd240 with
  | .cons _ (.cons _ (.cons _ (.cons _ (.cons _ (.cons (.whl _ b) _))))) => b
  | _ => .nil
theorem cutE_len {st s : Store} {ρ : Env} (h : s.length ≤ st.length) : cutE st ρ s = s := by
  unfold cutE cutT
  split
  · rw [List.take_of_length_le h]
  · rfl
section
variable {G : Ctx} {call : Nat → List D → Store → R D}
theorem grow_turn {st : Store} {l tb pl : Nat} {ss : List Sta} {x0 y : WS} (h : WkAt st l tb pl ss x0) (a b c d e f : Option D) (g : Int) :
    exs G call bdStepLoop [some (.ref l), a, b, c, d, e, f, some (.int g)] (wset st l tb pl y) = .ok (.nx, [some (.ref l), a, b, c, d, e, f, some (.int (g + 1))]) (wset st l tb pl ⟨y.kv, y.low * 2, y.w * 2, y.n⟩) := by
  have n1 := h.ne1
  have h1 : WkAt (wset st l tb pl y) l tb pl ss y := h.wset
  have s5 := h1.s5 (y.low * 2)
  rw [wset_wset n1] at s5
  have h2 : WkAt (wset st l tb pl ⟨y.kv, y.low * 2, y.w, y.n⟩) l tb pl ss ⟨y.kv, y.low * 2, y.w, y.n⟩ := h.wset
  have s6 := h2.s6 (y.w * 2)
  rw [wset_wset n1] at s6
  have f6 := h2.f6
  have m1 : mulOk y.low 2 = true := mulOk_r (by omega) (by omega)
  have m2 : mulOk y.w 2 = true := mulOk_r (by omega) (by omega)
  simp only at s6 f6
  simp [exs, bdStepLoop, bd240, EVa, place, List.map_cons, List.map_nil, List.cons_append, List.nil_append, Nat.reduceSub, List.replicate_succ, List.replicate_zero, List.getElem?_cons_zero, List.getElem?_cons_succ, Option.join_some, h1.f5, m1, s5, f6, m2, s6]
theorem grow_loop {st : Store} {l tb pl : Nat} {ss : List Sta} {x0 : WS} (h : WkAt st l tb pl ss x0) (a b c d e f : D) (ρ₀ : Env) (σ : Store) (hρ : ρ₀ = [some (.ref l), some a, some b, some c, some d, some e, some f, some (.int 0)]) (hσ : σ.length = st.length) : ∀ (fu m : Nat) (y : WS) (g : Int), fu ≤ m → 32768 ≤ y.w * 2 ^ fu →
    whlLoop (evC G call (.val (.cmp .lt (.fld (.var 0) 6) (.con (.int 32768))))) (exs G call bdStepLoop) ρ₀ σ (m + 1) [some (.ref l), some a, some b, some c, some d, some e, some f, some (.int g)] (wset st l tb pl y) =
      .ok (.nx, [some (.ref l), some a, some b, some c, some d, some e, some f, some (.int (g + (gr fu y.w : Nat)))]) (wset st l tb pl ⟨y.kv, y.low * 2 ^ gr fu y.w, y.w * 2 ^ gr fu y.w, y.n⟩) := by
  intro fu
  induction fu with
  | zero =>
    intro m y g hm hw
    have h1 : WkAt (wset st l tb pl y) l tb pl ss y := h.wset
    have hw : 32768 ≤ y.w := by simpa using hw
    rw [whl_false (s := wset st l tb pl y)]
    · simp [gr]
    · simp [EVa, place, List.map_cons, List.map_nil, List.cons_append, List.nil_append, Nat.reduceSub, List.replicate_succ, List.replicate_zero, List.getElem?_cons_zero, List.getElem?_cons_succ, Option.join_some, h1.f6]; omega
  | succ fu ih =>
    intro m y g hm hw
    have h1 : WkAt (wset st l tb pl y) l tb pl ss y := h.wset
    by_cases c1 : y.w < 32768
    · obtain ⟨m', rfl⟩ : ∃ m', m = m' + 1 := ⟨m - 1, by omega⟩
      rw [whl_true (s := wset st l tb pl y) (by simp [EVa, place, List.map_cons, List.map_nil, List.cons_append, List.nil_append, Nat.reduceSub, List.replicate_succ, List.replicate_zero, List.getElem?_cons_zero, List.getElem?_cons_succ, Option.join_some, h1.f6, c1]) (grow_turn h _ _ _ _ _ _ _), cutE_len (by rw [wset_len, hσ]; exact Nat.le_refl _)]
      have e1 : mask ρ₀ [some (.ref l), some a, some b, some c, some d, some e, some f, some (.int (g + 1))] = [some (.ref l), some a, some b, some c, some d, some e, some f, some (.int (g + 1))] := by rw [hρ]; rfl
      rw [e1, ih m' ⟨y.kv, y.low * 2, y.w * 2, y.n⟩ (g + 1) (by omega) (by
        rw [Int.pow_succ, Int.mul_comm _ 2, ← Int.mul_assoc] at hw; exact hw)]
      have e2 : gr (fu + 1) y.w = gr fu (y.w * 2) + 1 := by
        rw [gr, if_pos c1, Int.mul_comm]
      have e3 : g + 1 + ((gr fu (y.w * 2) : Nat) : Int) = g + ((gr fu (y.w * 2) + 1 : Nat) : Int) := by omega
      have e4 : ∀ z : Int, z * 2 * 2 ^ gr fu (y.w * 2) = z * 2 ^ (gr fu (y.w * 2) + 1) := fun z => by rw [Int.pow_succ, Int.mul_assoc, Int.mul_comm 2]
      rw [e2]
      simp only [e3, e4]
    · rw [whl_false (s := wset st l tb pl y)]
      · rw [gr, if_neg c1]; simp
      · simp [EVa, place, List.map_cons, List.map_nil, List.cons_append, List.nil_append, Nat.reduceSub, List.replicate_succ, List.replicate_zero, List.getElem?_cons_zero, List.getElem?_cons_succ, Option.join_some, h1.f6]; omega
end
end Nz
namespace Nz
theorem WS.narrow_f {ss : List Sta} {x : WS} (h : KvF x.kv) (bit c : Int) : KvF (x.narrow ss bit c).kv := by
  unfold WS.narrow
  split <;> exact h.put _ _ _
section
variable {P : Prog} (W : WalP P)
include W
theorem step240 (k : Nat) {st : Store} {l tb pl : Nat} {ss : List Sta} {x : WS} (h : WkAt st l tb pl ss x) (tk : TbOk ss) (ok : x.Ok ss) (hf : KvF x.kv) (hz : x.kv.length < 16777216) (bit c : Int) :
    run P (k + 3) 240 [.ref l, .int bit, .int c] st = .ok (.int (gr 16 (x.narrow ss bit c).w : Nat)) (wset st l tb pl (x.step ss bit c)) := by
  rw [run_eq W.h240]
  obtain ⟨p1, p2, p3⟩ := ok.plc tk c
  have g := stt_get p1 p2
  have tok := stt_ok tk p1 p2
  have e1 := place238 W (k + 1) h ok.kv c
  have e2 := states226 W.T (k + 1) h.t
  have e3 := part239 W k h tk ok c
  have m2 := meth2 W k h
  have m3 := meth3 W k h
  have n1 := h.ne1
  obtain ⟨X, hX⟩ : ∃ X, X = stt ss (plc x.kv c).1 := ⟨_, rfl⟩
  obtain ⟨S, hS⟩ : ∃ S, S = (plc x.kv c).1 := ⟨_, rfl⟩
  obtain ⟨B, hB⟩ : ∃ B, B = (plc x.kv c).2 := ⟨_, rfl⟩
  obtain ⟨Fi, hF⟩ : ∃ F, F = x.first ss c := ⟨_, rfl⟩
  obtain ⟨TD, hTD⟩ : ∃ TD, TD = ss.map Sta.d := ⟨_, rfl⟩
  rw [← hX, ← hS, ← hTD] at g
  simp only [plD, ← hS, ← hB] at e1
  rw [← hF] at e3
  simp only [tbD, ← hTD] at e2
  simp only [List.length_cons, List.length_nil, List.map_cons, List.map_nil, List.cons_append, List.nil_append, Nat.reduceSub, List.replicate_succ, List.replicate_zero, Nat.reduceAdd, beq_self_eq_true, R.grd_true]
  have body : ∀ ρ st, exs P.G (run P (k + 2)) bd240 ρ st = exs P.G (run P (k + 2)) bd240 ρ st := fun _ _ => rfl
  unfold bd240
  rw [exs_one]
  simp [EVa, place, List.map_cons, List.map_nil, List.cons_append, List.nil_append, Nat.reduceSub, List.replicate_succ, List.replicate_zero, List.getElem?_cons_zero, List.getElem?_cons_succ, Option.join_some, m2, e1]
  rw [exs_one]
  simp [EVa, place, List.map_cons, List.map_nil, List.cons_append, List.nil_append, Nat.reduceSub, List.replicate_succ, List.replicate_zero, List.getElem?_cons_zero, List.getElem?_cons_succ, Option.join_some, m3, e3]
  rw [exs_one]
  simp [EVa, place, List.map_cons, List.map_nil, List.cons_append, List.nil_append, Nat.reduceSub, List.replicate_succ, List.replicate_zero, List.getElem?_cons_zero, List.getElem?_cons_succ, Option.join_some, h.f3, e2, g]
  rw [exs_one]
  have ndef : ∃ y : WS, y = x.narrow ss bit c := ⟨_, rfl⟩
  obtain ⟨y, hy⟩ := ndef
  have key : ex P.G (run P (k + 2)) (.ifs (.val (.cmp .eq (.var 1) (.var 4))) (.cons (.stf (.var 0) 6 (.var 5)) (.cons (.sti (.fld (.var 0) 4) (.var 2) (.tup (.cons (.idx (.var 6) (.con (.int (1)))) (.cons (.var 4) .nil)))) .nil)) 
      (.cons (.augf (.var 0) 5 .add (.var 5)) (.cons (.augf (.var 0) 6 .sub (.var 5)) (.cons (.sti (.fld (.var 0) 4) (.var 2) (.tup (.cons (.idx (.var 6) (.con (.int (2)))) (.cons (.ite (.val (.cmp .eq (.idx (.var 6) (.con (.int (3)))) (.con (.int (1))))) (.bin .sub (.con (.int (1))) (.var 4)) (.var 4)) .nil)))) .nil))))
      [some (.ref l), some (.int bit), some (.int c), some (.int S), some (.int B), some (.int Fi), some X.d, none] st = .ok (.nx, [some (.ref l), some (.int bit), some (.int c), some (.int S), some (.int B), some (.int Fi), some X.d, none]) (wset st l tb pl y) := by
    by_cases cb : bit = B
    · have s6 := h.s6 Fi
      have h2 : WkAt (wset st l tb pl ⟨x.kv, x.low, Fi, x.n⟩) l tb pl ss ⟨x.kv, x.low, Fi, x.n⟩ := h.wset
      have f4 := h2.f4
      have sp := h2.sp hz c (.tup [.int X.u, .int B])
      rw [wset_wset n1] at sp
      have ey : y = ⟨dPut x.kv (.int c) (.tup [.int X.u, .int B]), x.low, Fi, x.n⟩ := by
        rw [hy, hX, hF]
        unfold WS.narrow
        rw [if_pos (by rw [cb, hB]), ← hB]; rfl
      rw [ey]
      simp [exs, EVa, place, List.map_cons, List.map_nil, List.cons_append, List.nil_append, Nat.reduceSub, List.replicate_succ, List.replicate_zero, List.getElem?_cons_zero, List.getElem?_cons_succ, Option.join_some, cb, s6, f4, Sta.d, sp]
    · have s5 := h.s5 (x.low + Fi)
      have h2 : WkAt (wset st l tb pl ⟨x.kv, x.low + Fi, x.w, x.n⟩) l tb pl ss ⟨x.kv, x.low + Fi, x.w, x.n⟩ := h.wset
      have f6 := h2.f6
      have s6 := h2.s6 (x.w - Fi)
      rw [wset_wset n1] at s6
      have h3 : WkAt (wset st l tb pl ⟨x.kv, x.low + Fi, x.w - Fi, x.n⟩) l tb pl ss ⟨x.kv, x.low + Fi, x.w - Fi, x.n⟩ := h.wset
      have f4 := h3.f4
      have sp := fun d => h3.sp hz c d
      simp only [wset_wset n1] at sp
      have ey : y = ⟨dPut x.kv (.int c) (.tup [.int X.r, .int (if X.f = 1 then 1 - B else B)]), x.low + Fi, x.w - Fi, x.n⟩ := by
        rw [hy, hX, hF, hB]
        unfold WS.narrow
        rw [if_neg (by rw [← hB]; exact cb)]; rfl
      rw [ey]
      simp only at f6 s6
      by_cases cf : X.f = 1
      · simp [exs, EVa, place, List.map_cons, List.map_nil, List.cons_append, List.nil_append, Nat.reduceSub, List.replicate_succ, List.replicate_zero, List.getElem?_cons_zero, List.getElem?_cons_succ, Option.join_some, cb, h.f5, s5, f6, s6, f4, Sta.d, cf, sp]
      · simp [exs, EVa, place, List.map_cons, List.map_nil, List.cons_append, List.nil_append, Nat.reduceSub, List.replicate_succ, List.replicate_zero, List.getElem?_cons_zero, List.getElem?_cons_succ, Option.join_some, cb, h.f5, s5, f6, s6, f4, Sta.d, cf, sp]
  rw [key]
  simp only [R.bind_ok, nxt_nx]
  rw [exs_one]
  simp [EVa, place, List.map_cons, List.map_nil, List.cons_append, List.nil_append, Nat.reduceSub, List.replicate_succ, List.replicate_zero, List.getElem?_cons_zero, List.getElem?_cons_succ, Option.join_some]
  have hw := WS.narrow_w (bit := bit) tk ok c
  rw [← hy] at hw ⊢
  have lp := grow_loop (G := P.G) (call := run P (k + 2)) (y := y) (g := 0) h (.int bit) (.int c) (.int S) (.int B) (.int Fi) X.d _ (wset st l tb pl y) rfl wset_len 16 (WF - 1) (by decide) (by omega)
  unfold bdStepLoop bd240 at lp
  simp only at lp
  rw [exs_one, ex_whlB]
  rw [show WF - 1 + 1 = WF from rfl] at lp
  rw [lp]
  simp only [R.bind_ok, nxt_nx]
  obtain ⟨z, hz⟩ : ∃ z : WS, z = ⟨y.kv, y.low * 2 ^ gr 16 y.w, y.w * 2 ^ gr 16 y.w, y.n⟩ := ⟨_, rfl⟩
  rw [← hz]
  have h4 : WkAt (wset st l tb pl z) l tb pl ss z := h.wset
  have s7 := h4.s7 (z.n + gr 16 y.w)
  rw [wset_wset n1] at s7
  have f7 := h4.f7
  have ez : x.step ss bit c = ⟨z.kv, z.low, z.w, z.n + gr 16 y.w⟩ := by
    rw [hz, hy]; rfl
  rw [exs_one]
  simp only [EVa, place, List.map_cons, List.map_nil, List.cons_append, List.nil_append, Nat.reduceSub, List.replicate_succ, List.replicate_zero, List.getElem?_cons_zero, List.getElem?_cons_succ, Option.join_some, Int.zero_add] at *
  simp only [f7, R.bind_ok, ofO_some, BEq.rfl, R.grd_true, bin_int, ar_add, R.ofI_some, ← Int.natCast_add, s7, nxt_nx]
  rw [exs_one]
  simp [EVa, place, List.map_cons, List.map_nil, List.cons_append, List.nil_append, Nat.reduceSub, List.replicate_succ, List.replicate_zero, List.getElem?_cons_zero, List.getElem?_cons_succ, Option.join_some]
  rw [ez]
  exact gc_wset0 h (by rw [hz, hy]; exact WS.narrow_f hf bit c) rfl
end
end Nz
namespace Nz
/-! ### ratios -/
abbrev rt (p q : Int) : D := .tup [.int p, .int q]
section
variable {P : Prog}
theorem gcd_loop (G : Ctx) (call : Nat → List D → Store → R D) (m : E) (hm : ∀ (a b : Int) (st : Store), 0 < b → ev G call m [some (.int a), some (.int b)] st = .ok (.int (a % b)) st) (st : Store) (ρ₀ : Env) (x y : D) (h0 : ρ₀ = [some x, some y]) :
    ∀ (n : Nat) (b a : Nat), b < n → whlLoop (evC G call (.val (.cmp .ne (.var 1) (.con (.int 0))))) (exs G call (.cons (.par 0 1 (.var 1) m) .nil)) ρ₀ st n [some (.int a), some (.int b)] st = .ok (.nx, [some (.int (Nat.gcd a b)), some (.int 0)]) st := by
  intro n
  induction n with
  | zero => intro b a h; omega
  | succ n ih =>
    intro b a h
    cases b with
    | zero =>
      rw [whl_false (s := st) (by simp [EVa, place, List.map_cons, List.map_nil, List.cons_append, List.nil_append, Nat.reduceSub, List.replicate_succ, List.replicate_zero, List.getElem?_cons_zero, List.getElem?_cons_succ, Option.join_some])]
      simp
    | succ b =>
      have hb : ¬ ((b : Int) + 1 = 0) := by omega
      have hb2 : (0 : Int) < (b : Int) + 1 := by omega
      have hlt := Nat.mod_lt a (show 0 < b + 1 by omega)
      rw [whl_true (s := st) (ρ' := [some (.int ((b + 1 : Nat) : Int)), some (.int ((a % (b + 1) : Nat) : Int))]) (s' := st) (by simp [EVa, place, List.map_cons, List.map_nil, List.cons_append, List.nil_append, Nat.reduceSub, List.replicate_succ, List.replicate_zero, List.getElem?_cons_zero, List.getElem?_cons_succ, Option.join_some, hb])]
      · subst h0
        have e : mask [some x, some y] [some (D.int ((b + 1 : Nat) : Int)), some (D.int ((a % (b + 1) : Nat) : Int))] = [some (D.int ((b + 1 : Nat) : Int)), some (D.int ((a % (b + 1) : Nat) : Int))] := rfl
        rw [e, show cutE st [some (D.int ((b + 1 : Nat) : Int)), some (D.int ((a % (b + 1) : Nat) : Int))] st = st from by simp [cutE, cutT_same], ih (a % (b + 1)) (b + 1) (by omega)]
        rw [Nat.gcd_comm (b + 1), ← Nat.gcd_rec, Nat.gcd_comm]
      · rw [exs_one]
        simp [EVa, place, List.map_cons, List.map_nil, List.cons_append, List.nil_append, Nat.reduceSub, List.replicate_succ, List.replicate_zero, List.getElem?_cons_zero, List.getElem?_cons_succ, Option.join_some, hm _ _ st hb2]
/-- gcd -/
theorem gcd27 (h : P.defs.lookup 27 = some ⟨2, 2, bd27⟩) (k : Nat) (a b : Nat) (st : Store) (hb : b < 1099511627776) : run P (k + 1) 27 [.int a, .int b] st = .ok (.int (Nat.gcd a b)) st := by
  rw [run_eq h]
  have hl := gcd_loop P.G (run P k) (.bin .mod (.var 0) (.var 1)) (fun a b st h => by simp [EVa, place, List.map_cons, List.map_nil, List.cons_append, List.nil_append, Nat.reduceSub, List.replicate_succ, List.replicate_zero, List.getElem?_cons_zero, List.getElem?_cons_succ, Option.join_some, h]) st [some (.int a), some (.int b)] _ _ rfl WF b a hb
  simp only [bd27, List.length_cons, List.length_nil, List.map_cons, List.map_nil, List.cons_append, List.nil_append, Nat.reduceSub, List.replicate_succ, List.replicate_zero, Nat.reduceAdd, beq_self_eq_true, R.grd_true]
  rw [exs_one, ex_whlB]
  rw [hl]
  simp [EVa, place, List.map_cons, List.map_nil, List.cons_append, List.nil_append, Nat.reduceSub, List.replicate_succ, List.replicate_zero, List.getElem?_cons_zero, List.getElem?_cons_succ, Option.join_some, exs_one, gc_id]
theorem gcd61 (h : P.defs.lookup 61 = some ⟨2, 2, bd61⟩) (k : Nat) (a b : Nat) (st : Store) (hb : b < 1099511627776) : run P (k + 1) 61 [.int a, .int b] st = .ok (.int (Nat.gcd a b)) st := by
  rw [run_eq h]
  have hl := gcd_loop P.G (run P k) (.bin .mod (.bi .int (.cons (.var 0) .nil)) (.var 1)) (fun a b st h => by simp [EVa, place, List.map_cons, List.map_nil, List.cons_append, List.nil_append, Nat.reduceSub, List.replicate_succ, List.replicate_zero, List.getElem?_cons_zero, List.getElem?_cons_succ, Option.join_some, h]) st [some (.int a), some (.int b)] _ _ rfl WF b a hb
  simp only [bd61, List.length_cons, List.length_nil, List.map_cons, List.map_nil, List.cons_append, List.nil_append, Nat.reduceSub, List.replicate_succ, List.replicate_zero, Nat.reduceAdd, beq_self_eq_true, R.grd_true]
  rw [exs_one, ex_whlB, hl]
  simp [EVa, place, List.map_cons, List.map_nil, List.cons_append, List.nil_append, Nat.reduceSub, List.replicate_succ, List.replicate_zero, List.getElem?_cons_zero, List.getElem?_cons_succ, Option.join_some, exs_one, gc_id]
/-! #### lowest terms -/
def lowN (n d : Int) : Int := n / (Int.gcd n d : Nat)
def lowD (n d : Int) : Int := d / (Int.gcd n d : Nat)
structure Low (p q : Int) : Prop where
  pos : 0 < q
  cop : Int.gcd p q = 1
theorem gcd_pos' {n d : Int} (h : 0 < d) : (0 : Int) < (Int.gcd n d : Nat) := by
  have : 0 < Int.gcd n d := Int.gcd_pos_iff.mpr (.inr (by omega))
  omega
theorem low_mul {n d : Int} : lowN n d * (Int.gcd n d : Nat) = n ∧ lowD n d * (Int.gcd n d : Nat) = d :=
  ⟨Int.ediv_mul_cancel (Int.gcd_dvd_left ..), Int.ediv_mul_cancel (Int.gcd_dvd_right ..)⟩
theorem low_pos {n d : Int} (h : 0 < d) : 0 < lowD n d := by
  have := (low_mul (n := n) (d := d)).2
  have hg := gcd_pos' (n := n) h
  exact Int.pos_of_mul_pos_left (by rw [this]; exact h) hg
theorem low_eq {n d : Int} (h : 0 < d) : lowN n d * d = n * lowD n d := by
  obtain ⟨a, b⟩ := low_mul (n := n) (d := d)
  generalize lowN n d = N at *
  generalize lowD n d = M at *
  generalize ((Int.gcd n d : Nat) : Int) = g at *
  rw [← a, ← b, ← Int.mul_assoc, Int.mul_right_comm]
theorem low_low {n d : Int} (h : 0 < d) : Low (lowN n d) (lowD n d) := by
  refine ⟨low_pos h, ?_⟩
  have hg := gcd_pos' (n := n) h
  unfold lowN lowD
  rw [Int.gcd_ediv (Int.gcd_dvd_left ..) (Int.gcd_dvd_right ..), Int.natAbs_natCast]
  exact Nat.div_self (by omega)
theorem Low.uniq {p q a b : Int} (h : Low p q) (h2 : Low a b) (e : p * b = a * q) : p = a ∧ q = b := by
  have d1 : q ∣ b := by
    have hc : Nat.Coprime q.natAbs p.natAbs := by rw [Nat.coprime_comm]; exact h.cop
    have : q.natAbs ∣ p.natAbs * b.natAbs := by rw [← Int.natAbs_mul, e, Int.natAbs_mul]; exact Nat.dvd_mul_left ..
    exact Int.natAbs_dvd_natAbs.mp (hc.dvd_of_dvd_mul_left this)
  have d2 : b ∣ q := by
    have hc : Nat.Coprime b.natAbs a.natAbs := by rw [Nat.coprime_comm]; exact h2.cop
    have : b.natAbs ∣ a.natAbs * q.natAbs := by rw [← Int.natAbs_mul, ← e, Int.natAbs_mul]; exact Nat.dvd_mul_left ..
    exact Int.natAbs_dvd_natAbs.mp (hc.dvd_of_dvd_mul_left this)
  have hq := h.pos
  have hb := h2.pos
  have e2 : q = b := Int.dvd_antisymm (by omega) (by omega) d1 d2
  subst e2
  exact ⟨Int.eq_of_mul_eq_mul_right (by omega) e, rfl⟩
theorem low_lt_l {n d p q : Int} (h : 0 < d) (hq : 0 < q) : (p * lowD n d < lowN n d * q) ↔ (p * d < n * q) := by
  have e := low_eq (n := n) h
  have hD := low_pos (n := n) h
  generalize lowN n d = N at *
  generalize lowD n d = M at *
  have e1 : N * q * d = n * q * M := by rw [Int.mul_right_comm, e, Int.mul_right_comm]
  have e2 : p * M * d = p * d * M := Int.mul_right_comm ..
  constructor
  · intro l
    have := Int.mul_lt_mul_of_pos_right l h
    rw [e1, e2] at this
    exact Int.lt_of_mul_lt_mul_right this (by omega)
  · intro l
    have := Int.mul_lt_mul_of_pos_right l hD
    rw [← e1, ← e2] at this
    exact Int.lt_of_mul_lt_mul_right this (by omega)
theorem low_lt_r {n d p q : Int} (h : 0 < d) (hq : 0 < q) : (lowN n d * q < p * lowD n d) ↔ (n * q < p * d) := by
  have e := low_eq (n := n) h
  have hD := low_pos (n := n) h
  generalize lowN n d = N at *
  generalize lowD n d = M at *
  have e1 : N * q * d = n * q * M := by rw [Int.mul_right_comm, e, Int.mul_right_comm]
  have e2 : p * M * d = p * d * M := Int.mul_right_comm ..
  constructor
  · intro l
    have := Int.mul_lt_mul_of_pos_right l h
    rw [e1, e2] at this
    exact Int.lt_of_mul_lt_mul_right this (by omega)
  · intro l
    have := Int.mul_lt_mul_of_pos_right l hD
    rw [← e1, ← e2] at this
    exact Int.lt_of_mul_lt_mul_right this (by omega)
/-- of a ratio in lowest terms nothing changes -/
theorem Low.same {p q : Int} (h : Low p q) : lowN p q = p ∧ lowD p q = q := by
  unfold lowN lowD
  rw [h.cop]
  simp
theorem low_eq_iff {n d p q : Int} (h : 0 < d) (hp : Low p q) : (p = lowN n d ∧ q = lowD n d) ↔ p * d = n * q := by
  have e := low_eq (n := n) h
  have hD := low_pos (n := n) h
  constructor
  · rintro ⟨rfl, rfl⟩
    exact e
  · intro k
    refine hp.uniq (low_low h) ?_
    have : p * lowD n d * d = lowN n d * q * d := by
      rw [Int.mul_right_comm, k, Int.mul_right_comm (lowN n d), e, Int.mul_right_comm]
    exact Int.eq_of_mul_eq_mul_right (by omega) this
theorem low_le {n d : Int} (h : 0 < d) : lowD n d ≤ d := by
  obtain ⟨_, b⟩ := low_mul (n := n) (d := d)
  have hg := gcd_pos' (n := n) h
  have hD := low_pos (n := n) h
  have : lowD n d * 1 ≤ lowD n d * (Int.gcd n d : Nat) := Int.mul_le_mul_of_nonneg_left (by omega) (by omega)
  omega
theorem low_abs {n d : Int} (h : 0 < d) : (lowN n d).natAbs ≤ n.natAbs := by
  obtain ⟨a, _⟩ := low_mul (n := n) (d := d)
  have hg := gcd_pos' (n := n) h
  have : n.natAbs = (lowN n d).natAbs * Int.gcd n d := by
    conv => lhs; rw [← a]
    rw [Int.natAbs_mul, Int.natAbs_natCast]
  rw [this]
  exact Nat.le_mul_of_pos_right _ (by omega)
/-! #### the functions -/
theorem lowest62 (h61 : P.defs.lookup 61 = some ⟨2, 2, bd61⟩) (h62 : P.defs.lookup 62 = some ⟨2, 3, bd62⟩) (k : Nat) (n d : Int) (st : Store) (hd : 0 < d) (hb : d < 1099511627776) : run P (k + 2) 62 [.int n, .int d] st = .ok (rt (lowN n d) (lowD n d)) st := by
  rw [run_eq h62]
  have hg := gcd_pos' (n := n) hd
  have hg2 : ((Int.gcd n d : Nat) : Int) ≤ d := Int.le_of_dvd hd (Int.gcd_dvd_right ..)
  have hg3 : ((Int.gcd n d : Nat) : Int) < 18446744073709551616 := by omega
  have e := gcd61 h61 k n.natAbs d.toNat st (by omega)
  rw [show Nat.gcd n.natAbs d.toNat = Int.gcd n d from by unfold Int.gcd; rw [show d.toNat = d.natAbs by omega], Int.toNat_of_nonneg (by omega)] at e
  have a1 := ar_fdiv (i := n) hg hg3
  have a2 := ar_fdiv (i := d) hg hg3
  simp [exs, bd62, EVa, place, List.map_cons, List.map_nil, List.cons_append, List.nil_append, Nat.reduceSub, List.replicate_succ, List.replicate_zero, List.getElem?_cons_zero, List.getElem?_cons_succ, Option.join_some, e, a1, a2, gc_id, lowN, lowD]
/-- the program's reduced, with a positive denominator -/
theorem reduced54 (h27 : P.defs.lookup 27 = some ⟨2, 2, bd27⟩) (h54 : P.defs.lookup 54 = some ⟨2, 3, bd54⟩) (k : Nat) (n d : Int) (st : Store) (hd : 0 < d) (hb : d < 1099511627776) : run P (k + 2) 54 [.int n, .int d] st = .ok (rt (lowN n d) (lowD n d)) st := by
  rw [run_eq h54]
  have hg := gcd_pos' (n := n) hd
  have hg2 : ((Int.gcd n d : Nat) : Int) ≤ d := Int.le_of_dvd hd (Int.gcd_dvd_right ..)
  have hg3 : ((Int.gcd n d : Nat) : Int) < 18446744073709551616 := by omega
  have e := gcd27 h27 k n.natAbs d.natAbs st (by omega)
  have hn : ¬ d < 0 := by omega
  rw [show Nat.gcd n.natAbs d.natAbs = Int.gcd n d from rfl] at e
  have a1 := ar_fdiv (i := n) hg hg3
  have a2 := ar_fdiv (i := d) hg hg3
  simp [exs, bd54, EVa, place, List.map_cons, List.map_nil, List.cons_append, List.nil_append, Nat.reduceSub, List.replicate_succ, List.replicate_zero, List.getElem?_cons_zero, List.getElem?_cons_succ, Option.join_some, e, a1, a2, hn, gc_id, lowN, lowD]
theorem is_ratio28 (h0 : P.defs.lookup 0 = some ⟨1, 1, bd0⟩) (h2 : P.defs.lookup 2 = some ⟨3, 3, bd2⟩) (h27 : P.defs.lookup 27 = some ⟨2, 2, bd27⟩) (h28 : P.defs.lookup 28 = some ⟨1, 1, bd28⟩) (k : Nat) (p q : Int) (st : Store) (h : Low p q) (hb : q < 1099511627776) :
    run P (k + 2) 28 [rt p q] st = .ok (.bl true) st := by
  rw [run_eq h28]
  have hq := h.pos
  have e := gcd27 h27 k p.natAbs q.natAbs st (by omega)
  rw [show Nat.gcd p.natAbs q.natAbs = 1 from h.cop, show ((q.natAbs : Nat) : Int) = q by omega] at e
  have hn : ¬ q < 1 := by omega
  simp [exs, bd28, EVa, place, List.map_cons, List.map_nil, List.cons_append, List.nil_append, Nat.reduceSub, List.replicate_succ, List.replicate_zero, List.getElem?_cons_zero, List.getElem?_cons_succ, Option.join_some, is_list_tup h2, is_integer_int h0, e, hn, gc_id]
def Bd (x : Int) : Prop := -18446744073709551616 < x ∧ x < 18446744073709551616
theorem times103 (h27 : P.defs.lookup 27 = some ⟨2, 2, bd27⟩) (h54 : P.defs.lookup 54 = some ⟨2, 3, bd54⟩) (h103 : P.defs.lookup 103 = some ⟨2, 2, bd103⟩) (k : Nat) (a b c d : Int) (st : Store) (ha : Bd a) (hb : Bd b) (hd : 0 < b * d) (hz : b * d < 1099511627776) :
    run P (k + 3) 103 [rt a b, rt c d] st = .ok (rt (lowN (a * c) (b * d)) (lowD (a * c) (b * d))) st := by
  rw [run_eq h103]
  have m1 : mulOk a c = true := mulOk_l ha.1 ha.2
  have m2 : mulOk b d = true := mulOk_l hb.1 hb.2
  simp [exs, bd103, EVa, place, List.map_cons, List.map_nil, List.cons_append, List.nil_append, Nat.reduceSub, List.replicate_succ, List.replicate_zero, List.getElem?_cons_zero, List.getElem?_cons_succ, Option.join_some, m1, m2, reduced54 h27 h54 k _ _ st hd hz, gc_id]
theorem law_times110 (h61 : P.defs.lookup 61 = some ⟨2, 2, bd61⟩) (h62 : P.defs.lookup 62 = some ⟨2, 3, bd62⟩) (h110 : P.defs.lookup 110 = some ⟨2, 2, bd110⟩) (k : Nat) (a b c d : Int) (st : Store) (ha : Bd a) (hb : Bd b) (hd : 0 < b * d) (hz : b * d < 1099511627776) :
    run P (k + 3) 110 [rt a b, rt c d] st = .ok (rt (lowN (a * c) (b * d)) (lowD (a * c) (b * d))) st := by
  rw [run_eq h110]
  have m1 : mulOk a c = true := mulOk_l ha.1 ha.2
  have m2 : mulOk b d = true := mulOk_l hb.1 hb.2
  simp [exs, bd110, EVa, place, List.map_cons, List.map_nil, List.cons_append, List.nil_append, Nat.reduceSub, List.replicate_succ, List.replicate_zero, List.getElem?_cons_zero, List.getElem?_cons_succ, Option.join_some, m1, m2, lowest62 h61 h62 k _ _ st hd hz, gc_id]
theorem law_plus111 (h61 : P.defs.lookup 61 = some ⟨2, 2, bd61⟩) (h62 : P.defs.lookup 62 = some ⟨2, 3, bd62⟩) (h111 : P.defs.lookup 111 = some ⟨2, 2, bd111⟩) (k : Nat) (a b c d : Int) (st : Store) (ha : Bd a) (hb : Bd b) (hc : Bd c) (hd : 0 < b * d) (hz : b * d < 1099511627776) :
    run P (k + 3) 111 [rt a b, rt c d] st = .ok (rt (lowN (a * d + c * b) (b * d)) (lowD (a * d + c * b) (b * d))) st := by
  rw [run_eq h111]
  have m1 : mulOk a d = true := mulOk_l ha.1 ha.2
  have m2 : mulOk b d = true := mulOk_l hb.1 hb.2
  have m3 : mulOk c b = true := mulOk_l hc.1 hc.2
  simp [exs, bd111, EVa, place, List.map_cons, List.map_nil, List.cons_append, List.nil_append, Nat.reduceSub, List.replicate_succ, List.replicate_zero, List.getElem?_cons_zero, List.getElem?_cons_succ, Option.join_some, m1, m2, m3, lowest62 h61 h62 k _ _ st hd hz, gc_id]
theorem less143 (h143 : P.defs.lookup 143 = some ⟨2, 2, bd143⟩) (k : Nat) (a b c d : Int) (st : Store) (ha : Bd a) (hb : Bd b) : run P (k + 1) 143 [rt a b, rt c d] st = .ok (.bl (decide (a * d < c * b))) st := by
  rw [run_eq h143]
  have m1 : mulOk a d = true := mulOk_l ha.1 ha.2
  have m2 : mulOk c b = true := mulOk_r hb.1 hb.2
  simp [exs, bd143, EVa, place, List.map_cons, List.map_nil, List.cons_append, List.nil_append, Nat.reduceSub, List.replicate_succ, List.replicate_zero, List.getElem?_cons_zero, List.getElem?_cons_succ, Option.join_some, m1, m2, gc_id]
end
end Nz
namespace Nz
/-! ### ratios of great numbers -/
theorem half_mod {b r : Nat} (h0 : 0 < r) (h1 : r < b) : 2 * (b % r) < b := by
  have h2 := Nat.mod_lt b h0
  have h3 := Nat.div_add_mod b r
  have h4 : 0 < b / r := Nat.div_pos (by omega) h0
  have h5 : r * 1 ≤ r * (b / r) := Nat.mul_le_mul_left r h4
  omega
section
variable {P : Prog}
theorem gcd_loopB (G : Ctx) (call : Nat → List D → Store → R D) (m : E) (hm : ∀ (a b : Int) (st : Store), 0 < b → ev G call m [some (.int a), some (.int b)] st = .ok (.int (a % b)) st) (st : Store) (ρ₀ : Env) (x y : D) (h0 : ρ₀ = [some x, some y]) :
    ∀ (k : Nat) (n b a : Nat), b < 2 ^ k → 2 * k + 1 ≤ n → whlLoop (evC G call (.val (.cmp .ne (.var 1) (.con (.int 0))))) (exs G call (.cons (.par 0 1 (.var 1) m) .nil)) ρ₀ st n [some (.int a), some (.int b)] st = .ok (.nx, [some (.int (Nat.gcd a b)), some (.int 0)]) st := by
  have zero : ∀ (n a : Nat), whlLoop (evC G call (.val (.cmp .ne (.var 1) (.con (.int 0))))) (exs G call (.cons (.par 0 1 (.var 1) m) .nil)) ρ₀ st (n + 1) [some (.int a), some (.int (0 : Nat))] st = .ok (.nx, [some (.int a), some (.int 0)]) st := fun n a => by
    rw [whl_false (s := st) (by simp [EVa, place, List.map_cons, List.map_nil, List.cons_append, List.nil_append, Nat.reduceSub, List.replicate_succ, List.replicate_zero, List.getElem?_cons_zero, List.getElem?_cons_succ, Option.join_some])]
    simp
  have one : ∀ (n a b : Nat), 0 < b → whlLoop (evC G call (.val (.cmp .ne (.var 1) (.con (.int 0))))) (exs G call (.cons (.par 0 1 (.var 1) m) .nil)) ρ₀ st (n + 1) [some (.int a), some (.int b)] st = whlLoop (evC G call (.val (.cmp .ne (.var 1) (.con (.int 0))))) (exs G call (.cons (.par 0 1 (.var 1) m) .nil)) ρ₀ st n [some (.int b), some (.int (a % b : Nat))] st := fun n a b hb => by
    have hb1 : ¬ ((b : Int) = 0) := by omega
    have hb2 : (0 : Int) < (b : Int) := by omega
    rw [whl_true (s := st) (ρ' := [some (.int (b : Nat)), some (.int ((a % b : Nat) : Int))]) (s' := st) (by simp [EVa, place, List.map_cons, List.map_nil, List.cons_append, List.nil_append, Nat.reduceSub, List.replicate_succ, List.replicate_zero, List.getElem?_cons_zero, List.getElem?_cons_succ, Option.join_some]; omega)]
    · subst h0
      rw [show mask [some x, some y] [some (D.int (b : Nat)), some (D.int ((a % b : Nat) : Int))] = [some (D.int (b : Nat)), some (D.int ((a % b : Nat) : Int))] from rfl]
      rw [show cutE st [some (D.int (b : Nat)), some (D.int ((a % b : Nat) : Int))] st = st from by simp [cutE, cutT_same]]
    · rw [exs_one]
      simp [EVa, place, List.map_cons, List.map_nil, List.cons_append, List.nil_append, Nat.reduceSub, List.replicate_succ, List.replicate_zero, List.getElem?_cons_zero, List.getElem?_cons_succ, Option.join_some, hm _ _ st hb2]
  intro k
  induction k with
  | zero =>
    intro n b a h1 h2
    have hb : b = 0 := by simpa using h1
    subst hb
    obtain ⟨n, rfl⟩ : ∃ m, n = m + 1 := ⟨n - 1, by omega⟩
    rw [zero, Nat.gcd_zero_right]
  | succ k ih =>
    intro n b a h1 h2
    obtain ⟨n, rfl⟩ : ∃ m, n = m + 2 + 1 := ⟨n - 3, by omega⟩
    by_cases hb : b = 0
    · subst hb; rw [zero, Nat.gcd_zero_right]
    · rw [one _ _ _ (by omega)]
      by_cases hr : a % b = 0
      · rw [hr, zero, Nat.gcd_comm, Nat.gcd_rec, hr, Nat.gcd_zero_left]
      · have h3 := Nat.mod_lt a (show 0 < b by omega)
        rw [one _ _ _ (by omega)]
        have h4 := half_mod (b := b) (r := a % b) (by omega) h3
        rw [ih (n + 1) _ _ (by rw [Nat.pow_succ] at h1; omega) (by omega)]
        have e1 : Nat.gcd (a % b) (b % (a % b)) = Nat.gcd a b := by
          rw [Nat.gcd_comm (a % b), ← Nat.gcd_rec (a % b) b, ← Nat.gcd_rec b a, Nat.gcd_comm]
        rw [e1]
theorem wf_big {e : Nat} (h : e ≤ 200000) : 2 * e + 1 ≤ WF := by unfold WF; omega
theorem gcdB27 (h : P.defs.lookup 27 = some ⟨2, 2, bd27⟩) (k : Nat) (a b : Nat) (st : Store) (e : Nat) (he : e ≤ 200000) (hb : b < 2 ^ e) : run P (k + 1) 27 [.int a, .int b] st = .ok (.int (Nat.gcd a b)) st := by
  rw [run_eq h]
  have hl := gcd_loopB P.G (run P k) (.bin .mod (.var 0) (.var 1)) (fun a b st h => by simp [EVa, place, List.map_cons, List.map_nil, List.cons_append, List.nil_append, Nat.reduceSub, List.replicate_succ, List.replicate_zero, List.getElem?_cons_zero, List.getElem?_cons_succ, Option.join_some, h]) st [some (.int a), some (.int b)] _ _ rfl e WF b a hb (wf_big he)
  simp only [bd27, List.length_cons, List.length_nil, List.map_cons, List.map_nil, List.cons_append, List.nil_append, Nat.reduceSub, List.replicate_succ, List.replicate_zero, Nat.reduceAdd, beq_self_eq_true, R.grd_true]
  rw [exs_one, ex_whlB]
  rw [hl]
  simp [EVa, place, List.map_cons, List.map_nil, List.cons_append, List.nil_append, Nat.reduceSub, List.replicate_succ, List.replicate_zero, List.getElem?_cons_zero, List.getElem?_cons_succ, Option.join_some, exs_one, gc_id]
theorem gcdB61 (h : P.defs.lookup 61 = some ⟨2, 2, bd61⟩) (k : Nat) (a b : Nat) (st : Store) (e : Nat) (he : e ≤ 200000) (hb : b < 2 ^ e) : run P (k + 1) 61 [.int a, .int b] st = .ok (.int (Nat.gcd a b)) st := by
  rw [run_eq h]
  have hl := gcd_loopB P.G (run P k) (.bin .mod (.bi .int (.cons (.var 0) .nil)) (.var 1)) (fun a b st h => by simp [EVa, place, List.map_cons, List.map_nil, List.cons_append, List.nil_append, Nat.reduceSub, List.replicate_succ, List.replicate_zero, List.getElem?_cons_zero, List.getElem?_cons_succ, Option.join_some, h]) st [some (.int a), some (.int b)] _ _ rfl e WF b a hb (wf_big he)
  simp only [bd61, List.length_cons, List.length_nil, List.map_cons, List.map_nil, List.cons_append, List.nil_append, Nat.reduceSub, List.replicate_succ, List.replicate_zero, Nat.reduceAdd, beq_self_eq_true, R.grd_true]
  rw [exs_one, ex_whlB, hl]
  simp [EVa, place, List.map_cons, List.map_nil, List.cons_append, List.nil_append, Nat.reduceSub, List.replicate_succ, List.replicate_zero, List.getElem?_cons_zero, List.getElem?_cons_succ, Option.join_some, exs_one, gc_id]
theorem natAbs_lt {j : Int} {e : Nat} (h : 0 < j) (h2 : j < 2 ^ e) : j.natAbs < 2 ^ e := by
  have : ((j.natAbs : Nat) : Int) < ((2 ^ e : Nat) : Int) := by rw [Int.natAbs_of_nonneg (by omega)]; push_cast; exact h2
  exact Int.ofNat_lt.mp this
theorem divOk_big {j : Int} {e : Nat} (he : e ≤ 9000) (h : 0 < j) (h2 : j < 2 ^ e) : divOk j = true := by
  unfold divOk
  rw [decide_eq_true h, Bool.true_and, Bool.or_eq_true]
  right
  have h0 : j.natAbs ≠ 0 := by omega
  have := (Nat.log2_lt h0).mpr (natAbs_lt h h2)
  exact decide_eq_true (by omega)
theorem ar_fdivB {i j : Int} {e : Nat} (he : e ≤ 9000) (h : 0 < j) (h2 : j < 2 ^ e) : arith .fdiv i j = some (i / j) := by simp only [arith, divOk_big he h h2, if_true]
theorem lowestB62 (h61 : P.defs.lookup 61 = some ⟨2, 2, bd61⟩) (h62 : P.defs.lookup 62 = some ⟨2, 3, bd62⟩) (k : Nat) (n d : Int) (st : Store) (b : Nat) (hb9 : b ≤ 9000) (hd : 0 < d) (hb : d < 2 ^ b) : run P (k + 2) 62 [.int n, .int d] st = .ok (rt (lowN n d) (lowD n d)) st := by
  rw [run_eq h62]
  have hg := gcd_pos' (n := n) hd
  have hg2 : ((Int.gcd n d : Nat) : Int) ≤ d := Int.le_of_dvd hd (Int.gcd_dvd_right ..)
  have hn := natAbs_lt hd hb
  have e := gcdB61 h61 k n.natAbs d.toNat st b (by omega) (by rw [show d.toNat = d.natAbs by omega]; exact hn)
  rw [show Nat.gcd n.natAbs d.toNat = Int.gcd n d from by unfold Int.gcd; rw [show d.toNat = d.natAbs by omega], Int.toNat_of_nonneg (by omega)] at e
  have a1 := ar_fdivB (i := n) hb9 hg (Int.lt_of_le_of_lt hg2 hb)
  have a2 := ar_fdivB (i := d) hb9 hg (Int.lt_of_le_of_lt hg2 hb)
  simp [exs, bd62, EVa, place, List.map_cons, List.map_nil, List.cons_append, List.nil_append, Nat.reduceSub, List.replicate_succ, List.replicate_zero, List.getElem?_cons_zero, List.getElem?_cons_succ, Option.join_some, e, a1, a2, gc_id, lowN, lowD]
theorem reducedB54 (h27 : P.defs.lookup 27 = some ⟨2, 2, bd27⟩) (h54 : P.defs.lookup 54 = some ⟨2, 3, bd54⟩) (k : Nat) (n d : Int) (st : Store) (b : Nat) (hb9 : b ≤ 9000) (hd : 0 < d) (hb : d < 2 ^ b) : run P (k + 2) 54 [.int n, .int d] st = .ok (rt (lowN n d) (lowD n d)) st := by
  rw [run_eq h54]
  have hg := gcd_pos' (n := n) hd
  have hg2 : ((Int.gcd n d : Nat) : Int) ≤ d := Int.le_of_dvd hd (Int.gcd_dvd_right ..)
  have e := gcdB27 h27 k n.natAbs d.natAbs st b (by omega) (natAbs_lt hd hb)
  have hn : ¬ d < 0 := by omega
  rw [show Nat.gcd n.natAbs d.natAbs = Int.gcd n d from rfl] at e
  have a1 := ar_fdivB (i := n) hb9 hg (Int.lt_of_le_of_lt hg2 hb)
  have a2 := ar_fdivB (i := d) hb9 hg (Int.lt_of_le_of_lt hg2 hb)
  simp [exs, bd54, EVa, place, List.map_cons, List.map_nil, List.cons_append, List.nil_append, Nat.reduceSub, List.replicate_succ, List.replicate_zero, List.getElem?_cons_zero, List.getElem?_cons_succ, Option.join_some, e, a1, a2, hn, gc_id, lowN, lowD]
end
end Nz
namespace Nz
/-! ### the binary coder: walks of pairs -/
def x00 : WS := ⟨[], 0, 65536, 0⟩
def walkF (ss : List Sta) (x : WS) (ps : List (Int × Int)) : WS := ps.foldl (fun x p => x.step ss p.1 p.2) x
def walkM (ss : List Sta) (ps : List (Int × Int)) : WS := walkF ss x00 ps
def prD2 (p : Int × Int) : D := .tup [.int p.1, .int p.2]
abbrev psD (ps : List (Int × Int)) : D := .tup (ps.map prD2)
structure PrOk (p : Int × Int) : Prop where
  b0 : 0 ≤ p.1
  b1 : p.1 ≤ 1
  c0 : 0 ≤ p.2
  c1 : p.2 ≤ 31
theorem x00_ok (ss : List Sta) : x00.Ok ss := ⟨fun c d h => (by simp [x00, dGet] at h), by decide, by decide⟩
theorem x00_f : KvF x00.kv := fun p h => by simp [x00] at h
theorem walkF_ok {ss : List Sta} (T : TbOk ss) : ∀ (ps : List (Int × Int)) {x : WS}, x.Ok ss → (walkF ss x ps).Ok ss
  | [], _, h => h
  | p :: ps, x, h => walkF_ok T ps (WS.step_ok T h p.1 p.2)
theorem walkF_f {ss : List Sta} : ∀ (ps : List (Int × Int)) {x : WS}, KvF x.kv → KvF (walkF ss x ps).kv
  | [], _, h => h
  | p :: ps, x, h => walkF_f ps (WS.step_f h p.1 p.2)
theorem gr_le : ∀ (j f : Nat) {w : Int}, 32768 ≤ w * 2 ^ j → gr f w ≤ j
  | 0, f, w, h => by rw [gr_fix f (by simpa using h)]; omega
  | j + 1, 0, w, h => by simp [gr]
  | j + 1, f + 1, w, h => by
    unfold gr
    split
    · have := gr_le j f (w := 2 * w) (by rw [Int.pow_succ, Int.mul_comm _ 2, ← Int.mul_assoc, Int.mul_comm w 2] at h; exact h)
      omega
    · omega
theorem gr_le7 {w : Int} (h : 512 ≤ w) : gr 16 w ≤ 6 := gr_le 6 16 (by omega)
theorem step_n {ss : List Sta} {x : WS} (T : TbOk ss) (h : x.Ok ss) (bit c : Int) : x.n ≤ (x.step ss bit c).n ∧ (x.step ss bit c).n ≤ x.n + 6 := by
  have a := WS.narrow_w T h bit c
  have b := gr_le7 a.1
  have e : (x.narrow ss bit c).n = x.n := by unfold WS.narrow; split <;> rfl
  unfold WS.step WS.grow
  simp only [e]
  omega
theorem walkF_n {ss : List Sta} (T : TbOk ss) : ∀ (ps : List (Int × Int)) {x : WS}, x.Ok ss → (walkF ss x ps).n ≤ x.n + 6 * ps.length
  | [], _, _ => by simp [walkF]
  | p :: ps, x, h => by
    have a := walkF_n T ps (WS.step_ok T h p.1 p.2)
    have b := (step_n T h p.1 p.2).2
    simp only [walkF, List.foldl_cons, List.length_cons] at *
    omega
theorem pfx_one {n : Nat} {a b : O} {js : Store} : ∀ st : Store, pfx n (st ++ [a]) (st ++ b :: js) = (O.beq a b || O.cl n b)
  | [] => by simp [pfx]
  | o :: st => by simp [pfx, O.beq_refl, pfx_one st]
structure PrsP (P : Prog) : Prop where
  W : WalP P
  h257 : P.defs.lookup 257 = some ⟨1, 3, bd257⟩
  h258 : P.defs.lookup 258 = some ⟨2, 5, bd258⟩
section
variable {P : Prog}
theorem restart237a (W : WalP P) (k : Nat) (st : Store) (tb : Nat) (ht : tb < st.length) : run P (k + 1) 237 [.ref st.length] (st ++ [.ins 2 [(3, .ref tb), (4, .ref (st.length + 1))], .dct false []]) = .ok .non (st ++ [wkO tb (st.length + 1) x00, .dct false []]) := by
  rw [run_eq W.h237]
  have sf : ∀ (fs : List (Nat × D)) (f : Nat) (d : D), fs.length < 100 → setField (.ref st.length) f d (st ++ [.ins 2 fs, .dct false []]) = .ok .non (st ++ [.ins 2 (putF f d fs), .dct false []]) := fun fs f d h => by
    simp [setField, h, R.grd]
  have s1 := sf [(3, .ref tb), (4, .ref (st.length + 1))] 5 (.int 0) (by simp)
  have s2 := sf [(3, .ref tb), (4, .ref (st.length + 1)), (5, .int 0)] 6 (.int 65536) (by simp)
  have s3 := sf [(3, .ref tb), (4, .ref (st.length + 1)), (5, .int 0), (6, .int 65536)] 7 (.int 0) (by simp)
  simp only [putF] at s1 s2 s3
  simp at s1 s2 s3
  simp [exs, bd237, EVa, place, List.map_cons, List.map_nil, List.cons_append, List.nil_append, Nat.reduceSub, List.replicate_succ, List.replicate_zero, List.getElem?_cons_zero, List.getElem?_cons_succ, Option.join_some, s1, s2, s3]
  rw [gc_ret (by
    rw [pfx_of fun i o ho => ?_]
    by_cases hi : i < st.length
    · rw [List.getElem?_append_left hi] at ho ⊢
      exact ⟨o, ho, .inl rfl⟩
    · have hi2 := (List.getElem?_eq_some_iff.mp ho).1
      simp only [List.length_append, List.length_cons, List.length_nil] at hi2
      have : i = st.length ∨ i = st.length + 1 := by omega
      rcases this with rfl | rfl
      · exact ⟨.ins 2 [(3, .ref tb), (4, .ref (st.length + 1)), (5, .int 0), (6, .int 65536), (7, .int 0)], by simp, .inr (by simp [O.cl]; omega)⟩
      · refine ⟨.dct false [], by simp [List.getElem?_append], .inl ?_⟩
        simpa [List.getElem?_append] using ho.symm) rfl]
  rw [List.take_of_length_le (by simp)]
  simp [wkO, x00]
theorem mk_walk (W : WalP P) (k : Nat) (st : Store) (tb : Nat) (ht : tb < st.length) : mkR P.G (run P (k + 2)) 2 [.ref tb] st = .ok (.ref st.length) (st ++ [wkO tb (st.length + 1) x00, .dct false []]) := by
  have e : run P (k + 2) 236 [.ref st.length, .ref tb] (st ++ [.ins 2 []]) = .ok .non (st ++ [wkO tb (st.length + 1) x00, .dct false []]) := by
    rw [run_eq W.h236]
    have r := restart237a W k st tb ht
    have s1 : setField (.ref st.length) 3 (.ref tb) (st ++ [.ins 2 []]) = .ok .non (st ++ [.ins 2 [(3, .ref tb)]]) := by simp [setField, putF]
    have s2 : setField (.ref st.length) 4 (.ref (st.length + 1)) (st ++ [.ins 2 [(3, .ref tb)], .dct false []]) = .ok .non (st ++ [.ins 2 [(3, .ref tb), (4, .ref (st.length + 1))], .dct false []]) := by simp [setField, putF]
    have mt : methF P.G.meth 1 (.ref st.length) (st ++ [.ins 2 [(3, .ref tb), (4, .ref (st.length + 1))], .dct false []]) = some 237 := by simp [methF, clsOf, W.m1]
    simp [exs, bd236, EVa, place, List.map_cons, List.map_nil, List.cons_append, List.nil_append, Nat.reduceSub, List.replicate_succ, List.replicate_zero, List.getElem?_cons_zero, List.getElem?_cons_succ, Option.join_some, s1, s2, mt, r]
    unfold gc
    have q : pfx (st ++ [O.ins 2 []]).length (st ++ [O.ins 2 []]) (st ++ [wkO tb (st.length + 1) x00, .dct false []]) = false := by
      rw [pfx_one]
      simp [wkO, O.cl, x00, O.beq]
    simp only [q]
    rfl
  simp only [mkR, W.hI, e, R.bind_ok]
theorem need_pairs257 (T : TabP P) (h257 : P.defs.lookup 257 = some ⟨1, 3, bd257⟩) (k : Nat) (ps : List (Int × Int)) (ok : ∀ p ∈ ps, PrOk p) (hl : ps.length ≤ 4000) (st : Store) : run P (k + 3) 257 [psD ps] st = .ok .non st := by
  rw [run_eq h257]
  have q : ¬ (4000 : Int) < (ps.length : Int) := by omega
  simp only [List.length_cons, List.length_nil, List.map_cons, List.map_nil, List.cons_append, List.nil_append, Nat.reduceSub, List.replicate_succ, List.replicate_zero, Nat.reduceAdd, beq_self_eq_true, R.grd_true]
  unfold bd257
  rw [exs_one]
  simp [EVa, place, List.map_cons, List.map_nil, List.cons_append, List.nil_append, Nat.reduceSub, List.replicate_succ, List.replicate_zero, List.getElem?_cons_zero, List.getElem?_cons_succ, Option.join_some, isAny]
  rw [exs_one]
  simp [EVa, place, List.map_cons, List.map_nil, List.cons_append, List.nil_append, Nat.reduceSub, List.replicate_succ, List.replicate_zero, List.getElem?_cons_zero, List.getElem?_cons_succ, Option.join_some, q]
  rw [exs_one, ex_forB]
  simp [EVa, place, List.map_cons, List.map_nil, List.cons_append, List.nil_append, Nat.reduceSub, List.replicate_succ, List.replicate_zero, List.getElem?_cons_zero, List.getElem?_cons_succ, Option.join_some, wkEnum_tup]
  rw [forLoop_chk rfl _ fun d hd => by
    obtain ⟨j, hj⟩ := List.mem_iff_getElem?.mp hd
    obtain ⟨e, he, rfl⟩ := num_get hj
    rw [List.getElem?_map] at he
    obtain ⟨p, hs, rfl⟩ := Option.map_eq_some_iff.mp he
    obtain ⟨a1, a2, a3, a4⟩ := ok p (List.mem_of_getElem? hs)
    exact ⟨_, [some (psD ps), some (.int ((0 + j : Nat) : Int)), some (prD2 p)], asg_two _ _ _ _ _, by simp [exs, EVa, place, List.map_cons, List.map_nil, List.cons_append, List.nil_append, Nat.reduceSub, List.replicate_succ, List.replicate_zero, List.getElem?_cons_zero, List.getElem?_cons_succ, Option.join_some, prD2, is_list_tup T.h2, is_in_int T.h0 T.h1, a1, a2, a3, a4], rfl⟩]
  simp [exs, EVa, place, List.map_cons, List.map_nil, List.cons_append, List.nil_append, Nat.reduceSub, List.replicate_succ, List.replicate_zero, List.getElem?_cons_zero, List.getElem?_cons_succ, Option.join_some, nxt_nx, gc_id]
theorem walk_loop (W : WalP P) (k : Nat) {st : Store} {l tb pl : Nat} {ss : List Sta} {x0 : WS} (h : WkAt st l tb pl ss x0) (tk : TbOk ss) (a b : D) (ρ₀ : Env) (hρ : ρ₀ = [some a, some b, some (.ref l), none, none]) (σ : Store) (hσ : σ.length = st.length) : ∀ (ps : List (Int × Int)) (x : WS), x.Ok ss → KvF x.kv → x.kv.length + ps.length < 16777216 →
    forLoop (exs P.G (run P (k + 3)) (.cons (.ex (.meth (.var 2) 4 (.cons (.var 3) (.cons (.var 4) .nil)))) .nil)) (.tp [.nm 3, .nm 4]) ρ₀ σ [] (ps.map prD2) ρ₀ (wset st l tb pl x) = .ok (.nx, ρ₀) (wset st l tb pl (walkF ss x ps)) := by
  intro ps
  induction ps with
  | nil => intro x _ _ _; rw [List.map_nil, for_nil]; rfl
  | cons p ps ih =>
    intro x ok hf hl
    have h1 : WkAt (wset st l tb pl x) l tb pl ss x := h.wset
    have e1 := step240 W k h1 tk ok hf (by simp at hl; omega) p.1 p.2
    rw [wset_wset h.ne1] at e1
    have m4 := meth4 W k h1
    rw [List.map_cons, for_cons, show watOk [] (wset st l tb pl x) = true from rfl, R.grd_true]
    unfold prD2
    rw [asg_two]
    subst hρ
    simp [exs, EVa, place, List.map_cons, List.map_nil, List.cons_append, List.nil_append, Nat.reduceSub, List.replicate_succ, List.replicate_zero, List.getElem?_cons_zero, List.getElem?_cons_succ, Option.join_some, m4, e1, fnx_nx]
    rw [cutE_len (by rw [wset_len, hσ]; exact Nat.le_refl _)]
    have := ih (x.step ss p.1 p.2) (WS.step_ok tk ok p.1 p.2) (WS.step_f hf p.1 p.2) (by have := WS.step_len (ss := ss) (x := x) (bit := p.1) (c := p.2); simp at hl; omega)
    unfold prD2 at this
    exact this
theorem walked258 (Q : PrsP P) (k : Nat) {st : Store} {tb : Nat} {ss : List Sta} (h : TbAt st tb ss) (tk : TbOk ss) (ps : List (Int × Int)) (ok : ∀ p ∈ ps, PrOk p) (hl : ps.length ≤ 4000) :
    run P (k + 4) 258 [.ref tb, psD ps] st = .ok (.ref st.length) (st ++ [wkO tb (st.length + 1) (walkM ss ps), .dct false (walkM ss ps).kv]) := by
  have W := Q.W
  have ht : tb < st.length := (List.getElem?_eq_some_iff.mp h).1
  have e1 := need_table235 W.T (k + 2) h
  have e2 := need_pairs257 W.T Q.h257 k ps ok hl st
  have e3 := mk_walk W (k + 1) st tb ht
  have hw : WkAt (st ++ [wkO tb (st.length + 1) x00, .dct false []]) st.length tb (st.length + 1) ss x00 := ⟨by simp, by simp [List.getElem?_append, x00], by unfold TbAt; rw [List.getElem?_append_left ht]; exact h⟩
  have hs := hw.same
  have e4 := walk_loop W k hw tk (.ref tb) (psD ps) [some (.ref tb), some (psD ps), some (.ref st.length), none, none] rfl (st ++ [wkO tb (st.length + 1) x00, .dct false []]) rfl ps x00 (x00_ok ss) x00_f (by simp [x00]; omega)
  rw [hs] at e4
  have e5 : wset (st ++ [wkO tb (st.length + 1) x00, .dct false []]) st.length tb (st.length + 1) (walkF ss x00 ps) = st ++ [wkO tb (st.length + 1) (walkM ss ps), .dct false (walkM ss ps).kv] := by
    unfold wset walkM
    simp [List.set_append]
  rw [e5] at e4
  rw [run_eq Q.h258]
  simp only [List.length_cons, List.length_nil, List.map_cons, List.map_nil, List.cons_append, List.nil_append, Nat.reduceSub, List.replicate_succ, List.replicate_zero, Nat.reduceAdd, beq_self_eq_true, R.grd_true]
  unfold bd258
  rw [exs_one]
  simp [EVa, place, List.map_cons, List.map_nil, List.cons_append, List.nil_append, Nat.reduceSub, List.replicate_succ, List.replicate_zero, List.getElem?_cons_zero, List.getElem?_cons_succ, Option.join_some, e1]
  rw [exs_one]
  simp [EVa, place, List.map_cons, List.map_nil, List.cons_append, List.nil_append, Nat.reduceSub, List.replicate_succ, List.replicate_zero, List.getElem?_cons_zero, List.getElem?_cons_succ, Option.join_some, e2]
  rw [exs_one]
  simp [EVa, place, List.map_cons, List.map_nil, List.cons_append, List.nil_append, Nat.reduceSub, List.replicate_succ, List.replicate_zero, List.getElem?_cons_zero, List.getElem?_cons_succ, Option.join_some, e3]
  rw [exs_one, ex_forB]
  simp [EVa, place, List.map_cons, List.map_nil, List.cons_append, List.nil_append, Nat.reduceSub, List.replicate_succ, List.replicate_zero, List.getElem?_cons_zero, List.getElem?_cons_succ, Option.join_some]
  rw [e4]
  simp only [R.bind_ok, nxt_nx]
  rw [exs_one]
  simp [EVa, place, List.map_cons, List.map_nil, List.cons_append, List.nil_append, Nat.reduceSub, List.replicate_succ, List.replicate_zero, List.getElem?_cons_zero, List.getElem?_cons_succ, Option.join_some]
  unfold gc
  have g : (st ++ [wkO tb (st.length + 1) (walkM ss ps), .dct false (walkM ss ps).kv])[st.length]? = some (wkO tb (st.length + 1) (walkM ss ps)) := by simp
  simp [pfx_app, g, O.cl, wkO]
end
structure IntP (P : Prog) : Prop where
  Q : PrsP P
  h27 : P.defs.lookup 27 = some ⟨2, 2, bd27⟩
  h54 : P.defs.lookup 54 = some ⟨2, 3, bd54⟩
  h259 : P.defs.lookup 259 = some ⟨2, 3, bd259⟩
theorem size_lt {n m : Nat} (h : n ≤ m) : (65536 : Int) * 2 ^ n < 2 ^ (m + 17) := by
  have e : (65536 : Int) = 2 ^ 16 := by decide
  rw [e, ← Int.pow_add]
  have h1 : (2 : Nat) ^ (16 + n) < 2 ^ (m + 17) := Nat.pow_lt_pow_right (by decide) (by omega)
  exact_mod_cast h1
theorem size_pos (n : Nat) : (0 : Int) < 65536 * 2 ^ n := by
  have : (0 : Int) < 2 ^ n := Int.pow_pos (by decide)
  omega
theorem wkAt_end {st : Store} {tb : Nat} {ss : List Sta} (h : TbAt st tb ss) (x : WS) : WkAt (st ++ [wkO tb (st.length + 1) x, .dct false x.kv]) st.length tb (st.length + 1) ss x := by
  have ht : tb < st.length := (List.getElem?_eq_some_iff.mp h).1
  exact ⟨by simp, by simp [List.getElem?_append], by unfold TbAt; rw [List.getElem?_append_left ht]; exact h⟩
def ivD (x : WS) : D := .tup [rt (lowN x.low (65536 * 2 ^ x.n)) (lowD x.low (65536 * 2 ^ x.n)), rt (lowN x.w (65536 * 2 ^ x.n)) (lowD x.w (65536 * 2 ^ x.n))]
section
variable {P : Prog}
theorem interval259 (I : IntP P) (k : Nat) {st : Store} {tb : Nat} {ss : List Sta} (h : TbAt st tb ss) (tk : TbOk ss) (ps : List (Int × Int)) (ok : ∀ p ∈ ps, PrOk p) (hl : ps.length ≤ 1400) :
    run P (k + 5) 259 [.ref tb, psD ps] st = .ok (ivD (walkM ss ps)) st := by
  have e1 := walked258 I.Q k h tk ps ok (by omega)
  have hn := walkF_n tk ps (x00_ok ss)
  rw [show walkF ss x00 ps = walkM ss ps from rfl, show x00.n = 0 from rfl] at hn
  have W := wkAt_end h (walkM ss ps)
  obtain ⟨x, hx⟩ : ∃ x, x = walkM ss ps := ⟨_, rfl⟩
  rw [← hx] at e1 hn W ⊢
  have m5 := meth5 I.Q.W k W
  have e2 := size241 I.Q.W (k + 3) W (by omega)
  have sp := size_pos x.n
  have sl := size_lt (n := x.n) (m := 8400) (by omega)
  have r1 := reducedB54 I.h27 I.h54 (k + 2) x.low (65536 * 2 ^ x.n) (st ++ [wkO tb (st.length + 1) x, .dct false x.kv]) (8400 + 17) (by omega) sp sl
  have r2 := reducedB54 I.h27 I.h54 (k + 2) x.w (65536 * 2 ^ x.n) (st ++ [wkO tb (st.length + 1) x, .dct false x.kv]) (8400 + 17) (by omega) sp sl
  rw [run_eq I.h259]
  simp only [List.length_cons, List.length_nil, List.map_cons, List.map_nil, List.cons_append, List.nil_append, Nat.reduceSub, List.replicate_succ, List.replicate_zero, Nat.reduceAdd, beq_self_eq_true, R.grd_true]
  unfold bd259
  rw [exs_one]
  simp [EVa, place, List.map_cons, List.map_nil, List.cons_append, List.nil_append, Nat.reduceSub, List.replicate_succ, List.replicate_zero, List.getElem?_cons_zero, List.getElem?_cons_succ, Option.join_some, e1]
  rw [exs_one]
  unfold ivD
  generalize (65536 : Int) * 2 ^ x.n = Z at *
  simp [EVa, place, List.map_cons, List.map_nil, List.cons_append, List.nil_append, Nat.reduceSub, List.replicate_succ, List.replicate_zero, List.getElem?_cons_zero, List.getElem?_cons_succ, Option.join_some, W.f5, W.f6, m5, e2, r1, r2]
  exact gc_same _ (by simp only [cl_tup, cls_cons, cl_int, cls_nil, Bool.and_self])
theorem doublings260 (Q : PrsP P) (h260 : P.defs.lookup 260 = some ⟨2, 2, bd260⟩) (k : Nat) {st : Store} {tb : Nat} {ss : List Sta} (h : TbAt st tb ss) (tk : TbOk ss) (ps : List (Int × Int)) (ok : ∀ p ∈ ps, PrOk p) (hl : ps.length ≤ 4000) :
    run P (k + 5) 260 [.ref tb, psD ps] st = .ok (.int ((walkM ss ps).n : Nat)) st := by
  have e1 := walked258 Q k h tk ps ok hl
  have W := wkAt_end h (walkM ss ps)
  rw [run_eq h260]
  simp only [List.length_cons, List.length_nil, List.map_cons, List.map_nil, List.cons_append, List.nil_append, Nat.reduceSub, List.replicate_succ, List.replicate_zero, Nat.reduceAdd, beq_self_eq_true, R.grd_true]
  unfold bd260
  rw [exs_one]
  simp [EVa, place, List.map_cons, List.map_nil, List.cons_append, List.nil_append, Nat.reduceSub, List.replicate_succ, List.replicate_zero, List.getElem?_cons_zero, List.getElem?_cons_succ, Option.join_some, e1, W.f7]
  exact gc_same _ rfl
end
end Nz
namespace Nz
/-! ### loops that draw and append -/
theorem pfxR {zs : List Int} {r0 r' : Row} {rest rest' js : Store} {n : Nat} (hn : 2 ≤ n) (h : pfx n rest rest' = true) : pfx n (SR zs r0 rest) (SR zs r' (rest' ++ js)) = true := by
  have : pfx n rest (rest' ++ js) = true := by
    clear hn
    induction rest generalizing rest' with
    | nil => simp [pfx]
    | cons o os ih =>
      cases rest' with
      | nil => simp [pfx] at h
      | cons p ps =>
        simp only [pfx, Bool.and_eq_true] at h
        simp only [List.cons_append, pfx, h.1, ih h.2, Bool.and_self]
  have h0 : decide (0 < n) = true := decide_eq_true (by omega)
  simp [pfx, O.beq_refl, O.cl, D.cls, D.cl, this]
  omega
theorem pfx_setc {n : Nat} {a b : O} (h : O.cl n b = true) : ∀ (s : Store) (i : Nat), pfx n (s.set i a) (s.set i b) = true
  | [], _ => by simp [pfx]
  | o :: s, 0 => by simp [pfx, h, pfx_self]
  | o :: s, i + 1 => by simp [pfx, O.beq_refl, pfx_setc h s i]
theorem cutR {zs : List Int} {r0 r' : Row} {rest js : Store} {i : Nat} {a0 a1 : List D} {ρ : Env} (h1 : envCl (rest.length + 2) ρ = true) (h2 : D.cls (rest.length + 2) a1 = true) :
    cutE (SR zs r0 (rest.set i (.lst a0))) ρ (SR zs r' (rest.set i (.lst a1) ++ js)) = SR zs r' (rest.set i (.lst a1)) := by
  unfold cutE
  have e : (SR zs r0 (rest.set i (.lst a0))).length = rest.length + 2 := by simp
  rw [e, pfxR (by omega) (pfx_setc (a := .lst a0) (b := .lst a1) h2 rest i), h1]
  simp [cutT, List.take_append]
/-- a new list alone is handed on -/
theorem gcRl {zs : List Int} {r r' : Row} {rest js : Store} {l : Nat} {ds : List D} (hl : js[l]? = some (.lst ds)) (hc : D.cls (rest.length + 2) ds = true) :
    gc (SR zs r rest) (.ok (.ref (rest.length + l + 2)) (SR zs r' (rest ++ js))) = .ok (.ref (rest.length + 2)) (SR zs r' (rest ++ [.lst ds])) := by
  unfold gc
  have q : pfx (rest.length + 1 + 1) (SR zs r rest) (SR zs r' (rest ++ js)) = true := pfxR (by omega) (pfx_self _)
  have g : (rest ++ js)[rest.length + l]? = some (.lst ds) := by
    rw [List.getElem?_append_right (by omega)]
    simpa using hl
  simp [q, g, O.cl, hc, show ¬ (rest.length + l < rest.length) by omega]
theorem forLoop_accR {body : Env → Store → R (Fl × Env)} {t : T} {ρ₀ : Env} {zs : List Int} {rest : Store} {i : Nat} {wat : List (Nat × O)} {r0 : Row} {a0 : List D} (hc : envCl (rest.length + 2) ρ₀ = true) (hw : ∀ r a, watOk wat (SR zs r (rest.set i (.lst a))) = true) :
    ∀ (its : List D) (W : Nat → D → Prop) (r : Row) (acc : List D), D.cls (rest.length + 2) acc = true → acc.length + its.length < 1000000 →
    (∀ (j : Nat) d, its[j]? = some d → ∀ r acc, acc.length < 1000000 → ∃ ρ1 ρ2 y r' js, T.asg t d ρ₀ = some ρ1 ∧ body ρ1 (SR zs r (rest.set i (.lst acc))) = .ok (.nx, ρ2) (SR zs r' (rest.set i (.lst (acc ++ [y])) ++ js)) ∧ mask ρ₀ ρ2 = ρ₀ ∧ D.cl (rest.length + 2) y = true ∧ W j y) →
    ∃ ys r', forLoop body t ρ₀ (SR zs r0 (rest.set i (.lst a0))) wat its ρ₀ (SR zs r (rest.set i (.lst acc))) = .ok (.nx, ρ₀) (SR zs r' (rest.set i (.lst (acc ++ ys)))) ∧ ys.length = its.length ∧ D.cls (rest.length + 2) ys = true ∧ ∀ (j : Nat) y, ys[j]? = some y → W j y := by
  intro its
  induction its with
  | nil => intro W r acc _ _ _; exact ⟨[], r, by rw [for_nil, hw, R.grd_true, List.append_nil], rfl, rfl, fun j y h => by simp at h⟩
  | cons d ds ih =>
    intro W r acc ha hb hs
    obtain ⟨ρ1, ρ2, y, r1, js, e1, e2, e3, e4, e5⟩ := hs 0 d rfl r acc (by omega)
    have ha2 : D.cls (rest.length + 2) (acc ++ [y]) = true := by
      have key : ∀ (l : List D), D.cls (rest.length + 2) l = true → D.cls (rest.length + 2) (l ++ [y]) = true := by
        intro l
        induction l with
        | nil => intro _; simp [e4]
        | cons a l il => intro h; simp only [List.cons_append, cls_cons, Bool.and_eq_true] at h ⊢; exact ⟨h.1, il h.2⟩
      exact key acc ha
    obtain ⟨ys, r2, f1, f2, f3, f4⟩ := ih (fun j => W (j + 1)) r1 (acc ++ [y]) ha2 (by simp at hb ⊢; omega) fun j d hd => hs (j + 1) d (by simpa using hd)
    refine ⟨y :: ys, r2, ?_, by simp [f2], by simp [e4, f3], fun j z hz => ?_⟩
    · rw [for_cons, hw, R.grd_true, e1]
      simp only [e2, R.bind_ok, fnx_nx, e3]
      rw [cutR hc ha2, f1, List.append_assoc]
      rfl
    · match j, hz with
      | 0, hz => cases hz; exact e5
      | j + 1, hz => exact f4 j z (by simpa using hz)
/-- a law's turns -/
theorem law_turns {G : Ctx} {call : Nat → List D → Store → R D} {ns : List Int} {body : Ss} {t : Nat} {ρ₀ : Env} (hc : envCl 2 ρ₀ = true) (hb : ∀ (i : Int) (r : Row), ∃ ρ2 r' js, exs G call body (ρ₀.set t (some (.int i))) (SR ns r []) = .ok (.nx, ρ2) (SR ns r' js) ∧ mask ρ₀ ρ2 = ρ₀) (r0 : Row) :
    ∀ (n : Nat) (lo : Int) (r : Row), ∃ r', forLoop (exs G call body) (.nm t) ρ₀ (SR ns r0 []) [] (rangeL lo n) ρ₀ (SR ns r []) = .ok (.nx, ρ₀) (SR ns r' []) := by
  have key : ∀ (its : List D), (∀ d ∈ its, ∃ i, d = .int i) → ∀ r : Row, ∃ r', forLoop (exs G call body) (.nm t) ρ₀ (SR ns r0 []) [] its ρ₀ (SR ns r []) = .ok (.nx, ρ₀) (SR ns r' []) := by
    intro its
    induction its with
    | nil => intro _ r; exact ⟨r, by rw [for_nil]; rfl⟩
    | cons d ds ih =>
      intro h r
      obtain ⟨i, rfl⟩ := h d (List.mem_cons_self ..)
      obtain ⟨ρ2, r1, js, e1, e2⟩ := hb i r
      obtain ⟨r2, e3⟩ := ih (fun d hd => h d (List.mem_cons_of_mem _ hd)) r1
      refine ⟨r2, ?_⟩
      rw [for_cons, show watOk [] (SR ns r []) = true from rfl, R.grd_true, asg_nm]
      simp only [e1, R.bind_ok, fnx_nx, e2]
      rw [show cutE (SR ns r0 []) ρ₀ (SR ns r1 js) = SR ns r1 [] from by
        have e : (SR ns r0 []).length = 2 := rfl
        have q : pfx 2 (SR ns r0 []) (SR ns r1 js) = true := by simp [pfx, O.beq_refl, O.cl]
        unfold cutE
        rw [e, q, hc]
        simp [cutT], e3]
  intro n lo r
  exact key _ (fun d hd => by obtain ⟨j, hj⟩ := List.mem_iff_getElem?.mp hd; exact ⟨_, (rangeL_get hj).2⟩) r
/-! ### drawn tables and pairs -/
def shs : List Int := [32, 28, 24, 21, 18, 16, 14, 12, 10, 9, 8, 7, 6, 5, 4, 3, 2, 1]
theorem shs_rng : ∀ j < 18, 1 ≤ gi shs (j : Nat) ∧ gi shs (j : Nat) ≤ 32 := by decide
theorem biInt_bl (b : Bool) (st : Store) : biInt (.bl b) st = .ok (.int (if b then 1 else 0)) st := (rfl)
theorem int_list {n : Nat} : ∀ {xs : List D} {W : Nat → D → Prop} {lo hi : Int}, (∀ (j : Nat) x, xs[j]? = some x → ∃ i, x = .int i ∧ lo ≤ i ∧ i ≤ hi) → ∃ is : List Int, xs = is.map .int ∧ ∀ i ∈ is, lo ≤ i ∧ i ≤ hi
  | [], _, _, _, _ => ⟨[], rfl, fun _ h => by simp at h⟩
  | x :: xs, W, lo, hi, h => by
    obtain ⟨is, rfl, h2⟩ := int_list (n := n) (W := W) (xs := xs) fun j x hx => h (j + 1) x (by simpa using hx)
    obtain ⟨i, rfl, h3⟩ := h 0 x rfl
    exact ⟨i :: is, rfl, fun k hk => by rcases List.mem_cons.mp hk with rfl | hk; exact h3; exact h2 k hk⟩
structure DrwP (P : Prog) : Prop where
  h10 : P.defs.lookup 10 = some ⟨2, 4, bd10⟩
  h11 : P.defs.lookup 11 = some ⟨2, 2, bd11⟩
section
variable {P : Prog} (Q : DrwP P)
include Q
theorem bits251 (h251 : P.defs.lookup 251 = some ⟨2, 4, bd251⟩) (k : Nat) (zs : List Int) (r : Row) (rest : Store) (n : Nat) (hn : n ≤ 100000) : ∃ (bs : List Int) (r' : Row), bs.length = n ∧ (∀ b ∈ bs, (0 : Int) ≤ b ∧ b ≤ 1) ∧ run P (k + 2) 251 [.ref 1, .int n] (SR zs r rest) = .ok (.ref (rest.length + 2)) (SR zs r' (rest ++ [.lst (bs.map .int)])) := by
  rw [run_eq h251]
  have e1 := tk Q.h10 zs r rest 6 k (by omega) (by omega)
  have w1 := Row.val_lo (zs := zs) (r := r) (m := 6) (by omega)
  have w2 := Row.val_hi (zs := zs) (r := r) (m := 6) (by omega)
  obtain ⟨way, hw⟩ : ∃ w, w = r.val zs 6 := ⟨_, rfl⟩
  obtain ⟨r1, hr⟩ : ∃ w, w = r.nx zs 6 := ⟨_, rfl⟩
  rw [← hw, ← hr] at e1
  rw [← hw] at w1 w2
  have hr0 : rngOk (n : Int) = true := rng_ok (by omega) (by omega)
  have hk1 : (-9223372036854775808 : Int) ≤ n ∧ (n : Int) < 9223372036854775808 := by omega
  simp only [List.length_cons, List.length_nil, List.map_cons, List.map_nil, List.cons_append, List.nil_append, Nat.reduceSub, List.replicate_succ, List.replicate_zero, Nat.reduceAdd, beq_self_eq_true, R.grd_true]
  unfold bd251
  rw [exs_one]
  simp [EVa, place, List.map_cons, List.map_nil, List.cons_append, List.nil_append, Nat.reduceSub, List.replicate_succ, List.replicate_zero, List.getElem?_cons_zero, List.getElem?_cons_succ, Option.join_some, e1]
  have comp : ∀ (e : E), (∀ j : Nat, j < n → ∀ r, ∃ b r', (0 : Int) ≤ b ∧ b ≤ 1 ∧ ev P.G (run P (k + 1)) e [some (.ref 1), some (.int n), some (.int way), some (.int j)] (SR zs r rest) = .ok (.int b) (SR zs r' rest)) →
      ∃ (bs : List Int) (r' : Row), bs.length = n ∧ (∀ b ∈ bs, (0 : Int) ≤ b ∧ b ≤ 1) ∧ ev P.G (run P (k + 1)) (.comp [3] e (.nm 3) (.rng1 (.var 1)) .none) [some (.ref 1), some (.int n), some (.int way), none] (SR zs r1 rest) = .ok (.ref (rest.length + 2)) (SR zs r' (rest ++ [.lst (bs.map .int)])) := fun e he => by
    obtain ⟨xs, r', h1, h2, h3, h4⟩ := comp_row (G := P.G) (call := run P (k + 1)) (own := [3]) (e := e) (t := .nm 3) (i := .rng1 (.var 1)) (ρ := [some (.ref 1), some (.int n), some (.int way), none]) (st := SR zs r1 rest) (zs := zs) (rest := rest) (r := r1) (w := ⟨rangeL 0 n, []⟩) (fun _ x => ∃ i, x = .int i ∧ 0 ≤ i ∧ i ≤ 1) (by simp [EVa, place, List.map_cons, List.map_nil, List.cons_append, List.nil_append, Nat.reduceSub, List.replicate_succ, List.replicate_zero, List.getElem?_cons_zero, List.getElem?_cons_succ, Option.join_some, rng_0, hr0]) (fun r => rfl) (by simp [rangeL_len]; omega) (fun j d hd r => by
      obtain ⟨hj, rfl⟩ := rangeL_nat hd
      obtain ⟨b, r', b1, b2, eb⟩ := he j hj r
      exact ⟨.int b, r', [], ⟨b, rfl, b1, b2⟩, rfl, by rw [List.append_nil]; simp [stp, forget, asg_nm, evOc_none, eb]⟩)
    obtain ⟨is, rfl, h5⟩ := int_list (n := 0) (W := fun _ _ => True) (fun j x hx => h1 j x hx)
    exact ⟨is, r', by simpa [rangeL_len] using h2, h5, h4⟩
  rw [exs_one]
  by_cases c1 : way < 2
  · refine ⟨List.replicate n way, by simp, fun b hb => by rw [List.eq_of_mem_replicate hb]; omega, r1, ?_⟩
    have e3 : reps n [D.int way] = (List.replicate n way).map .int := by
      unfold reps
      clear hn hr0 hk1 comp
      induction n with
      | zero => rfl
      | succ n ih => rw [List.replicate_succ, List.flatten_cons, ih, List.replicate_succ, List.map_cons]; rfl
    have e2 : binop .mul (.ref (rest.length + 2)) (.int (n : Int)) (SR zs r1 (rest ++ [.lst [.int way]])) = .ok (.ref (rest.length + 3)) (SR zs r1 (rest ++ [.lst [.int way], .lst ((List.replicate n way).map .int)])) := by
      have e4 : decide (-9223372036854775808 ≤ (n : Int) ∧ (n : Int) < 9223372036854775808) = true := decide_eq_true hk1
      have g : (SR zs r1 (rest ++ [.lst [.int way]]))[rest.length + 2]? = some (.lst [.int way]) := by simp
      simp only [binop, g, e4, R.grd_true, Int.toNat_natCast, e3]
      rw [newL_ok' (by simp; omega)]
      simp
    have g := gcRl (zs := zs) (r := r) (r' := r1) (rest := rest) (js := [.lst [.int way], .lst ((List.replicate n way).map .int)]) (l := 1) rfl (cls_int _)
    simp [EVa, place, List.map_cons, List.map_nil, List.cons_append, List.nil_append, Nat.reduceSub, List.replicate_succ, List.replicate_zero, List.getElem?_cons_zero, List.getElem?_cons_succ, Option.join_some, c1, exs_one, e2]
    simpa using g
  · have fin : ∀ (bs : List Int) (r' : Row), gc (SR zs r rest) (.ok (.ref (rest.length + 2)) (SR zs r' (rest ++ [.lst (bs.map .int)]))) = .ok (.ref (rest.length + 2)) (SR zs r' (rest ++ [.lst (bs.map .int)])) := fun bs r' => by
      have g := gcRl (zs := zs) (r := r) (r' := r') (rest := rest) (js := [.lst (bs.map .int)]) (l := 0) rfl (cls_int _)
      simpa using g
    simp [EVa, place, List.map_cons, List.map_nil, List.cons_append, List.nil_append, Nat.reduceSub, List.replicate_succ, List.replicate_zero, List.getElem?_cons_zero, List.getElem?_cons_succ, Option.join_some, c1, exs_nil]
    rw [exs_one]
    by_cases c2 : way = 2
    · obtain ⟨bs, r', h1, h2, h3⟩ := comp (.bin .mod (.bi .int (.cons (.var 3) .nil)) (.con (.int 2))) fun j hj r => ⟨(j : Int) % 2, r, by omega, by omega, by simp [EVa, place, List.map_cons, List.map_nil, List.cons_append, List.nil_append, Nat.reduceSub, List.replicate_succ, List.replicate_zero, List.getElem?_cons_zero, List.getElem?_cons_succ, Option.join_some]⟩
      refine ⟨bs, h1, h2, r', ?_⟩
      rw [c2] at h3
      simp [EVa, place, List.map_cons, List.map_nil, List.cons_append, List.nil_append, Nat.reduceSub, List.replicate_succ, List.replicate_zero, List.getElem?_cons_zero, List.getElem?_cons_succ, Option.join_some, c2, exs_one]
      rw [h3]
      simp [EVa, place, List.map_cons, List.map_nil, List.cons_append, List.nil_append, Nat.reduceSub, List.replicate_succ, List.replicate_zero, List.getElem?_cons_zero, List.getElem?_cons_succ, Option.join_some, fin]
    · simp [EVa, place, List.map_cons, List.map_nil, List.cons_append, List.nil_append, Nat.reduceSub, List.replicate_succ, List.replicate_zero, List.getElem?_cons_zero, List.getElem?_cons_succ, Option.join_some, c2, exs_nil]
      rw [exs_one]
      by_cases c3 : way = 3
      · obtain ⟨bs, r', h1, h2, h3⟩ := comp (.bi .int (.cons (.cmp .eq (.call 10 (.cons (.var 0) (.cons (.con (.int 7)) .nil))) (.con (.int 0))) .nil)) fun j hj r => by
          have e := tk Q.h10 zs r rest 7 k (by omega) (by omega)
          refine ⟨if r.val zs 7 = 0 then 1 else 0, r.nx zs 7, by split <;> omega, by split <;> omega, ?_⟩
          simp [EVa, place, List.map_cons, List.map_nil, List.cons_append, List.nil_append, Nat.reduceSub, List.replicate_succ, List.replicate_zero, List.getElem?_cons_zero, List.getElem?_cons_succ, Option.join_some, e, biInt_bl]
        refine ⟨bs, h1, h2, r', ?_⟩
        rw [c3] at h3
        simp [EVa, place, List.map_cons, List.map_nil, List.cons_append, List.nil_append, Nat.reduceSub, List.replicate_succ, List.replicate_zero, List.getElem?_cons_zero, List.getElem?_cons_succ, Option.join_some, c3, exs_one]
        rw [h3]
        simp [EVa, place, List.map_cons, List.map_nil, List.cons_append, List.nil_append, Nat.reduceSub, List.replicate_succ, List.replicate_zero, List.getElem?_cons_zero, List.getElem?_cons_succ, Option.join_some, fin]
      · obtain ⟨bs, r', h1, h2, h3⟩ := comp (.call 10 (.cons (.var 0) (.cons (.con (.int 2)) .nil))) fun j hj r => by
          have e := tk Q.h10 zs r rest 2 k (by omega) (by omega)
          have a := Row.val_lo (zs := zs) (r := r) (m := 2) (by omega)
          have b := Row.val_hi (zs := zs) (r := r) (m := 2) (by omega)
          exact ⟨r.val zs 2, r.nx zs 2, a, by omega, by simp [EVa, place, List.map_cons, List.map_nil, List.cons_append, List.nil_append, Nat.reduceSub, List.replicate_succ, List.replicate_zero, List.getElem?_cons_zero, List.getElem?_cons_succ, Option.join_some, e]⟩
        refine ⟨bs, h1, h2, r', ?_⟩
        simp [EVa, place, List.map_cons, List.map_nil, List.cons_append, List.nil_append, Nat.reduceSub, List.replicate_succ, List.replicate_zero, List.getElem?_cons_zero, List.getElem?_cons_succ, Option.join_some, c3, exs_nil]
        rw [exs_one]
        simp only [ex_ret, h3]
        simp [EVa, place, List.map_cons, List.map_nil, List.cons_append, List.nil_append, Nat.reduceSub, List.replicate_succ, List.replicate_zero, List.getElem?_cons_zero, List.getElem?_cons_succ, Option.join_some, fin]
end
end Nz
namespace Nz
theorem fm_some {α β : Type} (f : α → β) (l : List α) : l.filterMap (fun a => some (f a)) = l.map f := by
  induction l with
  | nil => rfl
  | cons a l ih => simp [ih]
theorem comp_rng {G : Ctx} {call : Nat → List D → Store → R D} {own : List Nat} {e : E} {t : T} {i : Iw} {ρ : Env} {st s : Store} {n : Nat} (g : Nat → D) (h : evi G call i ρ st = .ok ⟨rangeL 0 n, []⟩ s) (hs : ∀ j, j < n → stp G call t (forget ρ own) .none e (.int (j : Nat)) s = .ok (some (g j)) s) :
    ev G call (.comp own e t i .none) ρ st = newL ((List.range n).map g) s := by
  rw [comp_pure (fun d => match d with
    | .int j => some (g j.toNat)
    | _ => none) h rfl fun d hd => by
      obtain ⟨i, hi⟩ := List.mem_iff_getElem?.mp hd
      obtain ⟨h1, rfl⟩ := rangeL_nat hi
      rw [hs i h1]; rfl]
  congr 1
  unfold rangeL
  rw [List.filterMap_map]
  simp only [Function.comp_def, Int.zero_add, Int.toNat_natCast, fm_some]
section
variable {P : Prog} (Q : DrwP P)
include Q
theorem contexts252 (h252 : P.defs.lookup 252 = some ⟨2, 5, bd252⟩) (k : Nat) (zs : List Int) (r : Row) (rest : Store) (n : Nat) (hn : n ≤ 100000) : ∃ (cs : List Int) (r' : Row), cs.length = n ∧ (∀ c ∈ cs, (0 : Int) ≤ c ∧ c ≤ 31) ∧ run P (k + 3) 252 [.ref 1, .int n] (SR zs r rest) = .ok (.ref (rest.length + 2)) (SR zs r' (rest ++ [.lst (cs.map .int)])) := by
  rw [run_eq h252]
  have e1 := pk Q.h10 Q.h11 zs r (rest ++ [.lst [.int 1, .int 2, .int 5, .int 32]]) rest.length [.int 1, .int 2, .int 5, .int 32] k (by simp) (by simp) (by simp) (by simp)
  have hm := pk_mem (zs := zs) (r := r) (ds := [.int 1, .int 2, .int 5, .int 32]) (by simp)
  obtain ⟨d, hd⟩ : ∃ d, d = ([.int 1, .int 2, .int 5, .int 32] : List D).getD (r.val zs ([.int 1, .int 2, .int 5, .int 32] : List D).length).toNat .non := ⟨_, rfl⟩
  rw [← hd] at e1 hm
  obtain ⟨m, rfl, hm⟩ : ∃ m : Int, d = .int m ∧ (m = 1 ∨ m = 2 ∨ m = 5 ∨ m = 32) := by
    simp only [List.mem_cons, List.not_mem_nil, or_false] at hm
    rcases hm with h | h | h | h
    · exact ⟨1, h, by omega⟩
    · exact ⟨2, h, by omega⟩
    · exact ⟨5, h, by omega⟩
    · exact ⟨32, h, by omega⟩
  obtain ⟨r1, hr1⟩ : ∃ r1, r1 = r.nx zs (([.int 1, .int 2, .int 5, .int 32] : List D).length) := ⟨_, rfl⟩
  rw [← hr1] at e1
  have e2 := tk Q.h10 zs r1 (rest ++ [.lst [.int 1, .int 2, .int 5, .int 32]]) (33 - m) (k + 1) (by omega) (by omega)
  have f1 := Row.val_lo (zs := zs) (r := r1) (m := 33 - m) (by omega)
  have f2 := Row.val_hi (zs := zs) (r := r1) (m := 33 - m) (by omega)
  obtain ⟨f, hf⟩ : ∃ f, f = r1.val zs (33 - m) := ⟨_, rfl⟩
  obtain ⟨r2, hr2⟩ : ∃ r2, r2 = r1.nx zs (33 - m) := ⟨_, rfl⟩
  rw [← hf, ← hr2] at e2
  rw [← hf] at f1 f2
  have hr0 : rngOk (n : Int) = true := rng_ok (by omega) (by omega)
  obtain ⟨xs, r', h1, h2, h3, h4⟩ := comp_row (G := P.G) (call := run P (k + 2)) (own := [4]) (e := .bin .add (.var 3) (.call 10 (.cons (.var 0) (.cons (.var 2) .nil)))) (t := .nm 4) (i := .rng1 (.var 1)) (ρ := [some (.ref 1), some (.int n), some (.int m), some (.int f), none]) (st := SR zs r2 (rest ++ [.lst [.int 1, .int 2, .int 5, .int 32]])) (zs := zs) (rest := rest ++ [.lst [.int 1, .int 2, .int 5, .int 32]]) (r := r2) (w := ⟨rangeL 0 n, []⟩) (fun _ x => ∃ i, x = .int i ∧ 0 ≤ i ∧ i ≤ 31) (by simp [EVa, place, List.map_cons, List.map_nil, List.cons_append, List.nil_append, Nat.reduceSub, List.replicate_succ, List.replicate_zero, List.getElem?_cons_zero, List.getElem?_cons_succ, Option.join_some, rng_0, hr0]) (fun r => rfl) (by simp [rangeL_len]; omega) (fun j d hd r => by
      obtain ⟨hj, rfl⟩ := rangeL_nat hd
      have e := tk Q.h10 zs r (rest ++ [.lst [.int 1, .int 2, .int 5, .int 32]]) m (k + 1) (by omega) (by omega)
      have a := Row.val_lo (zs := zs) (r := r) (m := m) (by omega)
      have b := Row.val_hi (zs := zs) (r := r) (m := m) (by omega)
      exact ⟨.int (f + r.val zs m), r.nx zs m, [], ⟨_, rfl, by omega, by omega⟩, rfl, by rw [List.append_nil]; simp [stp, forget, EVa, place, List.map_cons, List.map_nil, List.cons_append, List.nil_append, Nat.reduceSub, List.replicate_succ, List.replicate_zero, List.getElem?_cons_zero, List.getElem?_cons_succ, Option.join_some, e]⟩)
  obtain ⟨is, rfl, h5⟩ := int_list (n := 0) (W := fun _ _ => True) (fun j x hx => h1 j x hx)
  refine ⟨is, r', by simpa [rangeL_len] using h2, h5, ?_⟩
  simp only [List.length_cons, List.length_nil, List.map_cons, List.map_nil, List.cons_append, List.nil_append, Nat.reduceSub, List.replicate_succ, List.replicate_zero, Nat.reduceAdd, beq_self_eq_true, R.grd_true]
  unfold bd252
  rw [exs_one]
  simp [EVa, place, List.map_cons, List.map_nil, List.cons_append, List.nil_append, Nat.reduceSub, List.replicate_succ, List.replicate_zero, List.getElem?_cons_zero, List.getElem?_cons_succ, Option.join_some] at e1 e2 h4 ⊢
  rw [e1]
  simp [EVa, place, List.map_cons, List.map_nil, List.cons_append, List.nil_append, Nat.reduceSub, List.replicate_succ, List.replicate_zero, List.getElem?_cons_zero, List.getElem?_cons_succ, Option.join_some]
  rw [exs_one]
  simp [EVa, place, List.map_cons, List.map_nil, List.cons_append, List.nil_append, Nat.reduceSub, List.replicate_succ, List.replicate_zero, List.getElem?_cons_zero, List.getElem?_cons_succ, Option.join_some, e2]
  rw [exs_one, ex_ret, h4]
  simp [EVa, place, List.map_cons, List.map_nil, List.cons_append, List.nil_append, Nat.reduceSub, List.replicate_succ, List.replicate_zero, List.getElem?_cons_zero, List.getElem?_cons_succ, Option.join_some]
  have g := gcRl (zs := zs) (r := r) (r' := r') (rest := rest) (js := [.lst [.int 1, .int 2, .int 5, .int 32], .lst (is.map .int)]) (l := 1) rfl (cls_int _)
  simpa using g
theorem pairs253 (h251 : P.defs.lookup 251 = some ⟨2, 4, bd251⟩) (h252 : P.defs.lookup 252 = some ⟨2, 5, bd252⟩) (h253 : P.defs.lookup 253 = some ⟨2, 5, bd253⟩) (k : Nat) (zs : List Int) (r : Row) (rest : Store) (n : Nat) (hn : n ≤ 100000) :
    ∃ (ps : List (Int × Int)) (r' : Row), ps.length = n ∧ (∀ p ∈ ps, PrOk p) ∧ run P (k + 4) 253 [.ref 1, .int n] (SR zs r rest) = .ok (psD ps) (SR zs r' rest) := by
  rw [run_eq h253]
  obtain ⟨bs, r1, b1, b2, e1⟩ := bits251 Q h251 (k + 1) zs r rest n hn
  obtain ⟨cs, r2, c1, c2, e2⟩ := contexts252 Q h252 k zs r1 (rest ++ [.lst (bs.map .int)]) n hn
  have hr0 : rngOk (n : Int) = true := rng_ok (by omega) (by omega)
  obtain ⟨ps, hps⟩ : ∃ ps, ps = (List.range n).map fun j : Nat => (gi bs j, gi cs j) := ⟨_, rfl⟩
  refine ⟨ps, r2, by simp [hps], fun p hp => ?_, ?_⟩
  · rw [hps] at hp
    obtain ⟨j, hj, rfl⟩ := List.mem_map.mp hp
    have hj := List.mem_range.mp hj
    have m : ∀ (xs : List Int), j < xs.length → gi xs (j : Nat) ∈ xs := fun xs h => by
      unfold gi
      rw [Int.toNat_natCast, List.getD_eq_getElem?_getD, List.getElem?_eq_getElem h]
      exact List.getElem_mem h
    have x1 := b2 _ (m bs (by omega))
    have x2 := c2 _ (m cs (by omega))
    exact ⟨x1.1, x1.2, x2.1, x2.2⟩
  · have g1 : (SR zs r2 (rest ++ [.lst (bs.map .int), .lst (cs.map .int)]))[rest.length + 2]? = some (.lst (bs.map .int)) := by simp
    have g2 : (SR zs r2 (rest ++ [.lst (bs.map .int), .lst (cs.map .int)]))[rest.length + 3]? = some (.lst (cs.map .int)) := by simp [List.getElem?_append]
    have ec := comp_rng (s := SR zs r2 (rest ++ [.lst (bs.map .int), .lst (cs.map .int)])) (G := P.G) (call := run P (k + 3)) (own := [4]) (e := .tup (.cons (.idx (.var 2) (.var 4)) (.cons (.idx (.var 3) (.var 4)) .nil))) (t := .nm 4) (i := .rng1 (.var 1)) (ρ := [some (.ref 1), some (.int n), some (.ref (rest.length + 2)), some (.ref (rest.length + 3)), none]) (st := SR zs r2 (rest ++ [.lst (bs.map .int), .lst (cs.map .int)])) (n := n) (fun j => prD2 (gi bs j, gi cs j)) (by simp [EVa, place, List.map_cons, List.map_nil, List.cons_append, List.nil_append, Nat.reduceSub, List.replicate_succ, List.replicate_zero, List.getElem?_cons_zero, List.getElem?_cons_succ, Option.join_some, rng_0, hr0]) (fun j hj => by
      have i1 := index_lst (lstOf_lst g1) (gi_get (xs := bs) (i := (j : Nat)) (by omega) (by omega))
      have i2 := index_lst (lstOf_lst g2) (gi_get (xs := cs) (i := (j : Nat)) (by omega) (by omega))
      simp [stp, forget, EVa, place, List.map_cons, List.map_nil, List.cons_append, List.nil_append, Nat.reduceSub, List.replicate_succ, List.replicate_zero, List.getElem?_cons_zero, List.getElem?_cons_succ, Option.join_some, i1, i2, prD2])
    rw [newL_ok' (by simp; omega)] at ec
    have hq : (List.range n).map (fun j : Nat => prD2 (gi bs j, gi cs j)) = ps.map prD2 := by rw [hps, List.map_map]; rfl
    rw [hq] at ec
    simp only [List.length_cons, List.length_nil, List.map_cons, List.map_nil, List.cons_append, List.nil_append, Nat.reduceSub, List.replicate_succ, List.replicate_zero, Nat.reduceAdd, beq_self_eq_true, R.grd_true]
    unfold bd253
    rw [exs_one]
    simp [EVa, place, List.map_cons, List.map_nil, List.cons_append, List.nil_append, Nat.reduceSub, List.replicate_succ, List.replicate_zero, List.getElem?_cons_zero, List.getElem?_cons_succ, Option.join_some] at e1 e2 ec ⊢
    rw [e1]
    simp [EVa, place, List.map_cons, List.map_nil, List.cons_append, List.nil_append, Nat.reduceSub, List.replicate_succ, List.replicate_zero, List.getElem?_cons_zero, List.getElem?_cons_succ, Option.join_some, e2]
    rw [exs_one]
    have mk : biMkt (.ref (rest.length + 4)) (SR zs r2 (rest ++ [.lst (bs.map .int), .lst (cs.map .int), .lst (ps.map prD2)])) = .ok (psD ps) (SR zs r2 (rest ++ [.lst (bs.map .int), .lst (cs.map .int), .lst (ps.map prD2)])) := by
      rw [mkt_seq (ds := ps.map prD2) (by simp [seqOf, List.getElem?_append]), newT_ok' (by rw [hps]; simp; omega)]
    rw [ex_ret, ev_bi, evs_cons, ec]
    simp [EVa, place, List.map_cons, List.map_nil, List.cons_append, List.nil_append, Nat.reduceSub, List.replicate_succ, List.replicate_zero, List.getElem?_cons_zero, List.getElem?_cons_succ, Option.join_some, mk]
    have cl : D.cl (rest.length + 2) (psD ps) = true := by
      rw [cl_tup]
      clear hps ec mk hq
      induction ps with
      | nil => rfl
      | cons p ps ih => simp [prD2, ih]
    exact gcR _ cl
theorem states229 (h229 : P.defs.lookup 229 = some ⟨1, 11, bd229⟩) (k : Nat) (zs : List Int) (r : Row) (rest : Store) :
    ∃ (ss : List Sta) (r' : Row), TbOk ss ∧ run P (k + 3) 229 [.ref 1] (SR zs r rest) = .ok (tbD ss) (SR zs r' rest) := by
  rw [run_eq h229]
  have e1 := tk Q.h10 zs r rest 4 (k + 1) (by omega) (by omega)
  have w1 := Row.val_lo (zs := zs) (r := r) (m := 4) (by omega)
  obtain ⟨way, hw⟩ : ∃ w, w = r.val zs 4 := ⟨_, rfl⟩
  obtain ⟨r1, hr1⟩ : ∃ w, w = r.nx zs 4 := ⟨_, rfl⟩
  rw [← hw, ← hr1] at e1
  have e2 := tk Q.h10 zs r1 rest 4 (k + 1) (by omega) (by omega)
  have a1 := Row.val_lo (zs := zs) (r := r1) (m := 4) (by omega)
  have a2 := Row.val_hi (zs := zs) (r := r1) (m := 4) (by omega)
  obtain ⟨A, hA⟩ : ∃ w, w = r1.val zs 4 := ⟨_, rfl⟩
  obtain ⟨r2, hr2⟩ : ∃ w, w = r1.nx zs 4 := ⟨_, rfl⟩
  rw [← hA, ← hr2] at e2
  rw [← hA] at a1 a2
  have e3 := tk Q.h10 zs r2 rest 32 (k + 1) (by omega) (by omega)
  have b1 := Row.val_lo (zs := zs) (r := r2) (m := 32) (by omega)
  have b2 := Row.val_hi (zs := zs) (r := r2) (m := 32) (by omega)
  obtain ⟨B, hB⟩ : ∃ w, w = r2.val zs 32 := ⟨_, rfl⟩
  obtain ⟨r3, hr3⟩ : ∃ w, w = r2.nx zs 32 := ⟨_, rfl⟩
  rw [← hB, ← hr3] at e3
  rw [← hB] at b1 b2
  have e4 := pk Q.h10 Q.h11 zs r3 (rest ++ [.lst [.int 0, .int A, .int B]]) rest.length [.int 0, .int A, .int B] k (by simp) (by simp) (by simp) (by simp)
  have hm := pk_mem (zs := zs) (r := r3) (ds := [.int 0, .int A, .int B]) (by simp)
  obtain ⟨d, hd⟩ : ∃ d, d = ([.int 0, .int A, .int B] : List D).getD (r3.val zs ([.int 0, .int A, .int B] : List D).length).toNat .non := ⟨_, rfl⟩
  rw [← hd] at e4 hm
  obtain ⟨m, rfl, m1, m2⟩ : ∃ m : Nat, d = .int (m : Nat) ∧ 0 ≤ m ∧ m ≤ 31 := by
    simp only [List.mem_cons, List.not_mem_nil, or_false] at hm
    rcases hm with h | h | h
    · exact ⟨0, h, by omega, by omega⟩
    · exact ⟨A.toNat, by rw [h, Int.toNat_of_nonneg a1], by omega, by omega⟩
    · exact ⟨B.toNat, by rw [h, Int.toNat_of_nonneg b1], by omega, by omega⟩
  obtain ⟨r4, hr4⟩ : ∃ w, w = r3.nx zs (([.int 0, .int A, .int B] : List D).length) := ⟨_, rfl⟩
  rw [← hr4] at e4
  obtain ⟨L0, hL0⟩ : ∃ L : List D, L = [.int 0, .int A, .int B] := ⟨_, rfl⟩
  simp only [List.length_cons, List.length_nil, List.map_cons, List.map_nil, List.cons_append, List.nil_append, Nat.reduceSub, List.replicate_succ, List.replicate_zero, Nat.reduceAdd, beq_self_eq_true, R.grd_true]
  unfold bd229
  rw [exs_one]
  simp [EVa, place, List.map_cons, List.map_nil, List.cons_append, List.nil_append, Nat.reduceSub, List.replicate_succ, List.replicate_zero, List.getElem?_cons_zero, List.getElem?_cons_succ, Option.join_some, e1, e2, e3] at e4 ⊢
  rw [e4]
  simp [EVa, place, List.map_cons, List.map_nil, List.cons_append, List.nil_append, Nat.reduceSub, List.replicate_succ, List.replicate_zero, List.getElem?_cons_zero, List.getElem?_cons_succ, Option.join_some]
  rw [exs_one]
  rw [← hL0]
  by_cases c : way = 0
  · have shl : (shs.map D.int).length = 18 := rfl
    obtain ⟨ys, r', f1, f2, f3, f4⟩ := forLoop_accR (body := exs P.G (run P (k + 2)) (.cons (.ex (.app (.var 4) (.tup (.cons (.idx (.var 3) (.var 5)) (.cons (.bi .min2 (.cons (.bin .add (.var 5) (.con (.int (1)))) (.cons (.con (.int (17))) .nil))) (.cons (.bi .max2 (.cons (.bin .sub (.var 5) (.con (.int (2)))) (.cons (.con (.int (0))) .nil))) (.cons (.bi .int (.cons (.cmp .eq (.var 5) (.con (.int (0)))) .nil)) .nil))))))) .nil))
      (t := .nm 5) (ρ₀ := [some (.ref 1), some (.int 0), some (.int (1 + (m : Int))), some (.ref (rest.length + 3)), some (.ref (rest.length + 4)), none, none, none, none, none, none]) (zs := zs) (rest := rest ++ [O.lst L0, O.lst (shs.map .int), O.lst []]) (i := rest.length + 2) (wat := []) (r0 := r4) (a0 := []) (by simp [envCl]) (fun _ _ => rfl) (rangeL 0 18) (fun _ y => ∃ x : Sta, y = x.d ∧ StaOk 18 x) r4 [] rfl (by simp [rangeL_len]) (fun j d hd r acc hacc => by
        obtain ⟨hj, rfl⟩ := rangeL_nat hd
        have q := shs_rng j hj
        obtain ⟨R0, hR0⟩ : ∃ R0, R0 = (rest ++ [O.lst L0, O.lst (shs.map .int), O.lst []]).set (rest.length + 2) (.lst acc) := ⟨_, rfl⟩
        have gs : (SR zs r R0)[rest.length + 3]? = some (.lst (shs.map .int)) := by rw [hR0]; simp [List.set_append, List.getElem?_append]
        have ga : (SR zs r R0)[rest.length + 4]? = some (.lst acc) := by rw [hR0]; simp [List.set_append, List.getElem?_append]
        have st := fun (l : List D) => show (SR zs r R0).set (rest.length + 4) (.lst l) = SR zs r ((rest ++ [O.lst L0, O.lst (shs.map .int), O.lst []]).set (rest.length + 2) (.lst l)) from by rw [hR0]; simp [List.set_append]
        have i1 := index_lst (lstOf_lst gs) (gi_get (xs := shs) (i := (j : Nat)) (by omega) (by simp [shs]; omega))
        have ap := fun y => app_lst (d := y) ga (by omega)
        obtain ⟨x, hx⟩ : ∃ x : Sta, x = ⟨gi shs (j : Nat), if 17 < (j : Int) + 1 then 17 else (j : Int) + 1, if (j : Int) - 2 < 0 then 0 else (j : Int) - 2, if j = 0 then 1 else 0⟩ := ⟨_, rfl⟩
        refine ⟨_, [some (.ref 1), some (.int 0), some (.int (1 + (m : Int))), some (.ref (rest.length + 3)), some (.ref (rest.length + 4)), some (.int (j : Nat)), none, none, none, none, none], x.d, r, [], asg_nm _ _ _, ?_, rfl, cl_sta x, x, rfl, ?_⟩
        · rw [List.append_nil, ← hR0, ← st, hx]
          simp [exs, EVa, place, List.map_cons, List.map_nil, List.cons_append, List.nil_append, Nat.reduceSub, List.replicate_succ, List.replicate_zero, List.getElem?_cons_zero, List.getElem?_cons_succ, Option.join_some, lstOf_lst ga, i1, biInt_bl, ap, Sta.d]
        · rw [hx]
          refine ⟨q.1, q.2, ?_, ?_, ?_, ?_, ?_⟩ <;> simp only <;> split <;> omega)
    obtain ⟨ss, rfl, ok⟩ : ∃ ss : List Sta, ys = ss.map Sta.d ∧ ∀ x ∈ ss, StaOk 18 x := by
      clear f1 f2 f3
      induction ys with
      | nil => exact ⟨[], rfl, fun x h => by simp at h⟩
      | cons y ys ih =>
        obtain ⟨ss, rfl, h⟩ := ih fun j y hy => f4 (j + 1) y (by simpa using hy)
        obtain ⟨x, rfl, hx⟩ := f4 0 y rfl
        exact ⟨x :: ss, rfl, fun z hz => by rcases List.mem_cons.mp hz with rfl | hz; exact hx; exact h z hz⟩
    have hlen : ss.length = 18 := by simpa [rangeL_len] using f2
    refine ⟨ss, ⟨by omega, by omega, by rw [hlen]; exact ok⟩, r', ?_⟩
    have s1 : ∀ (l : List D), (rest ++ [O.lst L0, O.lst (shs.map .int), O.lst []]).set (rest.length + 2) (.lst l) = rest ++ [O.lst L0, O.lst (shs.map .int), O.lst l] := fun l => by simp [List.set_append]
    simp only [s1, List.nil_append] at f1
    have mk : biMkt (.ref (rest.length + 4)) (SR zs r' (rest ++ [.lst L0, .lst (shs.map .int), .lst (ss.map Sta.d)])) = .ok (tbD ss) (SR zs r' (rest ++ [.lst L0, .lst (shs.map .int), .lst (ss.map Sta.d)])) := by
      rw [mkt_seq (ds := ss.map Sta.d) (by simp [seqOf, List.getElem?_append]), newT_ok' (by simp; omega)]
    have r18 : rngOk 18 = true := rng_ok (by omega) (by omega)
    have es : shs.map D.int = [.int 32, .int 28, .int 24, .int 21, .int 18, .int 16, .int 14, .int 12, .int 10, .int 9, .int 8, .int 7, .int 6, .int 5, .int 4, .int 3, .int 2, .int 1] := rfl
    have nl : ∀ st, newL (shs.map D.int) st = .ok (.ref st.length) (st ++ [.lst (shs.map .int)]) := fun st => newL_ok' (by simp [shs])
    simp [EVa, place, List.map_cons, List.map_nil, List.cons_append, List.nil_append, Nat.reduceSub, List.replicate_succ, List.replicate_zero, List.getElem?_cons_zero, List.getElem?_cons_succ, Option.join_some, c, rB_bl, ← es]
    rw [exs_one]
    simp [EVa, place, List.map_cons, List.map_nil, List.cons_append, List.nil_append, Nat.reduceSub, List.replicate_succ, List.replicate_zero, List.getElem?_cons_zero, List.getElem?_cons_succ, Option.join_some, ← es, nl]
    rw [exs_one, ex_forB]
    simp [EVa, place, List.map_cons, List.map_nil, List.cons_append, List.nil_append, Nat.reduceSub, List.replicate_succ, List.replicate_zero, List.getElem?_cons_zero, List.getElem?_cons_succ, Option.join_some, rng_0, r18]
    try simp at f1
    rw [f1]
    simp only [R.bind_ok, nxt_nx]
    rw [exs_one]
    try simp at mk
    simp [EVa, place, List.map_cons, List.map_nil, List.cons_append, List.nil_append, Nat.reduceSub, List.replicate_succ, List.replicate_zero, List.getElem?_cons_zero, List.getElem?_cons_succ, Option.join_some, mk]
    exact gcR _ (by rw [cl_tup]; exact cls_sta ss)
  · simp [EVa, place, List.map_cons, List.map_nil, List.cons_append, List.nil_append, Nat.reduceSub, List.replicate_succ, List.replicate_zero, List.getElem?_cons_zero, List.getElem?_cons_succ, Option.join_some, c, exs_nil]
    rw [exs_one]
    obtain ⟨L1, hL1⟩ : ∃ L : List D, L = [.int 1, .int 32, .int 0, .int 0] := ⟨_, rfl⟩
    have e5 := pk Q.h10 Q.h11 zs r4 (rest ++ [O.lst L0, O.lst L1]) (rest.length + 1) L1 k (by simp) (by rw [hL1]; simp) (by rw [hL1]; simp) (by rw [hL1]; simp)
    have hm := pk_mem (zs := zs) (r := r4) (ds := L1) (by rw [hL1]; simp)
    obtain ⟨d, hd⟩ : ∃ d, d = L1.getD (r4.val zs L1.length).toNat .non := ⟨_, rfl⟩
    rw [← hd] at e5 hm
    obtain ⟨le, rfl, le1⟩ : ∃ le : Int, d = .int le ∧ (le = 1 ∨ le = 32 ∨ le = 0) := by
      rw [hL1] at hm
      simp only [List.mem_cons, List.not_mem_nil, or_false] at hm
      rcases hm with h | h | h | h
      · exact ⟨1, h, by omega⟩
      · exact ⟨32, h, by omega⟩
      · exact ⟨0, h, by omega⟩
      · exact ⟨0, h, by omega⟩
    obtain ⟨r5, hr5⟩ : ∃ w, w = r4.nx zs L1.length := ⟨_, rfl⟩
    rw [← hr5] at e5
    have e6 := tk Q.h10 zs r5 (rest ++ [O.lst L0, O.lst L1]) 3 (k + 1) (by omega) (by omega)
    have g1 := Row.val_lo (zs := zs) (r := r5) (m := 3) (by omega)
    obtain ⟨fl, hfl⟩ : ∃ w, w = r5.val zs 3 := ⟨_, rfl⟩
    obtain ⟨r6, hr6⟩ : ∃ w, w = r5.nx zs 3 := ⟨_, rfl⟩
    rw [← hfl, ← hr6] at e6
    rw [← hfl] at g1
    have hr0 : rngOk (1 + (m : Int)) = true := rng_ok (by omega) (by omega)
    have body : ∀ (j : Nat) d, (rangeL 0 (m + 1))[j]? = some d → ∀ (r : Row) (acc : List D), acc.length < 1000000 → ∃ ρ1 ρ2 y r' js, T.asg (.nm 5) d [some (.ref 1), some (.int way), some (.int (1 + (m : Int))), none, some (.ref (rest.length + 4)), none, some (.int le), some (.int fl), none, none, none] = some ρ1 ∧
        exs P.G (run P (k + 2)) (match bd229 with
          | .cons _ (.cons _ (.cons _ (.cons (.for_ _ _ b) _))) => b
          | _ => .nil) ρ1 (SR zs r ((rest ++ [O.lst L0, O.lst L1, O.lst []]).set (rest.length + 2) (.lst acc))) = .ok (.nx, ρ2) (SR zs r' ((rest ++ [O.lst L0, O.lst L1, O.lst []]).set (rest.length + 2) (.lst (acc ++ [y])) ++ js)) ∧
        mask [some (.ref 1), some (.int way), some (.int (1 + (m : Int))), none, some (.ref (rest.length + 4)), none, some (.int le), some (.int fl), none, none, none] ρ2 = [some (.ref 1), some (.int way), some (.int (1 + (m : Int))), none, some (.ref (rest.length + 4)), none, some (.int le), some (.int fl), none, none, none] ∧ D.cl ((rest ++ [O.lst L0, O.lst L1, O.lst []]).length + 2) y = true ∧ ∃ x : Sta, y = x.d ∧ StaOk (m + 1) x := by
      intro j d hd r acc hacc
      obtain ⟨hj, rfl⟩ := rangeL_nat hd
      obtain ⟨R0, hR0⟩ : ∃ R0, R0 = (rest ++ [O.lst L0, O.lst L1, O.lst []]).set (rest.length + 2) (.lst acc) := ⟨_, rfl⟩
      have ga : ∀ r, (SR zs r R0)[rest.length + 4]? = some (.lst acc) := fun r => by rw [hR0]; simp [List.set_append, List.getElem?_append]
      have ap := fun r y => app_lst (d := y) (ga r) (by omega)
      have st := fun r (l : List D) => show (SR zs r R0).set (rest.length + 4) (.lst l) = SR zs r ((rest ++ [O.lst L0, O.lst L1, O.lst []]).set (rest.length + 2) (.lst l)) from by rw [hR0]; simp [List.set_append]
      obtain ⟨sh, ra, s1, s2, q1⟩ : ∃ (sh : Int) (ra : Row), 1 ≤ sh ∧ sh ≤ 32 ∧ ∀ ρ : Env, ρ[0]? = some (some (.ref 1)) → ρ[6]? = some (some (.int le)) → ev P.G (run P (k + 2)) (.ite (.val (.cmp .gt (.var 6) (.con (.int (0))))) (.var 6) (.bin .add (.con (.int (1))) (.call 10 (.cons (.var 0) (.cons (.con (.int (32))) .nil))))) ρ (SR zs r R0) = .ok (.int sh) (SR zs ra R0) := by
        by_cases cc : 0 < le
        · exact ⟨le, r, by omega, by omega, fun ρ h0 h6 => by simp [EVa, place, List.map_cons, List.map_nil, List.cons_append, List.nil_append, Nat.reduceSub, List.replicate_succ, List.replicate_zero, List.getElem?_cons_zero, List.getElem?_cons_succ, Option.join_some, h6, cc]⟩
        · have e := tk Q.h10 zs r R0 32 (k + 1) (by omega) (by omega)
          have v1 := Row.val_lo (zs := zs) (r := r) (m := 32) (by omega)
          have v2 := Row.val_hi (zs := zs) (r := r) (m := 32) (by omega)
          exact ⟨1 + r.val zs 32, r.nx zs 32, by omega, by omega, fun ρ h0 h6 => by simp [EVa, place, List.map_cons, List.map_nil, List.cons_append, List.nil_append, Nat.reduceSub, List.replicate_succ, List.replicate_zero, List.getElem?_cons_zero, List.getElem?_cons_succ, Option.join_some, h6, cc, h0, e]⟩
      obtain ⟨tu, rb, t1, q2⟩ : ∃ (tu : Int) (rb : Row), (tu = 0 ∨ tu = 1) ∧ ∀ ρ : Env, ρ[0]? = some (some (.ref 1)) → ρ[7]? = some (some (.int fl)) → ev P.G (run P (k + 2)) (.ite (.val (.cmp .lt (.var 7) (.con (.int (2))))) (.var 7) (.call 10 (.cons (.var 0) (.cons (.con (.int (2))) .nil)))) ρ (SR zs ra R0) = .ok (.int tu) (SR zs rb R0) := by
        by_cases cc : fl < 2
        · exact ⟨fl, ra, by omega, fun ρ h0 h6 => by simp [EVa, place, List.map_cons, List.map_nil, List.cons_append, List.nil_append, Nat.reduceSub, List.replicate_succ, List.replicate_zero, List.getElem?_cons_zero, List.getElem?_cons_succ, Option.join_some, h6, cc]⟩
        · have e := tk Q.h10 zs ra R0 2 (k + 1) (by omega) (by omega)
          have v1 := Row.val_lo (zs := zs) (r := ra) (m := 2) (by omega)
          have v2 := Row.val_hi (zs := zs) (r := ra) (m := 2) (by omega)
          exact ⟨ra.val zs 2, ra.nx zs 2, by omega, fun ρ h0 h6 => by simp [EVa, place, List.map_cons, List.map_nil, List.cons_append, List.nil_append, Nat.reduceSub, List.replicate_succ, List.replicate_zero, List.getElem?_cons_zero, List.getElem?_cons_succ, Option.join_some, h6, cc, h0, e]⟩
      have hM : (0 : Int) < 1 + (m : Int) := by omega
      have m3 := Int.emod_nonneg ((j : Int) + 1) (show 1 + (m : Int) ≠ 0 by omega)
      have m4 := Int.emod_lt_of_pos ((j : Int) + 1) hM
      have m5 := Int.emod_nonneg ((j : Int) + (1 + (m : Int)) - 1) (show 1 + (m : Int) ≠ 0 by omega)
      have m6 := Int.emod_lt_of_pos ((j : Int) + (1 + (m : Int)) - 1) hM
      by_cases cw : 1 < way
      · have e7 := tk Q.h10 zs rb R0 (1 + (m : Int)) (k + 1) hM (by omega)
        have v1 := Row.val_lo (zs := zs) (r := rb) hM
        have v2 := Row.val_hi (zs := zs) (r := rb) hM
        obtain ⟨U, hU⟩ : ∃ U, U = rb.val zs (1 + (m : Int)) := ⟨_, rfl⟩
        obtain ⟨rc, hrc⟩ : ∃ U, U = rb.nx zs (1 + (m : Int)) := ⟨_, rfl⟩
        rw [← hU, ← hrc] at e7
        rw [← hU] at v1 v2
        have e8 := tk Q.h10 zs rc R0 (1 + (m : Int)) (k + 1) hM (by omega)
        have v3 := Row.val_lo (zs := zs) (r := rc) hM
        have v4 := Row.val_hi (zs := zs) (r := rc) hM
        obtain ⟨V, hV⟩ : ∃ U, U = rc.val zs (1 + (m : Int)) := ⟨_, rfl⟩
        obtain ⟨rd, hrd⟩ : ∃ U, U = rc.nx zs (1 + (m : Int)) := ⟨_, rfl⟩
        rw [← hV, ← hrd] at e8
        rw [← hV] at v3 v4
        refine ⟨_, [some (.ref 1), some (.int way), some (.int (1 + (m : Int))), none, some (.ref (rest.length + 4)), some (.int (j : Nat)), some (.int le), some (.int fl), some (.int sh), some (.int tu), some (.tup [.int U, .int V])], Sta.d ⟨sh, U, V, tu⟩, rd, [], asg_nm _ _ _, ?_, rfl, cl_sta _, _, rfl, ⟨s1, s2, v1, by simp only; omega, v3, by simp only; omega, t1⟩⟩
        rw [List.append_nil, ← hR0, ← st]
        simp only [bd229]
        rw [exs_one, ex_set, q1 _ rfl rfl]
        simp [EVa, place, List.map_cons, List.map_nil, List.cons_append, List.nil_append, Nat.reduceSub, List.replicate_succ, List.replicate_zero, List.getElem?_cons_zero, List.getElem?_cons_succ, Option.join_some]
        rw [exs_one, ex_set, q2 _ rfl rfl]
        simp [exs_one, exs_nil, EVa, place, List.map_cons, List.map_nil, List.cons_append, List.nil_append, Nat.reduceSub, List.replicate_succ, List.replicate_zero, List.getElem?_cons_zero, List.getElem?_cons_succ, Option.join_some, hM, cw, e7, e8, lstOf_lst (ga _), ap, Sta.d]
      · refine ⟨_, [some (.ref 1), some (.int way), some (.int (1 + (m : Int))), none, some (.ref (rest.length + 4)), some (.int (j : Nat)), some (.int le), some (.int fl), some (.int sh), some (.int tu), some (.tup [.int (((j : Int) + 1) % (1 + (m : Int))), .int (((j : Int) + (1 + (m : Int)) - 1) % (1 + (m : Int)))])], Sta.d ⟨sh, ((j : Int) + 1) % (1 + (m : Int)), ((j : Int) + (1 + (m : Int)) - 1) % (1 + (m : Int)), tu⟩, rb, [], asg_nm _ _ _, ?_, rfl, cl_sta _, _, rfl, ⟨s1, s2, m3, by simp only; omega, m5, by simp only; omega, t1⟩⟩
        rw [List.append_nil, ← hR0, ← st]
        simp only [bd229]
        rw [exs_one, ex_set, q1 _ rfl rfl]
        simp [EVa, place, List.map_cons, List.map_nil, List.cons_append, List.nil_append, Nat.reduceSub, List.replicate_succ, List.replicate_zero, List.getElem?_cons_zero, List.getElem?_cons_succ, Option.join_some]
        rw [exs_one, ex_set, q2 _ rfl rfl]
        simp [exs_one, exs_nil, EVa, place, List.map_cons, List.map_nil, List.cons_append, List.nil_append, Nat.reduceSub, List.replicate_succ, List.replicate_zero, List.getElem?_cons_zero, List.getElem?_cons_succ, Option.join_some, hM, cw, lstOf_lst (ga _), ap, Sta.d]
    obtain ⟨ys, r', f1, f2, f3, f4⟩ := forLoop_accR (rest := rest ++ [O.lst L0, O.lst L1, O.lst []]) (i := rest.length + 2) (wat := []) (r0 := r6) (a0 := []) (by simp [envCl]) (fun _ _ => rfl) (rangeL 0 (m + 1)) (fun _ y => ∃ x : Sta, y = x.d ∧ StaOk (m + 1) x) r6 [] rfl (by simp [rangeL_len]; omega) body
    obtain ⟨ss, rfl, ok⟩ : ∃ ss : List Sta, ys = ss.map Sta.d ∧ ∀ x ∈ ss, StaOk (m + 1) x := by
      clear f1 f2 f3
      induction ys with
      | nil => exact ⟨[], rfl, fun x h => by simp at h⟩
      | cons y ys ih =>
        obtain ⟨ss, rfl, h⟩ := ih fun j y hy => f4 (j + 1) y (by simpa using hy)
        obtain ⟨x, rfl, hx⟩ := f4 0 y rfl
        exact ⟨x :: ss, rfl, fun z hz => by rcases List.mem_cons.mp hz with rfl | hz; exact hx; exact h z hz⟩
    have hlen : ss.length = m + 1 := by simpa [rangeL_len] using f2
    refine ⟨ss, ⟨by omega, by omega, by rw [hlen]; exact ok⟩, r', ?_⟩
    have s1 : ∀ (l : List D), (rest ++ [O.lst L0, O.lst L1, O.lst []]).set (rest.length + 2) (.lst l) = rest ++ [O.lst L0, O.lst L1, O.lst l] := fun l => by simp [List.set_append]
    simp only [s1, List.nil_append] at f1
    have mk : biMkt (.ref (rest.length + 4)) (SR zs r' (rest ++ [.lst L0, .lst L1, .lst (ss.map Sta.d)])) = .ok (tbD ss) (SR zs r' (rest ++ [.lst L0, .lst L1, .lst (ss.map Sta.d)])) := by
      rw [mkt_seq (ds := ss.map Sta.d) (by simp [seqOf, List.getElem?_append]), newT_ok' (by simp; omega)]
    have nl : ∀ st, newL L1 st = .ok (.ref st.length) (st ++ [.lst L1]) := fun st => newL_ok' (by rw [hL1]; simp)
    simp [EVa, place, List.map_cons, List.map_nil, List.cons_append, List.nil_append, Nat.reduceSub, List.replicate_succ, List.replicate_zero, List.getElem?_cons_zero, List.getElem?_cons_succ, Option.join_some, ← hL1, nl] at e5 ⊢
    rw [e5]
    simp [EVa, place, List.map_cons, List.map_nil, List.cons_append, List.nil_append, Nat.reduceSub, List.replicate_succ, List.replicate_zero, List.getElem?_cons_zero, List.getElem?_cons_succ, Option.join_some, e6]
    rw [exs_one, ex_forB]
    have hmm : ((1 + (m : Int)).toNat) = m + 1 := by omega
    simp [EVa, place, List.map_cons, List.map_nil, List.cons_append, List.nil_append, Nat.reduceSub, List.replicate_succ, List.replicate_zero, List.getElem?_cons_zero, List.getElem?_cons_succ, Option.join_some, rng_0, hr0, hmm]
    simp [bd229] at f1
    rw [f1]
    simp only [R.bind_ok, nxt_nx]
    rw [exs_one]
    try simp at mk
    simp [EVa, place, List.map_cons, List.map_nil, List.cons_append, List.nil_append, Nat.reduceSub, List.replicate_succ, List.replicate_zero, List.getElem?_cons_zero, List.getElem?_cons_succ, Option.join_some, mk]
    exact gcR _ (by rw [cl_tup]; exact cls_sta ss)
end
end Nz
namespace Nz
/-! ### the law's own walk -/
theorem asg_four' (i j l m : Nat) (a b c d : D) (ρ : Env) : T.asg (.tp [.nm i, .nm j, .nm l, .nm m]) (.tup [a, b, c, d]) ρ = some ((((ρ.set i (some a)).set j (some b)).set l (some c)).set m (some d)) := by simp only [asg_tp, asgs_cons, asg_nm, asgs_nil]
theorem asg_three' (i j l : Nat) (a b c : D) (ρ : Env) : T.asg (.tp [.nm i, .nm j, .nm l]) (.tup [a, b, c]) ρ = some (((ρ.set i (some a)).set j (some b)).set l (some c)) := by simp only [asg_tp, asgs_cons, asg_nm, asgs_nil]
def bdGrowL : Ss := match bd254 with
  | .cons _ (.cons (.for_ _ _ (.cons _ (.cons _ (.cons _ (.cons _ (.cons (.whl _ b) _)))))) _) => b
  | _ => .nil
def bdWalkL : Ss := match bd254 with
  | .cons _ (.cons (.for_ _ _ b) _) => b
  | _ => .nil
section
variable {G : Ctx} {call : Nat → List D → Store → R D}
theorem grow_loopL (a b c d e f g h i j k l : D) (ρ₀ : Env) (lo0 w0 n0 : D) (σ : Store) (hρ : ρ₀ = [some a, some b, some c, some lo0, some w0, some n0, some d, some e, some f, some g, some h, some i, some j, some k, some l]) : ∀ (fu m : Nat) (lo w n : Int), fu ≤ m → 32768 ≤ w * 2 ^ fu →
    whlLoop (evC G call (.val (.cmp .lt (.var 4) (.con (.int 32768))))) (exs G call bdGrowL) ρ₀ σ (m + 1) [some a, some b, some c, some (.int lo), some (.int w), some (.int n), some d, some e, some f, some g, some h, some i, some j, some k, some l] σ =
      .ok (.nx, [some a, some b, some c, some (.int (lo * 2 ^ gr fu w)), some (.int (w * 2 ^ gr fu w)), some (.int (n + (gr fu w : Nat))), some d, some e, some f, some g, some h, some i, some j, some k, some l]) σ := by
  intro fu
  induction fu with
  | zero =>
    intro m lo w n hm hw
    have hw : 32768 ≤ w := by simpa using hw
    rw [whl_false (s := σ)]
    · simp [gr]
    · simp [EVa, place, List.map_cons, List.map_nil, List.cons_append, List.nil_append, Nat.reduceSub, List.replicate_succ, List.replicate_zero, List.getElem?_cons_zero, List.getElem?_cons_succ, Option.join_some]; omega
  | succ fu ih =>
    intro m lo w n hm hw
    by_cases c1 : w < 32768
    · obtain ⟨m', rfl⟩ : ∃ m', m = m' + 1 := ⟨m - 1, by omega⟩
      have m1 : mulOk 2 lo = true := mulOk_l (by omega) (by omega)
      have m2 : mulOk 2 w = true := mulOk_l (by omega) (by omega)
      rw [whl_true (s := σ) (ρ' := [some a, some b, some c, some (.int (2 * lo)), some (.int (2 * w)), some (.int (n + 1)), some d, some e, some f, some g, some h, some i, some j, some k, some l]) (s' := σ) (by simp [EVa, place, List.map_cons, List.map_nil, List.cons_append, List.nil_append, Nat.reduceSub, List.replicate_succ, List.replicate_zero, List.getElem?_cons_zero, List.getElem?_cons_succ, Option.join_some, c1]) (by
        simp [exs, bdGrowL, bd254, EVa, place, List.map_cons, List.map_nil, List.cons_append, List.nil_append, Nat.reduceSub, List.replicate_succ, List.replicate_zero, List.getElem?_cons_zero, List.getElem?_cons_succ, Option.join_some, m1, m2])]
      have e1 : mask ρ₀ [some a, some b, some c, some (.int (2 * lo)), some (.int (2 * w)), some (.int (n + 1)), some d, some e, some f, some g, some h, some i, some j, some k, some l] = [some a, some b, some c, some (.int (2 * lo)), some (.int (2 * w)), some (.int (n + 1)), some d, some e, some f, some g, some h, some i, some j, some k, some l] := by rw [hρ]; rfl
      rw [e1, cutE_same, ih m' (2 * lo) (2 * w) (n + 1) (by omega) (by
        rw [Int.pow_succ, Int.mul_comm _ 2, ← Int.mul_assoc, Int.mul_comm w 2] at hw; exact hw)]
      have e2 : gr (fu + 1) w = gr fu (2 * w) + 1 := by
        rw [gr, if_pos c1]
      have e3 : n + 1 + ((gr fu (2 * w) : Nat) : Int) = n + ((gr fu (2 * w) + 1 : Nat) : Int) := by omega
      have e4 : ∀ z : Int, 2 * z * 2 ^ gr fu (2 * w) = z * 2 ^ (gr fu (2 * w) + 1) := fun z => by rw [Int.pow_succ, Int.mul_comm 2 z, Int.mul_assoc, Int.mul_comm 2]
      rw [e2]
      simp only [e3, e4]
    · rw [whl_false (s := σ)]
      · rw [gr, if_neg c1]; simp
      · simp [EVa, place, List.map_cons, List.map_nil, List.cons_append, List.nil_append, Nat.reduceSub, List.replicate_succ, List.replicate_zero, List.getElem?_cons_zero, List.getElem?_cons_succ, Option.join_some]; omega
theorem turnL {st : Store} {pl : Nat} {ss : List Sta} {x : WS} (tk : TbOk ss) (ok : x.Ok ss) (hz : x.kv.length < 16777216) (hp : st[pl]? = some (.dct false x.kv)) (p : Int × Int) (ps : D) : ∃ a b c d e f g : D,
    exs G call bdWalkL [some (tbD ss), some (.ref pl), some ps, some (.int x.low), some (.int x.w), some (.int (x.n : Nat)), some (.int p.1), some (.int p.2), none, none, none, none, none, none, none] st =
      .ok (.nx, [some (tbD ss), some (.ref pl), some ps, some (.int (x.step ss p.1 p.2).low), some (.int (x.step ss p.1 p.2).w), some (.int ((x.step ss p.1 p.2).n : Nat)), some (.int p.1), some (.int p.2), some a, some b, some c, some d, some e, some f, some g]) (st.set pl (.dct false (x.step ss p.1 p.2).kv)) := by
  obtain ⟨bit, ct⟩ := p
  simp only
  obtain ⟨p1, p2, p3⟩ := ok.plc tk ct
  have g := stt_get p1 p2
  have tok := stt_ok tk p1 p2
  have hw := WS.narrow_w (bit := bit) tk ok ct
  have fr := WS.first_rng tk ok ct
  have gp := plc_get ok.kv ct
  obtain ⟨X, hX⟩ : ∃ X, X = stt ss (plc x.kv ct).1 := ⟨_, rfl⟩
  obtain ⟨S, hS⟩ : ∃ S, S = (plc x.kv ct).1 := ⟨_, rfl⟩
  obtain ⟨B, hB⟩ : ∃ B, B = (plc x.kv ct).2 := ⟨_, rfl⟩
  obtain ⟨Ra, hR⟩ : ∃ F, F = x.w * X.s / 64 := ⟨_, rfl⟩
  obtain ⟨TD, hTD⟩ : ∃ TD, TD = ss.map Sta.d := ⟨_, rfl⟩
  have hF : x.first ss ct = x.w - Ra := by rw [hR, hX]; rfl
  rw [hF] at fr
  rw [← hX, ← hS, ← hTD] at g
  rw [← hX] at tok
  rw [← hS] at p1 p2
  rw [← hB] at p3
  simp only [plD, ← hS, ← hB] at gp
  have dg : dGet2 (.ref pl) (.int ct) (.tup [.int 0, .int 0]) st = .ok (.tup [.int S, .int B]) st := by rw [dget_dct hp rfl, gp]
  have mo : mulOk x.w X.s = true := mulOk_l (by have := ok.w1; omega) (by have := ok.w2; omega)
  obtain ⟨y, hy⟩ : ∃ y : WS, y = x.narrow ss bit ct := ⟨_, rfl⟩
  have hn : y.n = x.n := by rw [hy]; unfold WS.narrow; split <;> rfl
  refine ⟨.int S, .int B, .int X.s, .int X.u, .int X.r, .int X.f, .int Ra, ?_⟩
  simp only [tbD, ← hTD]
  unfold bdWalkL bd254
  rw [exs_one]
  simp [EVa, place, List.map_cons, List.map_nil, List.cons_append, List.nil_append, Nat.reduceSub, List.replicate_succ, List.replicate_zero, List.getElem?_cons_zero, List.getElem?_cons_succ, Option.join_some, dctOf_dct hp, dg]
  rw [exs_one]
  simp [EVa, place, List.map_cons, List.map_nil, List.cons_append, List.nil_append, Nat.reduceSub, List.replicate_succ, List.replicate_zero, List.getElem?_cons_zero, List.getElem?_cons_succ, Option.join_some, g, Sta.d]
  rw [exs_one]
  simp [EVa, place, List.map_cons, List.map_nil, List.cons_append, List.nil_append, Nat.reduceSub, List.replicate_succ, List.replicate_zero, List.getElem?_cons_zero, List.getElem?_cons_succ, Option.join_some, mo, ar_fdiv, ← hR]
  rw [exs_one]
  have key : ex G call (.ifs (.val (.cmp .eq (.var 6) (.var 9))) (.cons (.set (.nm 4) (.bin .sub (.var 4) (.var 14))) (.cons (.sti (.var 1) (.var 7) (.tup (.cons (.var 11) (.cons (.var 9) .nil)))) .nil)) 
      (.cons (.par 3 4 (.bin .sub (.bin .add (.var 3) (.var 4)) (.var 14)) (.var 14)) (.cons (.sti (.var 1) (.var 7) (.tup (.cons (.var 12) (.cons (.bin .sub (.bin .add (.var 9) (.var 13)) (.bin .mul (.bin .mul (.con (.int (2))) (.var 9)) (.var 13))) .nil)))) .nil)))
      [some (.tup TD), some (.ref pl), some ps, some (.int x.low), some (.int x.w), some (.int (x.n : Nat)), some (.int bit), some (.int ct), some (.int S), some (.int B), some (.int X.s), some (.int X.u), some (.int X.r), some (.int X.f), some (.int Ra)] st =
      .ok (.nx, [some (.tup TD), some (.ref pl), some ps, some (.int y.low), some (.int y.w), some (.int (x.n : Nat)), some (.int bit), some (.int ct), some (.int S), some (.int B), some (.int X.s), some (.int X.u), some (.int X.r), some (.int X.f), some (.int Ra)]) (st.set pl (.dct false y.kv)) := by
    by_cases cb : bit = B
    · have ey : y = ⟨dPut x.kv (.int ct) (.tup [.int X.u, .int B]), x.low, x.w - Ra, x.n⟩ := by
        rw [hy, hX, ← hF]
        unfold WS.narrow
        rw [if_pos (by rw [cb, hB]), ← hB]; rfl
      have sp := fun d => setAt_dct (d := d) (k := .int ct) hp rfl hz
      rw [ey]
      simp [exs, EVa, place, List.map_cons, List.map_nil, List.cons_append, List.nil_append, Nat.reduceSub, List.replicate_succ, List.replicate_zero, List.getElem?_cons_zero, List.getElem?_cons_succ, Option.join_some, cb, sp]
    · have ey : y = ⟨dPut x.kv (.int ct) (.tup [.int X.r, .int (if X.f = 1 then 1 - B else B)]), x.low + (x.w - Ra), x.w - (x.w - Ra), x.n⟩ := by
        rw [hy, hX, ← hF, hB]
        unfold WS.narrow
        rw [if_neg (by rw [← hB]; exact cb)]; rfl
      have sp := fun d => setAt_dct (d := d) (k := .int ct) hp rfl hz
      have m1 : mulOk 2 B = true := mulOk_l (by omega) (by omega)
      have m2 : mulOk (2 * B) X.f = true := mulOk_l (by omega) (by omega)
      have e5 : B + X.f - 2 * B * X.f = if X.f = 1 then 1 - B else B := by
        rcases tok.f with h | h <;> rw [h] <;> simp <;> omega
      rw [ey]
      simp [exs, EVa, place, List.map_cons, List.map_nil, List.cons_append, List.nil_append, Nat.reduceSub, List.replicate_succ, List.replicate_zero, List.getElem?_cons_zero, List.getElem?_cons_succ, Option.join_some, cb, sp, m1, m2, e5]
      omega
  rw [key]
  simp only [R.bind_ok, nxt_nx]
  rw [exs_one, ex_whlB]
  rw [← hy] at hw
  have lp := grow_loopL (G := G) (call := call) (.tup TD) (.ref pl) ps (.int bit) (.int ct) (.int S) (.int B) (.int X.s) (.int X.u) (.int X.r) (.int X.f) (.int Ra) _ (.int y.low) (.int y.w) (.int (x.n : Nat)) (st.set pl (.dct false y.kv)) rfl 16 (WF - 1) y.low y.w (x.n : Nat) (by decide) (by omega)
  unfold bdGrowL bd254 at lp
  simp only at lp
  rw [show WF - 1 + 1 = WF from rfl] at lp
  rw [lp]
  simp only [R.bind_ok, nxt_nx, exs_nil]
  have ez : x.step ss bit ct = ⟨y.kv, y.low * 2 ^ gr 16 y.w, y.w * 2 ^ gr 16 y.w, x.n + gr 16 y.w⟩ := by
    rw [← hn, hy]; rfl
  rw [ez]
  simp
theorem walk_loopL {st : Store} {pl : Nat} {ss : List Sta} (tk : TbOk ss) (hl : pl < st.length) (ps : D) : ∀ (l : List (Int × Int)) (x : WS) (ρ₀ : Env) (lo w n : D), ρ₀ = [some (tbD ss), some (.ref pl), some ps, some lo, some w, some n, none, none, none, none, none, none, none, none, none] → x.Ok ss → x.kv.length + l.length < 16777216 →
    ∀ (σ : Store), σ.length = st.length → forLoop (exs G call bdWalkL) (.tp [.nm 6, .nm 7]) ρ₀ σ [] (l.map prD2) [some (tbD ss), some (.ref pl), some ps, some (.int x.low), some (.int x.w), some (.int (x.n : Nat)), none, none, none, none, none, none, none, none, none] (st.set pl (.dct false x.kv)) =
      .ok (.nx, [some (tbD ss), some (.ref pl), some ps, some (.int (walkF ss x l).low), some (.int (walkF ss x l).w), some (.int ((walkF ss x l).n : Nat)), none, none, none, none, none, none, none, none, none]) (st.set pl (.dct false (walkF ss x l).kv)) := by
  intro l
  induction l with
  | nil => intro x ρ₀ lo w n hρ ok hz σ hσ; rw [List.map_nil, for_nil]; rfl
  | cons p l ih =>
    intro x ρ₀ lo w n hρ ok hz σ hσ
    obtain ⟨a, b, c, d, e, f, g, h⟩ := turnL (G := G) (call := call) tk ok (by simp at hz; omega) (st := st.set pl (.dct false x.kv)) (pl := pl) (by rw [List.getElem?_set_self hl]) p ps
    rw [List.set_set] at h
    rw [List.map_cons, for_cons, show watOk [] (st.set pl (.dct false x.kv)) = true from rfl, R.grd_true]
    unfold prD2
    rw [asg_two]
    simp only [List.set_cons_succ, List.set_cons_zero, h, R.bind_ok, fnx_nx]
    rw [cutE_len (by rw [List.length_set, hσ]; exact Nat.le_refl _)]
    have := ih (x.step ss p.1 p.2) ρ₀ lo w n hρ (WS.step_ok tk ok p.1 p.2) (by have := WS.step_len (ss := ss) (x := x) (bit := p.1) (c := p.2); simp at hz; omega) σ hσ
    unfold prD2 at this
    rw [hρ] at this ⊢
    exact this
end
section
variable {P : Prog}
theorem walk254 (h254 : P.defs.lookup 254 = some ⟨3, 15, bd254⟩) (k : Nat) {st : Store} {pl : Nat} {ss : List Sta} {kv : List (D × D)} (tk : TbOk ss) (hk : KvOk ss.length kv) (hf : KvF kv) (hp : st[pl]? = some (.dct false kv)) (l : List (Int × Int)) (hz : kv.length + l.length < 16777216) :
    run P (k + 1) 254 [tbD ss, .ref pl, psD l] st = .ok (.tup [.int (walkF ss ⟨kv, 0, 65536, 0⟩ l).low, .int (walkF ss ⟨kv, 0, 65536, 0⟩ l).w, .int ((walkF ss ⟨kv, 0, 65536, 0⟩ l).n : Nat)]) (st.set pl (.dct false (walkF ss ⟨kv, 0, 65536, 0⟩ l).kv)) := by
  have hl : pl < st.length := (List.getElem?_eq_some_iff.mp hp).1
  have lp := walk_loopL (G := P.G) (call := run P k) tk hl (psD l) l ⟨kv, 0, 65536, 0⟩ _ (.int 0) (.int 65536) (.int 0) rfl ⟨hk, by simp, by simp⟩ hz st rfl
  rw [set_same hp] at lp
  have hf2 := walkF_f (ss := ss) l (x := ⟨kv, 0, 65536, 0⟩) hf
  rw [run_eq h254]
  simp only [List.length_cons, List.length_nil, List.map_cons, List.map_nil, List.cons_append, List.nil_append, Nat.reduceSub, List.replicate_succ, List.replicate_zero, Nat.reduceAdd, beq_self_eq_true, R.grd_true]
  unfold bd254
  rw [exs_one]
  simp [EVa, place, List.map_cons, List.map_nil, List.cons_append, List.nil_append, Nat.reduceSub, List.replicate_succ, List.replicate_zero, List.getElem?_cons_zero, List.getElem?_cons_succ, Option.join_some]
  rw [exs_one, ex_forB]
  simp [EVa, place, List.map_cons, List.map_nil, List.cons_append, List.nil_append, Nat.reduceSub, List.replicate_succ, List.replicate_zero, List.getElem?_cons_zero, List.getElem?_cons_succ, Option.join_some]
  unfold bdWalkL bd254 at lp
  simp at lp
  rw [lp]
  simp only [R.bind_ok, nxt_nx]
  rw [exs_one]
  simp [EVa, place, List.map_cons, List.map_nil, List.cons_append, List.nil_append, Nat.reduceSub, List.replicate_succ, List.replicate_zero, List.getElem?_cons_zero, List.getElem?_cons_succ, Option.join_some]
  rw [gc_ret (pfx_of fun i o ho => by
    by_cases c : i = pl
    · subst c
      rw [List.getElem?_set_self hl]
      obtain ⟨a, b⟩ := cl_kv (m := st.length) hf2
      exact ⟨_, rfl, .inr (by simp only [O.cl, a, b, Bool.and_self])⟩
    · rw [List.getElem?_set_ne (Ne.symm c)]
      exact ⟨o, ho, .inl rfl⟩) rfl]
  rw [List.take_of_length_le (by simp)]
theorem size261 (h261 : P.defs.lookup 261 = some ⟨1, 1, bd261⟩) (k : Nat) (st : Store) (n : Nat) (hn : n ≤ 100000) : run P (k + 1) 261 [.int (n : Nat)] st = .ok (.int (65536 * 2 ^ n)) st := by
  rw [run_eq h261]
  have a : arith .shl 65536 (n : Int) = some (65536 * 2 ^ n) := by
    have e : Nat.log2 (65536 : Int).natAbs = 16 := by decide
    rw [ar_shl (by omega) (by omega) (by rw [e, Int.toNat_natCast]; omega), Int.toNat_natCast]
  simp [exs, bd261, EVa, place, List.map_cons, List.map_nil, List.cons_append, List.nil_append, Nat.reduceSub, List.replicate_succ, List.replicate_zero, List.getElem?_cons_zero, List.getElem?_cons_succ, Option.join_some, a, gc_id]
end
end Nz
namespace Nz
/-! ### the places of contexts as a list of triples -/
def kvO (es : List T3) : List (D × D) := es.map fun e => (.int e.1, plD e.2)
def ePut (es : List T3) (c : Int) (v : Int × Int) : List T3 := if es.any (fun e => decide (e.1 = c)) then es.map (fun e => if e.1 = c then (e.1, v) else e) else es ++ [(c, v)]
def eGet (es : List T3) (c : Int) : Option (Int × Int) := (es.find? fun e => decide (e.1 = c)).map (·.2)
theorem kvO_put (es : List T3) (c : Int) (v : Int × Int) : dPut (kvO es) (.int c) (plD v) = kvO (ePut es c v) := by
  unfold dPut ePut kvO
  have h1 : (es.map fun e : T3 => ((.int e.1, plD e.2) : D × D)).any (fun p => decide (p.1 = .int c)) = es.any (fun e => decide (e.1 = c)) := by
    rw [List.any_map]
    congr 1
    funext e
    simp
  rw [h1]
  split
  · rw [List.map_map, List.map_map]
    refine List.map_congr_left fun e _ => ?_
    by_cases h : e.1 = c <;> simp [h]
  · simp
theorem kvO_get (es : List T3) (c : Int) : dGet (kvO es) (.int c) = (eGet es c).map plD := by
  unfold dGet eGet kvO
  induction es with
  | nil => rfl
  | cons e es ih =>
    by_cases h : e.1 = c
    · simp [h]
    · have h2 : ¬ (D.int e.1 = D.int c) := by simpa using h
      rw [List.map_cons, List.find?_cons_of_neg (by simpa using h), List.find?_cons_of_neg (by simpa using h)]
      exact ih
theorem plc_O (es : List T3) (c : Int) : plc (kvO es) c = (eGet es c).getD (0, 0) := by
  unfold plc
  rw [kvO_get]
  cases eGet es c <;> rfl
theorem eGet_put {es : List T3} {c c' : Int} {v : Int × Int} : eGet (ePut es c v) c' = if c' = c then some v else eGet es c' := by
  have h := dGet_put (kv := kvO es) (k := .int c) (j := .int c') (v := plD v)
  rw [kvO_put, kvO_get, kvO_get] at h
  have inj : ∀ (a b : Option (Int × Int)), a.map plD = b.map plD → a = b := by
    intro a b h
    cases a <;> cases b <;> simp [plD] at h ⊢
    rename_i x y
    exact Prod.ext h.1 h.2
  refine inj _ _ ?_
  rw [h]
  by_cases e : c' = c <;> simp [e]
structure EsOk (es : List T3) : Prop where
  nd : (es.map (·.1)).Nodup
  lo : ∀ e ∈ es, 0 ≤ e.1 ∧ e.1 ≤ 31
  b2 : ∀ e ∈ es, 0 ≤ e.2.1 ∧ e.2.1 < 32
  b3 : ∀ e ∈ es, 0 ≤ e.2.2 ∧ e.2.2 ≤ 1
theorem nodup_len : ∀ (n : Nat) (l : List Int), l.Nodup → (∀ x ∈ l, 0 ≤ x ∧ x < n) → l.length ≤ n
  | 0, l, _, h => by
    cases l with
    | nil => simp
    | cons a l => have := h a (List.mem_cons_self ..); omega
  | n + 1, l, nd, h => by
    have ih := nodup_len n (l.filter fun x => !decide (x = (n : Int))) (nd.filter _) fun x hx => by
      obtain ⟨a, b⟩ := List.mem_filter.mp hx
      have := h x a
      simp at b
      omega
    have c1 : l.countP (fun x => decide (x = (n : Int))) ≤ 1 := by
      have := List.nodup_iff_count.mp nd (n : Int)
      refine Nat.le_trans (Nat.le_of_eq ?_) this
      unfold List.count
      congr 1
    have c2 := List.length_eq_countP_add_countP (fun x => decide (x = (n : Int))) (l := l)
    rw [← List.countP_eq_length_filter] at ih
    have c3 : List.countP (fun a => decide ¬decide (a = (n : Int)) = true) l = List.countP (fun x => !decide (x = (n : Int))) l := by
      congr 1
      funext x
      simp
    omega
theorem EsOk.len {es : List T3} (h : EsOk es) : es.length ≤ 32 := by
  have := nodup_len 32 (es.map (·.1)) h.nd fun x hx => by
    obtain ⟨e, he, rfl⟩ := List.mem_map.mp hx
    have := h.lo e he
    omega
  simpa using this
theorem ePut_keys (es : List T3) (c : Int) (v : Int × Int) : (ePut es c v).map (·.1) = if es.any (fun e => decide (e.1 = c)) then es.map (·.1) else es.map (·.1) ++ [c] := by
  unfold ePut
  split
  · rw [List.map_map]
    refine List.map_congr_left fun e _ => ?_
    by_cases h : e.1 = c <;> simp [h]
  · simp
theorem EsOk.put {es : List T3} (h : EsOk es) {c : Int} {v : Int × Int} (c0 : 0 ≤ c) (c1 : c ≤ 31) (v0 : 0 ≤ v.1) (v1 : v.1 < 32) (w0 : 0 ≤ v.2) (w1 : v.2 ≤ 1) : EsOk (ePut es c v) := by
  have mem : ∀ e ∈ ePut es c v, e ∈ es ∨ (e.1 = c ∧ e.2 = v) := by
    intro e he
    unfold ePut at he
    split at he
    · obtain ⟨q, hq, rfl⟩ := List.mem_map.mp he
      by_cases k : q.1 = c
      · rw [if_pos k]; exact .inr ⟨k, rfl⟩
      · rw [if_neg k]; exact .inl hq
    · rcases List.mem_append.mp he with k | k
      · exact .inl k
      · rw [List.mem_singleton.mp k]; exact .inr ⟨rfl, rfl⟩
  refine ⟨?_, fun e he => ?_, fun e he => ?_, fun e he => ?_⟩
  · rw [ePut_keys]
    split
    · exact h.nd
    · rename_i k
      refine List.nodup_append.mpr ⟨h.nd, by simp, fun a ha b hb => ?_⟩
      rw [List.mem_singleton.mp hb]
      rintro rfl
      obtain ⟨e, he, q⟩ := List.mem_map.mp ha
      exact k (List.any_eq_true.mpr ⟨e, he, by simpa using q⟩)
  · rcases mem e he with k | ⟨k, _⟩
    · exact h.lo e k
    · omega
  · rcases mem e he with k | ⟨_, k⟩
    · exact h.b2 e k
    · rw [k]; exact ⟨v0, v1⟩
  · rcases mem e he with k | ⟨_, k⟩
    · exact h.b3 e k
    · rw [k]; exact ⟨w0, w1⟩
theorem eGet_mem {es : List T3} (h : EsOk es) {e : T3} (he : e ∈ es) : eGet es e.1 = some e.2 := by
  have nd := h.nd
  clear h
  unfold eGet
  induction es with
  | nil => cases he
  | cons a es ih =>
    rw [List.map_cons, List.nodup_cons] at nd
    rcases List.mem_cons.mp he with rfl | he
    · simp
    · have : ¬ a.1 = e.1 := fun q => nd.1 (by rw [q]; exact List.mem_map.mpr ⟨e, he, rfl⟩)
      rw [List.find?_cons_of_neg (by simpa using this)]
      exact ih he nd.2
theorem eGet_some {es : List T3} {c : Int} (hc : c ∈ es.map (·.1)) (h : EsOk es) : ∃ v, eGet es c = some v ∧ (c, v) ∈ es := by
  obtain ⟨e, he, rfl⟩ := List.mem_map.mp hc
  exact ⟨e.2, eGet_mem h he, he⟩
theorem sortI_p {is : List Int} : (sortI is).Perm is := List.mergeSort_perm ..
theorem sortI_s {is : List Int} : (sortI is).Pairwise (· ≤ ·) := by
  have := List.pairwise_mergeSort (le := fun a b : Int => decide (a ≤ b)) (by intro a b c h1 h2; simp at *; omega) (by intro a b; simp; omega) is
  exact this.imp fun h => by simpa using h
theorem sortT3_p {ps : List T3} : (sortT3 ps).Perm ps := List.mergeSort_perm ..
theorem sortT3_s {ps : List T3} : (sortT3 ps).Pairwise fun a b => code3 a ≤ code3 b := by
  have := List.pairwise_mergeSort (le := fun a b : T3 => decide (code3 a ≤ code3 b)) (by intro a b c h1 h2; simp at *; omega) (by intro a b; simp; omega) ps
  exact this.imp fun h => by simpa using h
/-- a sort of the triples is a sort of their contexts -/
theorem sort_es {es : List T3} (h : EsOk es) : sortT3 es = (sortI (es.map (·.1))).map fun c => (c, (eGet es c).getD (0, 0)) := by
  obtain ⟨f, hf⟩ : ∃ f : Int → T3, f = fun c => (c, (eGet es c).getD (0, 0)) := ⟨_, rfl⟩
  rw [← hf]
  have fe : ∀ e ∈ es, f e.1 = e := fun e he => by rw [hf]; simp only [eGet_mem h he]; rfl
  have p1 : ((sortI (es.map (·.1))).map f).Perm es := by
    have q := (sortI_p (is := es.map (·.1))).map f
    rw [List.map_map] at q
    have e : es.map (f ∘ (·.1)) = es := by
      conv => rhs; rw [← List.map_id es]
      exact List.map_congr_left fun e he => fe e he
    rw [e] at q
    exact q
  have rg : ∀ e ∈ es, (0 ≤ e.1 ∧ e.1 ≤ 31) ∧ (0 ≤ e.2.1 ∧ e.2.1 < 32) ∧ (0 ≤ e.2.2 ∧ e.2.2 ≤ 1) := fun e he => ⟨h.lo e he, h.b2 e he, h.b3 e he⟩
  have nd : (sortI (es.map (·.1))).Nodup := (sortI_p.nodup_iff).mpr h.nd
  have p2 : ((sortI (es.map (·.1))).map f).Pairwise fun a b => code3 a ≤ code3 b := by
    refine List.pairwise_map.mpr ((sortI_s.and nd).imp_of_mem fun {x y} hx hy hxy => ?_)
    have mm : ∀ z ∈ sortI (es.map (·.1)), ∃ e ∈ es, z = e.1 := fun z hz => by
      obtain ⟨e, he, rfl⟩ := List.mem_map.mp (sortI_p.mem_iff.mp hz)
      exact ⟨e, he, rfl⟩
    obtain ⟨a, ha, rfl⟩ := mm x hx
    obtain ⟨b, hb, rfl⟩ := mm y hy
    rw [fe a ha, fe b hb]
    have ra := rg a ha
    have rb := rg b hb
    obtain ⟨h1, h2⟩ := hxy
    unfold code3
    have h3 : ¬ a.1 = b.1 := h2
    omega
  refine ((sortT3_p).trans p1.symm).eq_of_pairwise (fun a b ha hb h1 h2 => ?_) sortT3_s p2
  have ra := rg a (sortT3_p.mem_iff.mp ha)
  have rb := rg b (p1.mem_iff.mp hb)
  obtain ⟨a1, a2, a3⟩ := a
  obtain ⟨b1, b2, b3⟩ := b
  unfold code3 at h1 h2
  simp only at ra rb h1 h2
  have g1 : a1 = b1 := by omega
  subst g1
  have g2 : a2 = b2 := by omega
  subst g2
  have g3 : a3 = b3 := by omega
  rw [g3]
/-- a context's next place -/
def nxP (ss : List Sta) (p : Int × Int) (bit : Int) : Int × Int :=
  if bit = p.2 then ((stt ss p.1).u, p.2) else ((stt ss p.1).r, if (stt ss p.1).f = 1 then 1 - p.2 else p.2)
def esS (ss : List Sta) (es : List T3) (b c : Int) : List T3 := ePut es c (nxP ss ((eGet es c).getD (0, 0)) b)
theorem step_kv {ss : List Sta} {x : WS} {es : List T3} (h : x.kv = kvO es) (b c : Int) : (x.step ss b c).kv = kvO (esS ss es b c) := by
  have e : (x.step ss b c).kv = dPut x.kv (.int c) (plD (nxP ss (plc x.kv c) b)) := by
    unfold WS.step WS.narrow WS.grow nxP
    split <;> rfl
  rw [e, h, kvO_put, plc_O]
  rfl
/-- all places within a table's states -/
def EsIn (m : Nat) (es : List T3) : Prop := ∀ e ∈ es, 0 ≤ e.2.1 ∧ e.2.1 < m ∧ (e.2.2 = 0 ∨ e.2.2 = 1)
def esF (ss : List Sta) (es : List T3) (ps : List (Int × Int)) : List T3 := ps.foldl (fun es p => esS ss es p.1 p.2) es
theorem walkF_kv {ss : List Sta} : ∀ (ps : List (Int × Int)) {x : WS} {es : List T3}, x.kv = kvO es → (walkF ss x ps).kv = kvO (esF ss es ps)
  | [], _, _, h => h
  | p :: ps, x, es, h => walkF_kv ps (step_kv h p.1 p.2)
theorem esS_ok {ss : List Sta} (T : TbOk ss) {es : List T3} (h : EsOk es) (hi : KvOk ss.length (kvO es)) (b c : Int) (c0 : 0 ≤ c) (c1 : c ≤ 31) : EsOk (esS ss es b c) := by
  have p := plc_ok (by have := T.n1; omega) hi c
  rw [plc_O] at p
  obtain ⟨p1, p2, p3⟩ := p
  have ok := stt_ok T p1 p2
  have a1 := ok.u1
  have a2 := ok.u2
  have a3 := ok.r1
  have a4 := ok.r2
  have n2 := T.n2
  unfold esS
  refine h.put c0 c1 ?_ ?_ ?_ ?_ <;> unfold nxP <;> split <;> (try simp only) <;> (try split) <;> omega
/-- the places of one context alone -/
theorem esF_alone {ss : List Sta} (c : Int) : ∀ (ps : List (Int × Int)) (es ea : List T3), (ea = [] ∧ eGet es c = none ∨ ∃ v, ea = [(c, v)] ∧ eGet es c = some v) →
    (esF ss ea (ps.filter fun p => decide (p.2 = c)) = [] ∧ eGet (esF ss es ps) c = none ∨ ∃ v, esF ss ea (ps.filter fun p => decide (p.2 = c)) = [(c, v)] ∧ eGet (esF ss es ps) c = some v)
  | [], _, _, h => h
  | p :: ps, es, ea, h => by
    by_cases hp : p.2 = c
    · rw [List.filter_cons_of_pos (by simpa using hp)]
      refine esF_alone c ps (esS ss es p.1 p.2) (esS ss ea p.1 p.2) (.inr ?_)
      rw [hp]
      unfold esS
      rcases h with ⟨rfl, h⟩ | ⟨v, rfl, h⟩
      · exact ⟨nxP ss (0, 0) p.1, by simp [ePut, eGet], by rw [eGet_put, h]; simp⟩
      · exact ⟨nxP ss v p.1, by simp [ePut, eGet], by rw [eGet_put, h]; simp⟩
    · rw [List.filter_cons_of_neg (by simpa using hp)]
      refine esF_alone c ps (esS ss es p.1 p.2) ea ?_
      have : ¬ c = p.2 := fun e => hp e.symm
      unfold esS
      rw [eGet_put, if_neg this]
      exact h
end Nz
namespace Nz
/-! ### the binary coder: the encoder -/
def encO (l : Nat) (n : Nat) : O := .ins 3 [(8, .ref l), (9, .int (n : Nat))]
def tolD (es : List T3) : D := .tup ((sortT3 es).map td3)
structure EncAt (st : Store) (e l tb pl : Nat) (ss : List Sta) (x : WS) (n : Nat) : Prop where
  e : st[e]? = some (encO l n)
  w : WkAt st l tb pl ss x
structure EncP (P : Prog) : Prop where
  W : WalP P
  h244 : P.defs.lookup 244 = some ⟨1, 3, bd244⟩
  h245 : P.defs.lookup 245 = some ⟨2, 2, bd245⟩
  h247 : P.defs.lookup 247 = some ⟨1, 1, bd247⟩
  h248 : P.defs.lookup 248 = some ⟨3, 3, bd248⟩
  hI : P.G.init[3]? = some (some 245)
  m6 : atOf P.G.meth 6 3 = some 248
  p1 : atOf P.G.prop 1 3 = some 247
def eset (st : Store) (e l tb pl : Nat) (x : WS) (n : Nat) : Store := wset (st.set e (encO l n)) l tb pl x
section
variable {st : Store} {e l tb pl n m : Nat} {ss : List Sta} {x y : WS}
theorem EncAt.n1 (h : EncAt st e l tb pl ss x n) : e ≠ l := fun q => by
  have a := h.e; rw [q, h.w.w] at a; simp [wkO, encO] at a
theorem EncAt.n2 (h : EncAt st e l tb pl ss x n) : e ≠ pl := fun q => by
  have a := h.e; rw [q, h.w.p] at a; cases a
theorem EncAt.n3 (h : EncAt st e l tb pl ss x n) : e ≠ tb := fun q => by
  have a := h.e; rw [q, h.w.t] at a; simp [encO] at a
theorem EncAt.lt (h : EncAt st e l tb pl ss x n) : e < st.length := (List.getElem?_eq_some_iff.mp h.e).1
theorem EncAt.we (h : EncAt st e l tb pl ss x n) : WkAt (st.set e (encO l m)) l tb pl ss x := ⟨by rw [List.getElem?_set_ne h.n1]; exact h.w.w, by rw [List.getElem?_set_ne h.n2]; exact h.w.p, by unfold TbAt; rw [List.getElem?_set_ne h.n3]; exact h.w.t⟩
theorem EncAt.set (h : EncAt st e l tb pl ss x n) : EncAt (eset st e l tb pl y m) e l tb pl ss y m := by
  refine ⟨?_, (h.we).wset⟩
  unfold eset wset
  rw [List.getElem?_set_ne (Ne.symm h.n2), List.getElem?_set_ne (Ne.symm h.n1), List.getElem?_set_self h.lt]
theorem eset_len : (eset st e l tb pl y m).length = st.length := by simp [eset, wset]
theorem EncAt.same (h : EncAt st e l tb pl ss x n) : eset st e l tb pl x n = st := by
  unfold eset
  rw [set_same h.e, h.w.same]
theorem EncAt.wst (h : EncAt st e l tb pl ss x n) : EncAt (wset st l tb pl y) e l tb pl ss y n := by
  refine ⟨?_, h.w.wset⟩
  unfold wset
  rw [List.getElem?_set_ne (Ne.symm h.n2), List.getElem?_set_ne (Ne.symm h.n1)]
  exact h.e
theorem EncAt.wse (h : EncAt st e l tb pl ss x n) : (wset st l tb pl y).set e (encO l m) = eset st e l tb pl y m := by
  unfold eset wset
  rw [List.set_comm _ _ (Ne.symm h.n2), List.set_comm _ _ (Ne.symm h.n1)]
theorem eset_eset {z : WS} {m' : Nat} (h : EncAt st e l tb pl ss x n) : eset (eset st e l tb pl y m) e l tb pl z m' = eset st e l tb pl z m' := by
  have a := (h.set (y := y) (m := m)).wse (y := z) (m := m')
  rw [← a]
  unfold eset
  rw [wset_wset h.w.ne1]
  have b := (EncAt.wse (st := st.set e (encO l m)) (e := e) (l := l) (tb := tb) (pl := pl) (ss := ss) (x := x) (n := m) ⟨List.getElem?_set_self h.lt, h.we⟩ (y := z) (m := m'))
  rw [b]
  unfold eset
  rw [List.set_set]
/-- the first places are those of ahead, or closed -/
theorem pfx_eset (h : EncAt st e l tb pl ss x n) (hf : KvF y.kv) (js : Store) : pfx st.length st (eset st e l tb pl y m ++ js) = true :=
  pfx_of fun i o ho => by
    have hi := (List.getElem?_eq_some_iff.mp ho).1
    rw [List.getElem?_append_left (by rw [eset_len]; exact hi)]
    unfold eset wset
    have hl := h.w.ll
    have hp := h.w.lp
    have ht := h.w.lt
    by_cases c : i = pl
    · subst c
      rw [List.getElem?_set_self (by simpa using hi)]
      obtain ⟨a, b⟩ := cl_kv (m := st.length) hf
      exact ⟨_, rfl, .inr (by simp only [O.cl, a, b, Bool.and_self])⟩
    · rw [List.getElem?_set_ne (Ne.symm c)]
      by_cases c2 : i = l
      · subst c2
        rw [List.getElem?_set_self (by simpa using hi)]
        exact ⟨_, rfl, .inr (by simp [wkO, O.cl, ht, hp])⟩
      · rw [List.getElem?_set_ne (Ne.symm c2)]
        by_cases c3 : i = e
        · subst c3
          rw [List.getElem?_set_self hi]
          exact ⟨_, rfl, .inr (by simp [encO, O.cl, hl])⟩
        · rw [List.getElem?_set_ne (Ne.symm c3)]
          exact ⟨o, ho, .inl rfl⟩
end
section
variable {P : Prog} (E : EncP P)
include E
theorem mk_enc (k : Nat) {st : Store} {tb : Nat} {ss : List Sta} (ht : TbAt st tb ss) : mkR P.G (run P (k + 3)) 3 [.ref tb] st = .ok (.ref st.length) (st ++ [encO (st.length + 1) 0, wkO tb (st.length + 2) x00, .dct false []]) := by
  have hl : tb < st.length := (List.getElem?_eq_some_iff.mp ht).1
  have e : run P (k + 3) 245 [.ref st.length, .ref tb] (st ++ [.ins 3 []]) = .ok .non (st ++ [encO (st.length + 1) 0, wkO tb (st.length + 2) x00, .dct false []]) := by
    rw [run_eq E.h245]
    have e1 := need_table235 E.W.T (k + 1) (st := st ++ [.ins 3 []]) (l := tb) (ss := ss) (by unfold TbAt; rw [List.getElem?_append_left hl]; exact ht)
    have e2 := mk_walk E.W k (st ++ [.ins 3 []]) tb (by simp; omega)
    simp only [List.append_assoc, List.cons_append, List.nil_append, List.length_append, List.length_cons, List.length_nil, Nat.zero_add] at e2
    have s1 : setField (.ref st.length) 8 (.ref (st.length + 1)) (st ++ [.ins 3 [], wkO tb (st.length + 2) x00, .dct false []]) = .ok .non (st ++ [.ins 3 [(8, .ref (st.length + 1))], wkO tb (st.length + 2) x00, .dct false []]) := by simp [setField, putF]
    have s2 : setField (.ref st.length) 9 (.int 0) (st ++ [.ins 3 [(8, .ref (st.length + 1))], wkO tb (st.length + 2) x00, .dct false []]) = .ok .non (st ++ [.ins 3 [(8, .ref (st.length + 1)), (9, .int 0)], wkO tb (st.length + 2) x00, .dct false []]) := by simp [setField, putF]
    simp [exs, bd245, EVa, place, List.map_cons, List.map_nil, List.cons_append, List.nil_append, Nat.reduceSub, List.replicate_succ, List.replicate_zero, List.getElem?_cons_zero, List.getElem?_cons_succ, Option.join_some, e1, e2, s1, s2]
    unfold gc
    have q : pfx (st ++ [O.ins 3 []]).length (st ++ [O.ins 3 []]) (st ++ [.ins 3 [(8, .ref (st.length + 1)), (9, .int 0)], wkO tb (st.length + 2) x00, .dct false []]) = false := by
      rw [pfx_one]
      simp [O.cl, O.beq]
    simp only [q]
    rfl
  simp only [mkR, E.hI, e, R.bind_ok]
theorem encAt_mk {st : Store} {tb : Nat} {ss : List Sta} (ht : TbAt st tb ss) : EncAt (st ++ [encO (st.length + 1) 0, wkO tb (st.length + 2) x00, .dct false []]) st.length (st.length + 1) tb (st.length + 2) ss x00 0 := by
  have hl : tb < st.length := (List.getElem?_eq_some_iff.mp ht).1
  exact ⟨by simp, by simp [List.getElem?_append], by simp [List.getElem?_append, x00], by unfold TbAt; rw [List.getElem?_append_left hl]; exact ht⟩
theorem put248 (k : Nat) {st : Store} {e l tb pl n : Nat} {ss : List Sta} {x : WS} (h : EncAt st e l tb pl ss x n) (tk : TbOk ss) (ok : x.Ok ss) (hf : KvF x.kv) (hz : x.kv.length < 16777216) (b c : Int) (hn : n < 4000) (b0 : 0 ≤ b) (b1 : b ≤ 1) (c0 : 0 ≤ c) (c1 : c ≤ 31) :
    run P (k + 4) 248 [.ref e, .int b, .int c] st = .ok .non (eset st e l tb pl (x.step ss b c) (n + 1)) := by
  rw [run_eq E.h248]
  have e1 := step240 E.W k h.w tk ok hf hz b c
  have m4 := meth4 E.W k h.w
  have hw := h.wst (y := x.step ss b c)
  have f8 : field (.ref e) 8 st = .ok (.ref l) st := field_ins h.e rfl
  have f9 : field (.ref e) 9 st = .ok (.int (n : Nat)) st := field_ins h.e rfl
  have g9 : field (.ref e) 9 (wset st l tb pl (x.step ss b c)) = .ok (.int (n : Nat)) (wset st l tb pl (x.step ss b c)) := field_ins hw.e rfl
  have s9 : setField (.ref e) 9 (.int ((n : Int) + 1)) (wset st l tb pl (x.step ss b c)) = .ok .non (eset st e l tb pl (x.step ss b c) (n + 1)) := by
    rw [← h.wse]
    simp only [setField, hw.e, encO, List.length_cons, List.length_nil, R.grd]
    rfl
  have nn : ¬ (n : Int) = 4000 := by omega
  simp [exs, bd248, EVa, place, List.map_cons, List.map_nil, List.cons_append, List.nil_append, Nat.reduceSub, List.replicate_succ, List.replicate_zero, List.getElem?_cons_zero, List.getElem?_cons_succ, Option.join_some, is_in_int E.W.T.h0 E.W.T.h1, b0, b1, c0, c1, f8, f9, nn, m4, e1, g9, s9]
  rw [gc_ret (by have := pfx_eset (m := n + 1) (y := x.step ss b c) h (WS.step_f hf b c) []; rwa [List.append_nil] at this) rfl]
  rw [List.take_of_length_le (by rw [eset_len]; exact Nat.le_refl _)]
theorem sorted_t3 {l : Nat} {s : Store} {ps : List T3} (h : s[l]? = some (.lst (ps.map td3))) (hs : ∀ p ∈ ps, sm3 p.1 = true ∧ sm3 p.2.1 = true ∧ sm3 p.2.2 = true) (hl : ps.length < 64) : biSorted (.ref l) s = newL ((sortT3 ps).map td3) s := by
  have t : trsOf (ps.map td3) = some ps := by
    clear h hl
    induction ps with
    | nil => rfl
    | cons p ps ih =>
      obtain ⟨a, b, c⟩ := hs p (List.mem_cons_self ..)
      have := ih fun q hq => hs q (List.mem_cons_of_mem _ hq)
      rw [List.map_cons]
      unfold td3 trsOf
      simp only [a, b, c, Bool.and_self, if_true]
      unfold td3 at this
      rw [this]
  unfold biSorted
  rw [lstOf_lst h]
  cases ps with
  | nil => simp [intsOf, sortI, sortT3]
  | cons p ps =>
    have i : intsOf ((p :: ps).map td3) = none := rfl
    have j : prsOf ((p :: ps).map td3) = none := rfl
    simp only [i, j, t, hl, decide_true, R.grd_true]
theorem told244 (k : Nat) {st : Store} {l tb pl : Nat} {ss : List Sta} {x : WS} {es : List T3} (h : WkAt st l tb pl ss x) (hx : x.kv = kvO es) (ok : EsOk es) : run P (k + 1) 244 [.ref l] st = .ok (tolD es) st := by
  rw [run_eq E.h244]
  have hp := h.p
  rw [hx] at hp
  have hlp := h.lp
  have f4 : field (.ref l) 4 st = .ok (.ref pl) st := h.f4
  obtain ⟨st1, h1⟩ : ∃ st1, st1 = st.set pl (.dlk false (kvO es)) := ⟨_, rfl⟩
  have len1 : st1.length = st.length := by rw [h1]; simp
  have f41 : field (.ref l) 4 st1 = .ok (.ref pl) st1 := field_ins (by rw [h1, List.getElem?_set_ne (Ne.symm h.ne1)]; exact h.w) rfl
  have g1 : st1[pl]? = some (.dlk false (kvO es)) := by rw [h1, List.getElem?_set_self hlp]
  have hl := ok.len
  have ec := comp_pure (G := P.G) (call := run P k) (own := [1, 2]) (e := .tup (.cons (.var 1) (.spl (.var 2) .nil))) (t := .tp [.nm 1, .nm 2]) (i := .ditm (.fld (.var 0) 4)) (c := .none) (ρ := [some (.ref l), none, none]) (st := st1) (s := st1) (w := ⟨(kvO es).map fun p => .tup [p.1, p.2], [(pl, .dlk false (kvO es))]⟩)
    (fun d => match d with | .tup [c, .tup [s, b]] => some (.tup [c, s, b]) | _ => none) (by simp [EVa, place, List.map_cons, List.map_nil, List.cons_append, List.nil_append, Nat.reduceSub, List.replicate_succ, List.replicate_zero, List.getElem?_cons_zero, List.getElem?_cons_succ, Option.join_some, f41, wkItm_dlk g1]) (by simp [watOk, g1, O.beq_refl]) (fun d hd => by
      obtain ⟨p, hp, rfl⟩ := List.mem_map.mp hd
      obtain ⟨q, hq, rfl⟩ := List.mem_map.mp hp
      simp [stp, forget, EVa, place, List.map_cons, List.map_nil, List.cons_append, List.nil_append, Nat.reduceSub, List.replicate_succ, List.replicate_zero, List.getElem?_cons_zero, List.getElem?_cons_succ, Option.join_some, evs_spl, plD, seqR, seqW, seqOf])
  have hm : ((kvO es).map fun p => D.tup [p.1, p.2]).filterMap (fun d => match d with | .tup [c, .tup [s, b]] => some (.tup [c, s, b]) | _ => none) = es.map td3 := by
    clear ec g1 f41 h1 hp hx
    unfold kvO
    rw [List.map_map, List.filterMap_map]
    exact fm_some td3 es
  simp only [hm] at ec
  rw [newL_ok' (by simp; omega)] at ec
  have back : (st1 ++ [O.lst (es.map td3)])[pl]? = some (.dlk false (kvO es)) := by rw [List.getElem?_append_left (by omega)]; exact g1
  have bk : (st1 ++ [O.lst (es.map td3)]).set pl (.dct false (kvO es)) = st ++ [O.lst (es.map td3)] := by
    rw [List.set_append_left _ _ (by omega), h1, List.set_set, set_same hp]
  have lk : ev P.G (run P k) (.lck (.fld (.var 0) 4) (.comp [1, 2] (.tup (.cons (.var 1) (.spl (.var 2) .nil))) (.tp [(.nm 1), (.nm 2)]) (.ditm (.fld (.var 0) 4)) .none)) [some (.ref l), none, none] st = .ok (.ref st.length) (st ++ [O.lst (es.map td3)]) := by
    rw [ev_lck]
    have fe : ev P.G (run P k) (.fld (.var 0) 4) [some (.ref l), none, none] st = .ok (.ref pl) st := by simp [EVa, place, List.map_cons, List.map_nil, List.cons_append, List.nil_append, Nat.reduceSub, List.replicate_succ, List.replicate_zero, List.getElem?_cons_zero, List.getElem?_cons_succ, Option.join_some, f4]
    rw [fe, lckR_dct hp, ← h1, ec]
    simp only [R.bind_ok, back, bk, len1]
  have so := sorted_t3 E (l := st.length) (s := st ++ [O.lst (es.map td3)]) (ps := es) (by simp) (fun p hp => by
    have a := ok.lo p hp
    have b := ok.b2 p hp
    have c := ok.b3 p hp
    simp [sm3]; omega) (by omega)
  have sl : (sortT3 es).length = es.length := sortT3_p.length_eq
  rw [newL_ok' (by simp; omega)] at so
  have mk : biMkt (.ref (st.length + 1)) (st ++ [.lst (es.map td3), .lst ((sortT3 es).map td3)]) = .ok (tolD es) (st ++ [.lst (es.map td3), .lst ((sortT3 es).map td3)]) := by
    rw [mkt_seq (ds := (sortT3 es).map td3) (by simp [seqOf, List.getElem?_append]), newT_ok' (by simp; omega)]; rfl
  have bs : ∀ (d : D) (s : Store), builtin .sorted [d] s = biSorted d s := fun _ _ => rfl
  simp [exs, bd244, EVa, place, List.map_cons, List.map_nil, List.cons_append, List.nil_append, Nat.reduceSub, List.replicate_succ, List.replicate_zero, List.getElem?_cons_zero, List.getElem?_cons_succ, Option.join_some, lk, bs, so, mk]
  refine gc_same _ ?_
  unfold tolD
  rw [cl_tup]
  generalize sortT3 es = ts
  induction ts with
  | nil => rfl
  | cons t ts ih => simp [td3]; simpa [td3] using ih
theorem states247 (k : Nat) {st : Store} {e l tb pl n : Nat} {ss : List Sta} {x : WS} {es : List T3} (h : EncAt st e l tb pl ss x n) (hx : x.kv = kvO es) (ok : EsOk es) : propR P.G (run P (k + 2)) 1 (.ref e) st = .ok (tolD es) st := by
  have f8 : field (.ref e) 8 st = .ok (.ref l) st := field_ins h.e rfl
  have e1 := told244 E k h.w hx ok
  have ce : clsOf (.ref e) st = some 3 := by simp [clsOf, h.e, encO]
  simp only [propR, methF, ce, E.p1]
  rw [run_eq E.h247]
  simp [exs, bd247, EVa, place, List.map_cons, List.map_nil, List.cons_append, List.nil_append, Nat.reduceSub, List.replicate_succ, List.replicate_zero, List.getElem?_cons_zero, List.getElem?_cons_succ, Option.join_some, f8, e1]
  refine gc_id ?_
  unfold tolD
  rw [cl_tup]
  generalize sortT3 es = ts
  induction ts with
  | nil => rfl
  | cons t ts ih => simp [td3]; simpa [td3] using ih
theorem methPut {st : Store} {e l tb pl n : Nat} {ss : List Sta} {x : WS} (h : EncAt st e l tb pl ss x n) : methF P.G.meth 6 (.ref e) st = some 248 := by simp [methF, clsOf, h.e, encO, E.m6]
end
/-- told states are plain data -/
theorem pl_tol {es : List T3} (ok : EsOk es) : D.pl 3 (tolD es) = true := by
  have sl : (sortT3 es).length = es.length := sortT3_p.length_eq
  have hl := ok.len
  unfold tolD
  simp [D.pl, td3, sl]
  omega
section
variable {G : Ctx} {call : Nat → List D → Store → R D}
/-- a dict's sorted keys -/
theorem keys_law {i : Nat} {ρ : Env} {st : Store} {pl : Nat} {es : List T3} (hv : ρ[i]?.join = some (.ref pl)) (hp : st[pl]? = some (.dct false (kvO es))) (ok : EsOk es) :
    ev G call (.bi .sorted (.cons (.bi .mkl (.cons (.var i) .nil)) .nil)) ρ st = .ok (.ref (st.length + 1)) (st ++ [.lst ((es.map (·.1)).map .int), .lst ((sortI (es.map (·.1))).map .int)]) := by
  have hl := ok.len
  have mk : biMkl (.ref pl) st = .ok (.ref st.length) (st ++ [.lst ((es.map (·.1)).map .int)]) := by
    unfold biMkl
    have a : seqOf (.ref pl) st = none := by simp [seqOf, hp]
    have b : dctOf (.ref pl) st = some (false, kvO es) := dctOf_dct hp
    simp only [a, b]
    have c : (kvO es).map (·.1) = (es.map (·.1)).map .int := by unfold kvO; rw [List.map_map, List.map_map]; rfl
    rw [c, newL_ok' (by simp; omega)]
  have so : biSorted (.ref st.length) (st ++ [.lst ((es.map (·.1)).map .int)]) = .ok (.ref (st.length + 1)) (st ++ [.lst ((es.map (·.1)).map .int), .lst ((sortI (es.map (·.1))).map .int)]) := by
    unfold biSorted
    have io : ∀ is : List Int, intsOf (is.map .int) = some is := fun is => by
      induction is with
      | nil => rfl
      | cons a is ih => simp only [List.map_cons, intsOf, ih]
    rw [lstOf_lst (ds := (es.map (·.1)).map .int) (by simp), ]
    simp only [io]
    have sl : (sortI (es.map (·.1))).length = es.length := by rw [sortI_p.length_eq]; simp
    rw [newL_ok' (by rw [List.length_map, sl]; omega)]
    simp
  have bs : ∀ (d : D) (s : Store), builtin .sorted [d] s = biSorted d s := fun _ _ => rfl
  rw [ev_bi, evs_cons, ev_bi, evs_cons, ev_var, hv]
  simp only [ofO_some, R.bind_ok, evs_nil, bi_mkl, mk, bs, so]
/-- the law's word for told states -/
theorem told_law {i j : Nat} {ρ : Env} {st : Store} {pl : Nat} {es : List T3} (hj : j < ρ.length) (hij : i ≠ j) (hv : ρ[i]?.join = some (.ref pl)) (hp : st[pl]? = some (.dct false (kvO es))) (ok : EsOk es) :
    ∃ js, ev G call (.bi .mkt (.cons (.comp [j] (.bin .add (.tup (.cons (.var j) .nil)) (.idx (.var i) (.var j))) (.nm j) (.seq (.bi .sorted (.cons (.bi .mkl (.cons (.var i) .nil)) .nil))) .none) .nil)) ρ st = .ok (tolD es) (st ++ js) := by
  have hl := ok.len
  obtain ⟨K, hK⟩ : ∃ K, K = sortI (es.map (·.1)) := ⟨_, rfl⟩
  have sl : K.length = es.length := by rw [hK, sortI_p.length_eq]; simp
  have hk := keys_law (G := G) (call := call) hv hp ok
  rw [← hK] at hk
  obtain ⟨s, hs⟩ : ∃ s, s = st ++ [O.lst ((es.map (·.1)).map .int), .lst (K.map .int)] := ⟨_, rfl⟩
  rw [← hs] at hk
  have hps : s[pl]? = some (.dct false (kvO es)) := by rw [hs, List.getElem?_append_left (List.getElem?_eq_some_iff.mp hp).1]; exact hp
  have hls : s[st.length + 1]? = some (.lst (K.map .int)) := by rw [hs]; simp [List.getElem?_append]
  have ec := comp_pure (G := G) (call := call) (own := [j]) (e := .bin .add (.tup (.cons (.var j) .nil)) (.idx (.var i) (.var j))) (t := .nm j) (i := .seq (.bi .sorted (.cons (.bi .mkl (.cons (.var i) .nil)) .nil))) (c := .none) (ρ := ρ) (st := st) (s := s) (w := ⟨K.map .int, [(st.length + 1, .lst (K.map .int))]⟩)
    (fun d => match d with | .int c => some (td3 (c, (eGet es c).getD (0, 0))) | _ => none) (by rw [evi_seq, hk, R.bind_ok, wkSeq_lst hls]) (by simp [watOk, hls, O.beq_refl]) (fun d hd => by
      obtain ⟨c, hc, rfl⟩ := List.mem_map.mp hd
      rw [hK] at hc
      obtain ⟨v, hv1, hv2⟩ := eGet_some (sortI_p.mem_iff.mp hc) ok
      have ix := index_dct (k := .int c) (d := plD v) hps rfl (by rw [kvO_get, hv1]; rfl)
      have q1 : (((forget ρ [j]).set j (some (.int c)))[j]?).join = some (.int c) := by simp [forget, hj]
      have q2 : (((forget ρ [j]).set j (some (.int c)))[i]?).join = some (.ref pl) := by simp only [forget]; rw [List.getElem?_set_ne (Ne.symm hij), List.getElem?_set_ne (Ne.symm hij)]; exact hv
      unfold stp
      rw [asg_nm]
      simp only [evOc_none, R.bind_ok, ev_bin, ev_tup, evs_cons, evs_nil, ev_var, q1, q2, ofO_some, newT_ok' (show [D.int c].length ≤ 16777216 by simp), ev_idx, ix]
      simp [plD, EVa, place, List.map_cons, List.map_nil, List.cons_append, List.nil_append, Nat.reduceSub, List.replicate_succ, List.replicate_zero, List.getElem?_cons_zero, List.getElem?_cons_succ, Option.join_some, td3, hv1])
  have hm : (K.map D.int).filterMap (fun d => match d with | .int c => some (td3 (c, (eGet es c).getD (0, 0))) | _ => none) = (sortT3 es).map td3 := by
    rw [sort_es ok, ← hK, List.map_map, List.filterMap_map]
    exact fm_some (fun c : Int => td3 (c, (eGet es c).getD (0, 0))) K
  have sl2 : (sortT3 es).length = es.length := sortT3_p.length_eq
  simp only [hm] at ec
  rw [newL_ok' (by simp; omega)] at ec
  refine ⟨[.lst ((es.map (·.1)).map .int), .lst (K.map .int), .lst ((sortT3 es).map td3)], ?_⟩
  rw [ev_bi, evs_cons, ec]
  have mk : biMkt (.ref s.length) (s ++ [.lst ((sortT3 es).map td3)]) = .ok (tolD es) (s ++ [.lst ((sortT3 es).map td3)]) := by
    rw [mkt_seq (ds := (sortT3 es).map td3) (by simp [seqOf]), newT_ok' (by simp; omega)]; rfl
  simp only [R.bind_ok, evs_nil, bi_mkt, mk]
  rw [hs]; simp
end
end Nz
namespace K23
open Nz PySem
def top (i : Nat) : Stmt := PySem.Challenge.pw_bandpress_k23_whole_states_of_contexts.main.body.getD i (.Pass ⟨0, 0, 0, 0⟩)
def T0 : Tab := { N := [], dts := [], kfs := ([] : List (PySem.Str × Nat × PySem.Str × Option Nz.D)), fns := ([(("_wall" : PySem.Str), 233), (("is_integer" : PySem.Str), 0), (("is_in" : PySem.Str), 1), (("is_list" : PySem.Str), 2), (("is_state" : PySem.Str), 224), (("need_table" : PySem.Str), 235), (("written" : PySem.Str), 242), (("shortest" : PySem.Str), 243), (("told_states" : PySem.Str), 244), (("_law_taken" : PySem.Str), 10), (("_law_pick" : PySem.Str), 11), (("_law_alike" : PySem.Str), 13), (("_law_states" : PySem.Str), 229), (("_law_bits" : PySem.Str), 251), (("_law_contexts" : PySem.Str), 252), (("_law_pairs" : PySem.Str), 253), (("_law_walk" : PySem.Str), 254), (("law" : PySem.Str), 255)] : List (PySem.Str × Nat)), cls := ([(("Table" : PySem.Str), 1), (("Walk" : PySem.Str), 2), (("Encoder" : PySem.Str), 3)] : List (PySem.Str × Nat)), cons := ([(("MOST_STATES" : PySem.Str), (.int (32) : Nz.D)), (("WHOLE" : PySem.Str), (.int (64) : Nz.D)), (("MOST_CODED" : PySem.Str), (.int (4000) : Nz.D)), (("MOST_CONTEXT" : PySem.Str), (.int (31) : Nz.D)), (("FULL" : PySem.Str), (.int (65536) : Nz.D)), (("HALF" : PySem.Str), (.int (32768) : Nz.D))] : List (PySem.Str × Nz.D)), fld := ([("index" : PySem.Str), ("given" : PySem.Str), ("most" : PySem.Str), ("table" : PySem.Str), ("places" : PySem.Str), ("low" : PySem.Str), ("width" : PySem.Str), ("doublings" : PySem.Str), ("walk" : PySem.Str), ("many" : PySem.Str)] : List PySem.Str), mth := ([("__eq__" : PySem.Str), ("restart" : PySem.Str), ("place" : PySem.Str), ("common_part" : PySem.Str), ("step" : PySem.Str), ("size" : PySem.Str), ("put" : PySem.Str), ("put_all" : PySem.Str), ("flush" : PySem.Str)] : List PySem.Str), prp := ([("?p0" : PySem.Str), ("states" : PySem.Str), ("coded" : PySem.Str)] : List PySem.Str), free := ([("isinstance" : PySem.Str), ("len" : PySem.Str), ("range" : PySem.Str), ("int" : PySem.Str), ("bool" : PySem.Str), ("str" : PySem.Str), ("tuple" : PySem.Str), ("list" : PySem.Str), ("min" : PySem.Str), ("max" : PySem.Str), ("sorted" : PySem.Str), ("enumerate" : PySem.Str), ("ValueError" : PySem.Str), ("property" : PySem.Str), ("super" : PySem.Str)] : List PySem.Str) }
def L0 : Prog := ⟨[(233, (⟨1, 1, bd233⟩ : Nz.Df)), (0, (⟨1, 1, bd0⟩ : Nz.Df)), (1, (⟨3, 3, bd1⟩ : Nz.Df)), (2, (⟨3, 3, bd2⟩ : Nz.Df)), (224, (⟨2, 2, bd224⟩ : Nz.Df)), (225, (⟨2, 4, bd225⟩ : Nz.Df)), (226, (⟨1, 1, bd226⟩ : Nz.Df)), (227, (⟨2, 2, bd227⟩ : Nz.Df)), (235, (⟨1, 1, bd235⟩ : Nz.Df)), (236, (⟨2, 2, bd236⟩ : Nz.Df)), (237, (⟨1, 1, bd237⟩ : Nz.Df)), (238, (⟨2, 2, bd238⟩ : Nz.Df)), (239, (⟨2, 2, bd239⟩ : Nz.Df)), (240, (⟨3, 8, bd240⟩ : Nz.Df)), (241, (⟨1, 1, bd241⟩ : Nz.Df)), (242, (⟨2, 4, bd242⟩ : Nz.Df)), (243, (⟨1, 4, bd243⟩ : Nz.Df)), (244, (⟨1, 3, bd244⟩ : Nz.Df)), (245, (⟨2, 2, bd245⟩ : Nz.Df)), (246, (⟨1, 1, bd246⟩ : Nz.Df)), (247, (⟨1, 1, bd247⟩ : Nz.Df)), (248, (⟨3, 3, bd248⟩ : Nz.Df)), (250, (⟨1, 2, bd250⟩ : Nz.Df)), (10, (⟨2, 4, bd10⟩ : Nz.Df)), (11, (⟨2, 2, bd11⟩ : Nz.Df)), (13, (⟨2, 3, bd13⟩ : Nz.Df)), (229, (⟨1, 11, bd229⟩ : Nz.Df)), (251, (⟨2, 4, bd251⟩ : Nz.Df)), (252, (⟨2, 5, bd252⟩ : Nz.Df)), (253, (⟨2, 5, bd253⟩ : Nz.Df)), (254, (⟨3, 15, bd254⟩ : Nz.Df)), (255, (⟨1, 11, bd255⟩ : Nz.Df))], ⟨[[(1, 227)], [(2, 237)], [(2, 238)], [(2, 239)], [(2, 240)], [(2, 241)], [(3, 248)], [], [(3, 250)]], [[], [(1, 226), (3, 247)], [(3, 246)]], [none, some 225, some 236, some 245]⟩⟩
def cn0 : List (Option PySem.Str) := [none, some "Table", some "Walk", some "Encoder"]
def dd0 : List (Nat × Dd) := [
  (233, (⟨.glo "_wall", "_wall", "_wall", L2.defArgs (top 0), L2.defBody (top 0), L2.defScope (top 0), ["k"], ["k"]⟩ : Dd)),
  (0, (⟨.glo "is_integer", "is_integer", "is_integer", L2.defArgs (top 2), L2.defBody (top 2), L2.defScope (top 2), ["value"], ["value"]⟩ : Dd)),
  (1, (⟨.glo "is_in", "is_in", "is_in", L2.defArgs (top 3), L2.defBody (top 3), L2.defScope (top 3), ["value", "least", "most"], ["value", "least", "most"]⟩ : Dd)),
  (2, (⟨.glo "is_list", "is_list", "is_list", L2.defArgs (top 4), L2.defBody (top 4), L2.defScope (top 4), ["value", "least", "most"], ["value", "least", "most"]⟩ : Dd)),
  (224, (⟨.glo "is_state", "is_state", "is_state", L2.defArgs (top 15), L2.defBody (top 15), L2.defScope (top 15), ["value", "count"], ["value", "count"]⟩ : Dd)),
  (225, (⟨.met "Table" "__init__", "__init__", "Table.__init__", L2.defArgs (L2.inClass (top 16) 0), L2.defBody (L2.inClass (top 16) 0), L2.defScope (L2.inClass (top 16) 0), ["self", "states", "index", "state"], ["self", "states"]⟩ : Dd)),
  (226, (⟨.prp "Table" "states", "states", "Table.states", L2.defArgs (L2.inClass (top 16) 1), L2.defBody (L2.inClass (top 16) 1), L2.defScope (L2.inClass (top 16) 1), ["self"], ["self"]⟩ : Dd)),
  (227, (⟨.met "Table" "__eq__", "__eq__", "Table.__eq__", L2.defArgs (L2.inClass (top 16) 2), L2.defBody (L2.inClass (top 16) 2), L2.defScope (L2.inClass (top 16) 2), ["self", "other"], ["self", "other"]⟩ : Dd)),
  (235, (⟨.glo "need_table", "need_table", "need_table", L2.defArgs (top 17), L2.defBody (top 17), L2.defScope (top 17), ["value"], ["value"]⟩ : Dd)),
  (236, (⟨.met "Walk" "__init__", "__init__", "Walk.__init__", L2.defArgs (L2.inClass (top 23) 0), L2.defBody (L2.inClass (top 23) 0), L2.defScope (L2.inClass (top 23) 0), ["self", "table"], ["self", "table"]⟩ : Dd)),
  (237, (⟨.met "Walk" "restart", "restart", "Walk.restart", L2.defArgs (L2.inClass (top 23) 1), L2.defBody (L2.inClass (top 23) 1), L2.defScope (L2.inClass (top 23) 1), ["self"], ["self"]⟩ : Dd)),
  (238, (⟨.met "Walk" "place", "place", "Walk.place", L2.defArgs (L2.inClass (top 23) 2), L2.defBody (L2.inClass (top 23) 2), L2.defScope (L2.inClass (top 23) 2), ["self", "context"], ["self", "context"]⟩ : Dd)),
  (239, (⟨.met "Walk" "common_part", "common_part", "Walk.common_part", L2.defArgs (L2.inClass (top 23) 3), L2.defBody (L2.inClass (top 23) 3), L2.defScope (L2.inClass (top 23) 3), ["self", "context"], ["self", "context"]⟩ : Dd)),
  (240, (⟨.met "Walk" "step", "step", "Walk.step", L2.defArgs (L2.inClass (top 23) 4), L2.defBody (L2.inClass (top 23) 4), L2.defScope (L2.inClass (top 23) 4), ["self", "bit", "context", "state", "common", "first", "rest", "grown"], ["self", "bit", "context"]⟩ : Dd)),
  (241, (⟨.met "Walk" "size", "size", "Walk.size", L2.defArgs (L2.inClass (top 23) 5), L2.defBody (L2.inClass (top 23) 5), L2.defScope (L2.inClass (top 23) 5), ["self"], ["self"]⟩ : Dd)),
  (242, (⟨.glo "written", "written", "written", L2.defArgs (top 24), L2.defBody (top 24), L2.defScope (top 24), ["number", "count", "found", "turn"], ["number", "count"]⟩ : Dd)),
  (243, (⟨.glo "shortest", "shortest", "shortest", L2.defArgs (top 25), L2.defBody (top 25), L2.defScope (top 25), ["walk", "count", "power", "least"], ["walk"]⟩ : Dd)),
  (244, (⟨.glo "told_states", "told_states", "told_states", L2.defArgs (top 27), L2.defBody (top 27), L2.defScope (top 27), ["walk", "context", "place"], ["walk"]⟩ : Dd)),
  (245, (⟨.met "Encoder" "__init__", "__init__", "Encoder.__init__", L2.defArgs (L2.inClass (top 28) 0), L2.defBody (L2.inClass (top 28) 0), L2.defScope (L2.inClass (top 28) 0), ["self", "table"], ["self", "table"]⟩ : Dd)),
  (246, (⟨.prp "Encoder" "coded", "coded", "Encoder.coded", L2.defArgs (L2.inClass (top 28) 1), L2.defBody (L2.inClass (top 28) 1), L2.defScope (L2.inClass (top 28) 1), ["self"], ["self"]⟩ : Dd)),
  (247, (⟨.prp "Encoder" "states", "states", "Encoder.states", L2.defArgs (L2.inClass (top 28) 2), L2.defBody (L2.inClass (top 28) 2), L2.defScope (L2.inClass (top 28) 2), ["self"], ["self"]⟩ : Dd)),
  (248, (⟨.met "Encoder" "put", "put", "Encoder.put", L2.defArgs (L2.inClass (top 28) 3), L2.defBody (L2.inClass (top 28) 3), L2.defScope (L2.inClass (top 28) 3), ["self", "bit", "context"], ["self", "bit", "context"]⟩ : Dd)),
  (250, (⟨.met "Encoder" "flush", "flush", "Encoder.flush", L2.defArgs (L2.inClass (top 28) 5), L2.defBody (L2.inClass (top 28) 5), L2.defScope (L2.inClass (top 28) 5), ["self", "found"], ["self"]⟩ : Dd)),
  (10, (⟨.glo "_law_taken", "_law_taken", "_law_taken", L2.defArgs (top 30), L2.defBody (top 30), L2.defScope (top 30), ["row", "many", "found", "cell"], ["row", "many"]⟩ : Dd)),
  (11, (⟨.glo "_law_pick", "_law_pick", "_law_pick", L2.defArgs (top 31), L2.defBody (top 31), L2.defScope (top 31), ["row", "things"], ["row", "things"]⟩ : Dd)),
  (13, (⟨.glo "_law_alike", "_law_alike", "_law_alike", L2.defArgs (top 32), L2.defBody (top 32), L2.defScope (top 32), ["found", "due", "k"], ["found", "due"]⟩ : Dd)),
  (229, (⟨.glo "_law_states", "_law_states", "_law_states", L2.defArgs (top 33), L2.defBody (top 33), L2.defScope (top 33), ["row", "way", "many", "shares", "found", "at", "least", "flips", "share", "turns", "after"], ["row"]⟩ : Dd)),
  (251, (⟨.glo "_law_bits", "_law_bits", "_law_bits", L2.defArgs (top 34), L2.defBody (top 34), L2.defScope (top 34), ["row", "count", "way", "at"], ["row", "count"]⟩ : Dd)),
  (252, (⟨.glo "_law_contexts", "_law_contexts", "_law_contexts", L2.defArgs (top 35), L2.defBody (top 35), L2.defScope (top 35), ["row", "count", "many", "first", "at"], ["row", "count"]⟩ : Dd)),
  (253, (⟨.glo "_law_pairs", "_law_pairs", "_law_pairs", L2.defArgs (top 36), L2.defBody (top 36), L2.defScope (top 36), ["row", "count", "bits", "contexts", "at"], ["row", "count"]⟩ : Dd)),
  (254, (⟨.glo "_law_walk", "_law_walk", "_law_walk", L2.defArgs (top 37), L2.defBody (top 37), L2.defScope (top 37), ["states", "places", "pairs", "low", "width", "many", "bit", "context", "state", "common", "share", "usual", "rarely", "flips", "rare"], ["states", "places", "pairs"]⟩ : Dd)),
  (255, (⟨.glo "law", "law", "law", L2.defArgs (top 38), L2.defBody (top 38), L2.defScope (top 38), ["script", "row", "turn", "states", "table", "pairs", "places", "coder", "pair", "context", "alone"], ["script"]⟩ : Dd))]
end K23
namespace K23
open Nz
def ρ₀ : Nz.Env := [some (.ref 0), some (.ref 1), none, none, none, none, none, none, none, none, none]
def body : Ss := match bd255 with
  | .cons _ (.cons (.for_ _ _ b) _) => b
  | _ => .nil
def body1 : Ss := match body with
  | .cons _ (.cons _ (.cons _ (.cons (.for_ _ _ b) _))) => b
  | _ => .nil
def body2 : Ss := match body with
  | .cons _ (.cons _ (.cons _ (.cons _ (.cons (.for_ _ _ b) _)))) => b
  | _ => .nil
def body3 : Ss := match body2 with
  | .cons _ (.cons (.for_ _ _ b) _) => b
  | _ => .nil
theorem tabP : TabP L0 := ⟨rfl, rfl, rfl, rfl, rfl, rfl, rfl, rfl, rfl⟩
theorem walP : WalP L0 := ⟨tabP, rfl, rfl, rfl, rfl, rfl, rfl, rfl, rfl, rfl, rfl, rfl, rfl⟩
theorem encP : EncP L0 := ⟨walP, rfl, rfl, rfl, rfl, rfl, rfl, rfl⟩
theorem drwP : DrwP L0 := ⟨rfl, rfl⟩
abbrev h13 : L0.defs.lookup 13 = some ⟨2, 3, bd13⟩ := rfl
/-- the store of a turn -/
def sg (ns : List Int) (r : Row) (ss : List Sta) (LL : List D) (es : List T3) (x : WS) (n : Nat) : Store := SR ns r [.ins 1 [(1, tbD ss)], .lst LL, .dct false (kvO es), encO 6 n, wkO 2 7 x, .dct false x.kv]
def ρ₁ (ss : List Sta) (ps : List (Int × Int)) (i : Int) : Nz.Env := [some (.ref 0), some (.ref 1), some (.int i), some (tbD ss), some (.ref 2), some (psD ps), some (.ref 4), some (.ref 5), none, none, none]
structure Inv (ss : List Sta) (es : List T3) (x : WS) (n : Nat) : Prop where
  kv : x.kv = kvO es
  ok : x.Ok ss
  f : KvF x.kv
  e : EsOk es
theorem Inv.step {ss : List Sta} (T : TbOk ss) {es : List T3} {x : WS} {n : Nat} (h : Inv ss es x n) {b c : Int} (c0 : 0 ≤ c) (c1 : c ≤ 31) : Inv ss (esS ss es b c) (x.step ss b c) (n + 1) :=
  ⟨step_kv h.kv b c, WS.step_ok T h.ok b c, WS.step_f h.f b c, esS_ok T h.e (by have := h.ok.kv; rwa [h.kv] at this) b c c0 c1⟩
theorem Inv.len {ss : List Sta} {es : List T3} {x : WS} {n : Nat} (h : Inv ss es x n) : x.kv.length ≤ 32 := by
  rw [h.kv]; unfold kvO; rw [List.length_map]; exact h.e.len
theorem encAt_sg (ns : List Int) (r : Row) (ss : List Sta) (LL : List D) (es : List T3) (x : WS) (n : Nat) : EncAt (sg ns r ss LL es x n) 5 6 2 7 ss x n := ⟨rfl, rfl, rfl, rfl⟩
theorem cls_kvO (n : Nat) (es : List T3) : D.cls n ((kvO es).map (·.1)) = true ∧ D.cls n ((kvO es).map (·.2)) = true :=
  cl_kv fun p hp => by obtain ⟨e, _, rfl⟩ := List.mem_map.mp hp; exact ⟨e.1, e.2.1, e.2.2, rfl⟩
theorem turn1 (ns : List Int) (r : Row) {ss : List Sta} (T : TbOk ss) (LL : List D) (ps : List (Int × Int)) (i : Int) {es : List T3} {x : WS} {n : Nat} (h : Inv ss es x n) (hn : n < 4000) {p : Int × Int} (hp : PrOk p) :
    ∃ js ρ2, exs L0.G (run L0 13) body1 ((ρ₁ ss ps i).set 8 (some (prD2 p))) (sg ns r ss LL es x n) = .ok (.nx, ρ2) (sg ns r ss LL (esS ss es p.1 p.2) (x.step ss p.1 p.2) (n + 1) ++ js) ∧ mask (ρ₁ ss ps i) ρ2 = ρ₁ ss ps i := by
  obtain ⟨b, c⟩ := p
  have b0 := hp.b0
  have b1 := hp.b1
  have c0 := hp.c0
  have c1 := hp.c1
  simp only at b0 b1 c0 c1
  have at1 := encAt_sg ns r ss LL es x n
  have e1 := put248 encP 9 at1 T h.ok h.f (by have := h.len; omega) b c hn b0 b1 c0 c1
  have m1 := methPut encP at1
  have h' := h.step T (b := b) c0 c1
  obtain ⟨s1, hs1⟩ : ∃ s1, s1 = sg ns r ss LL es (x.step ss b c) (n + 1) := ⟨_, rfl⟩
  rw [show eset (sg ns r ss LL es x n) 5 6 2 7 (x.step ss b c) (n + 1) = s1 from by rw [hs1]; rfl] at e1
  have e2 := walk254 (P := L0) rfl 12 (st := s1) (pl := 4) (kv := kvO es) T (by have := h.ok.kv; rwa [h.kv] at this) (by have := h.f; rwa [h.kv] at this) (by rw [hs1]; rfl) [(b, c)] (by have := h.len; rw [h.kv] at this; simp; omega)
  have k2 : (walkF ss ⟨kvO es, 0, 65536, 0⟩ [(b, c)]).kv = kvO (esS ss es b c) := walkF_kv [(b, c)] (x := ⟨kvO es, 0, 65536, 0⟩) rfl
  rw [k2] at e2
  rw [show s1.set 4 (.dct false (kvO (esS ss es b c))) = sg ns r ss LL (esS ss es b c) (x.step ss b c) (n + 1) from by rw [hs1]; rfl] at e2
  obtain ⟨V, hV⟩ : ∃ V, V = D.tup [.int (walkF ss ⟨kvO es, 0, 65536, 0⟩ [(b, c)]).low, .int (walkF ss ⟨kvO es, 0, 65536, 0⟩ [(b, c)]).w, .int ((walkF ss ⟨kvO es, 0, 65536, 0⟩ [(b, c)]).n : Nat)] := ⟨_, rfl⟩
  rw [← hV] at e2
  clear hV k2
  have at2 := encAt_sg ns r ss LL (esS ss es b c) (x.step ss b c) (n + 1)
  have e3 := states247 encP 11 at2 h'.kv h'.e
  obtain ⟨s2, hs2⟩ : ∃ s2, s2 = sg ns r ss LL (esS ss es b c) (x.step ss b c) (n + 1) := ⟨_, rfl⟩
  have g4 : s2[4]? = some (.dct false (kvO (esS ss es b c))) := by rw [hs2]; rfl
  rw [← hs2] at e2 e3 ⊢
  obtain ⟨js, e4⟩ := told_law (G := L0.G) (call := run L0 13) (i := 6) (j := 9) (ρ := (ρ₁ ss ps i).set 8 (some (prD2 (b, c)))) (st := s2) (pl := 4) (es := esS ss es b c) (by simp [ρ₁]) (by decide) rfl g4 h'.e
  have e5 := alike (P := L0) h13 3 (s2 ++ js) _ _ (same_pl _ 3 _ (pl_tol h'.e)) 10
  refine ⟨js, (ρ₁ ss ps i).set 8 (some (prD2 (b, c))), ?_, rfl⟩
  obtain ⟨s0, hs0⟩ : ∃ s0, s0 = sg ns r ss LL es x n := ⟨_, rfl⟩
  rw [← hs0] at e1 m1 ⊢
  clear hs0 hs1 hs2
  obtain ⟨TD, hTD⟩ : ∃ TD, TD = tolD (esS ss es b c) := ⟨_, rfl⟩
  rw [← hTD] at e3 e4 e5
  obtain ⟨TB, hTB⟩ : ∃ TB, TB = tbD ss := ⟨_, rfl⟩
  obtain ⟨PS, hPS⟩ : ∃ PS, PS = psD ps := ⟨_, rfl⟩
  unfold body1 body bd255 ρ₁ at *
  simp only [← hTB, ← hPS, prD2, psD, List.map_cons, List.map_nil, List.set_cons_succ, List.set_cons_zero] at *
  rw [exs_one]
  simp [EVa, place, List.map_cons, List.map_nil, List.cons_append, List.nil_append, Nat.reduceSub, List.replicate_succ, List.replicate_zero, List.getElem?_cons_zero, List.getElem?_cons_succ, Option.join_some, m1, e1]
  rw [exs_one]
  simp [EVa, place, List.map_cons, List.map_nil, List.cons_append, List.nil_append, Nat.reduceSub, List.replicate_succ, List.replicate_zero, List.getElem?_cons_zero, List.getElem?_cons_succ, Option.join_some, e2]
  rw [exs_one]
  simp only [ex_ifs, evC_not, evC_val, ev_call, evs_cons, ev_prop, ev_var, List.getElem?_cons_succ, List.getElem?_cons_zero, Option.join_some, ofO_some, R.bind_ok, e3, e4, evs_nil, e5, rB_bl]
  simp [exs_nil, nxt_nx]
theorem cut1 (ns : List Int) (r : Row) (ss : List Sta) (LL : List D) (ps : List (Int × Int)) (i : Int) {es es' : List T3} {x y : WS} (n m : Nat) (hf : KvF y.kv) (js : Store) : cutE (sg ns r ss LL es x n) (ρ₁ ss ps i) (sg ns r ss LL es' y m ++ js) = sg ns r ss LL es' y m := by
  unfold cutE
  have e : pfx (sg ns r ss LL es x n).length (sg ns r ss LL es x n) (sg ns r ss LL es' y m ++ js) = true := by
    obtain ⟨a, b⟩ := cl_kv (m := 8) hf
    obtain ⟨c, d⟩ := cls_kvO 8 es'
    simp only [sg, SR, S0, List.cons_append, List.nil_append, List.length_cons, List.length_nil, pfx, O.beq_refl, Bool.true_or, Bool.true_and, Bool.and_eq_true]
    simp only [O.cl, a, b, c, d, Bool.and_self, Bool.or_true, encO, wkO]
    simp
  have f : envCl (sg ns r ss LL es x n).length (ρ₁ ss ps i) = true := by
    have a : D.cl (sg ns r ss LL es x n).length (tbD ss) = true := by rw [cl_tup]; exact cls_sta ss
    have b : D.cl (sg ns r ss LL es x n).length (psD ps) = true := by
      rw [cl_tup]
      induction ps with
      | nil => rfl
      | cons p ps ih => simp only [List.map_cons, prD2, cls_cons, ih]; rfl
    unfold envCl ρ₁
    simp only [List.all_cons, a, b, List.all_nil]
    simp [sg]
  rw [e, f]
  simp only [Bool.and_self, cutT]
  rw [List.take_left' (by simp [sg])]
theorem loop1 (ns : List Int) (r : Row) {ss : List Sta} (T : TbOk ss) (LL : List D) (ps : List (Int × Int)) (i : Int) (es0 : List T3) (x0 : WS) (n0 : Nat) : ∀ (l : List (Int × Int)) (es : List T3) (x : WS) (n : Nat), Inv ss es x n → (∀ p ∈ l, PrOk p) → n + l.length ≤ 4000 →
    ∃ y m, Inv ss (esF ss es l) y m ∧ forLoop (exs L0.G (run L0 13) body1) (.nm 8) (ρ₁ ss ps i) (sg ns r ss LL es0 x0 n0) [] (l.map prD2) (ρ₁ ss ps i) (sg ns r ss LL es x n) = .ok (.nx, ρ₁ ss ps i) (sg ns r ss LL (esF ss es l) y m) := by
  intro l
  induction l with
  | nil => intro es x n h _ _; exact ⟨x, n, h, by rw [List.map_nil, for_nil]; rfl⟩
  | cons p l ih =>
    intro es x n h hp hl
    have pp := hp p (List.mem_cons_self ..)
    simp only [List.length_cons] at hl
    obtain ⟨js, ρ2, e1, e2⟩ := turn1 ns r T LL ps i h (by omega) pp
    have h' := h.step T (b := p.1) pp.c0 pp.c1
    obtain ⟨y, m, h2, e3⟩ := ih _ _ (n + 1) h' (fun q hq => hp q (List.mem_cons_of_mem _ hq)) (by omega)
    refine ⟨y, m, h2, ?_⟩
    rw [List.map_cons, for_cons, show watOk [] (sg ns r ss LL es x n) = true from rfl, R.grd_true, asg_nm]
    simp only [e1, R.bind_ok, fnx_nx, e2]
    rw [cut1 ns r ss LL ps i n0 (n + 1) h'.f js, e3]
    rfl
/-- the second loop's inner loop -/
def ρ₂ (ss : List Sta) (ps : List (Int × Int)) (i c : Int) (a : Nat) : Nz.Env := [some (.ref 0), some (.ref 1), some (.int i), some (tbD ss), some (.ref 2), some (psD ps), some (.ref 4), some (.ref 5), none, some (.int c), some (.ref a)]
def sh (st : Store) (x : WS) (n : Nat) : Store := st ++ [encO (st.length + 1) n, wkO 2 (st.length + 2) x, .dct false x.kv]
theorem encAt_sh {st : Store} {ss : List Sta} (ht : TbAt st 2 ss) (x : WS) (n : Nat) : EncAt (sh st x n) st.length (st.length + 1) 2 (st.length + 2) ss x n := by
  have hl : 2 < st.length := (List.getElem?_eq_some_iff.mp ht).1
  unfold sh
  exact ⟨by simp, by simp [List.getElem?_append], by simp [List.getElem?_append], by unfold TbAt; rw [List.getElem?_append_left hl]; exact ht⟩
theorem eset_sh (st : Store) (x y : WS) (n m : Nat) : eset (sh st x n) st.length (st.length + 1) 2 (st.length + 2) y m = sh st y m := by
  unfold eset wset sh
  simp [List.set_append]
theorem loop3 {st : Store} {ss : List Sta} (T : TbOk ss) (ht : TbAt st 2 ss) (ps : List (Int × Int)) (i c : Int) (c0 : 0 ≤ c) (c1 : c ≤ 31) (x0 : WS) (n0 : Nat) : ∀ (l : List (Int × Int)) (es : List T3) (x : WS) (n : Nat), Inv ss es x n → (∀ p ∈ l, PrOk p) → n + l.length ≤ 4000 →
    ∃ y m, Inv ss (esF ss es (l.filter fun p => decide (p.2 = c))) y m ∧ forLoop (exs L0.G (run L0 13) body3) (.nm 8) (ρ₂ ss ps i c st.length) (sh st x0 n0) [] (l.map prD2) (ρ₂ ss ps i c st.length) (sh st x n) = .ok (.nx, ρ₂ ss ps i c st.length) (sh st y m) := by
  intro l
  induction l with
  | nil => intro es x n h _ _; exact ⟨x, n, h, by rw [List.map_nil, for_nil]; rfl⟩
  | cons p l ih =>
    intro es x n h hp hl
    have pp := hp p (List.mem_cons_self ..)
    simp only [List.length_cons] at hl
    obtain ⟨b, d⟩ := p
    have len : (sh st x0 n0).length = st.length + 3 := by simp [sh]
    by_cases hd : d = c
    · subst hd
      have at1 := encAt_sh ht x n
      have e1 := put248 encP 9 at1 T h.ok h.f (by have := h.len; omega) b d (by omega) pp.b0 pp.b1 c0 c1
      rw [eset_sh] at e1
      have m1 := methPut encP at1
      have h' := h.step T (b := b) c0 c1
      obtain ⟨y, m, h2, e3⟩ := ih _ _ (n + 1) h' (fun q hq => hp q (List.mem_cons_of_mem _ hq)) (by omega)
      refine ⟨y, m, by rw [List.filter_cons_of_pos (by simp)]; exact h2, ?_⟩
      rw [List.map_cons, for_cons, show watOk [] (sh st x n) = true from rfl, R.grd_true, asg_nm]
      have bb : exs L0.G (run L0 13) body3 ((ρ₂ ss ps i d st.length).set 8 (some (prD2 (b, d)))) (sh st x n) = .ok (.nx, (ρ₂ ss ps i d st.length).set 8 (some (prD2 (b, d)))) (sh st (x.step ss b d) (n + 1)) := by
        obtain ⟨s0, hs0⟩ : ∃ s0, s0 = sh st x n := ⟨_, rfl⟩
        rw [← hs0] at e1 m1 ⊢
        obtain ⟨TB, hTB⟩ : ∃ TB, TB = tbD ss := ⟨_, rfl⟩
        obtain ⟨PS, hPS⟩ : ∃ PS, PS = psD ps := ⟨_, rfl⟩
        unfold body3 body2 body bd255 ρ₂ prD2
        simp only [← hTB, ← hPS, List.set_cons_succ, List.set_cons_zero]
        rw [exs_one]
        simp [EVa, place, List.map_cons, List.map_nil, List.cons_append, List.nil_append, Nat.reduceSub, List.replicate_succ, List.replicate_zero, List.getElem?_cons_zero, List.getElem?_cons_succ, Option.join_some, exs, m1, e1]
      simp only [bb, R.bind_ok, fnx_nx]
      rw [show mask (ρ₂ ss ps i d st.length) ((ρ₂ ss ps i d st.length).set 8 (some (prD2 (b, d)))) = ρ₂ ss ps i d st.length from rfl, cutE_len (by rw [len]; simp [sh])]
      exact e3
    · obtain ⟨y, m, h2, e3⟩ := ih es x n h (fun q hq => hp q (List.mem_cons_of_mem _ hq)) (by omega)
      refine ⟨y, m, by rw [List.filter_cons_of_neg (by simpa using hd)]; exact h2, ?_⟩
      rw [List.map_cons, for_cons, show watOk [] (sh st x n) = true from rfl, R.grd_true, asg_nm]
      have bb : exs L0.G (run L0 13) body3 ((ρ₂ ss ps i c st.length).set 8 (some (prD2 (b, d)))) (sh st x n) = .ok (.nx, (ρ₂ ss ps i c st.length).set 8 (some (prD2 (b, d)))) (sh st x n) := by
        obtain ⟨TB, hTB⟩ : ∃ TB, TB = tbD ss := ⟨_, rfl⟩
        obtain ⟨PS, hPS⟩ : ∃ PS, PS = psD ps := ⟨_, rfl⟩
        unfold body3 body2 body bd255 ρ₂ prD2
        simp only [← hTB, ← hPS, List.set_cons_succ, List.set_cons_zero]
        rw [exs_one]
        simp [EVa, place, List.map_cons, List.map_nil, List.cons_append, List.nil_append, Nat.reduceSub, List.replicate_succ, List.replicate_zero, List.getElem?_cons_zero, List.getElem?_cons_succ, Option.join_some, exs, hd]
      simp only [bb, R.bind_ok, fnx_nx]
      rw [show mask (ρ₂ ss ps i c st.length) ((ρ₂ ss ps i c st.length).set 8 (some (prD2 (b, d)))) = ρ₂ ss ps i c st.length from rfl, cutE_len (by rw [len]; simp [sh])]
      exact e3
theorem x00_inv (ss : List Sta) : Inv ss [] x00 0 := ⟨rfl, x00_ok ss, x00_f, ⟨by simp, by simp, by simp, by simp⟩⟩
/-- a context alone -/
theorem turn2 {st : Store} {ss : List Sta} (T : TbOk ss) (ht : TbAt st 2 ss) (ps : List (Int × Int)) (hps : ∀ p ∈ ps, PrOk p) (hl : ps.length ≤ 4000) (i : Int) {es : List T3} (hes : es = esF ss [] ps) (ok : EsOk es) (g4 : st[4]? = some (.dct false (kvO es))) {c : Int} (hc : c ∈ es.map (·.1)) :
    ∃ js, exs L0.G (run L0 13) body2 ((ρ₁ ss ps i).set 9 (some (.int c))) st = .ok (.nx, ρ₂ ss ps i c st.length) (st ++ js) := by
  obtain ⟨v, v1, v2⟩ := eGet_some hc ok
  have c0 := (ok.lo _ v2).1
  have c1 := (ok.lo _ v2).2
  simp only at c0 c1
  have e1 := mk_enc encP 10 ht
  obtain ⟨y, m, hy, e2⟩ := loop3 T ht ps i c c0 c1 x00 0 ps [] x00 0 (x00_inv ss) hps (by omega)
  have ea : esF ss [] (ps.filter fun p => decide (p.2 = c)) = [(c, v)] := by
    rcases esF_alone (ss := ss) c ps [] [] (.inl ⟨rfl, rfl⟩) with ⟨_, q⟩ | ⟨w, q1, q2⟩
    · rw [← hes, v1] at q; cases q
    · rw [← hes, v1] at q2; cases q2; exact q1
  rw [ea] at hy
  have e3 := states247 encP 11 (encAt_sh ht y m) hy.kv hy.e
  have t1 : tolD [(c, v)] = .tup [.tup [.int c, .int v.1, .int v.2]] := by
    unfold tolD sortT3
    rw [List.mergeSort_singleton]
    rfl
  have l4 : 4 < st.length := (List.getElem?_eq_some_iff.mp g4).1
  have ix : index (.ref 4) (.int c) (sh st y m) = .ok (plD v) (sh st y m) := index_dct (k := .int c) (d := plD v) (by unfold sh; rw [List.getElem?_append_left l4]; exact g4) rfl (by rw [kvO_get, v1]; rfl)
  have e4 := alike (P := L0) h13 3 (sh st y m) _ _ (same_pl _ 3 _ (pl_tol hy.e)) 10
  rw [t1] at e3 e4
  refine ⟨[encO (st.length + 1) m, wkO 2 (st.length + 2) y, .dct false y.kv], ?_⟩
  rw [show st ++ [encO (st.length + 1) m, wkO 2 (st.length + 2) y, .dct false y.kv] = sh st y m from rfl]
  rw [show st ++ [encO (st.length + 1) 0, wkO 2 (st.length + 2) x00, .dct false []] = sh st x00 0 from rfl] at e1
  generalize sh st y m = s2 at *
  generalize sh st x00 0 = s1 at *
  obtain ⟨TB, hTB⟩ : ∃ TB, TB = tbD ss := ⟨_, rfl⟩
  unfold body2 body bd255 ρ₁
  unfold ρ₂ body3 body2 body bd255 at *
  simp only [← hTB, List.set_cons_succ, List.set_cons_zero] at *
  rw [exs_one]
  simp [EVa, place, List.map_cons, List.map_nil, List.cons_append, List.nil_append, Nat.reduceSub, List.replicate_succ, List.replicate_zero, List.getElem?_cons_zero, List.getElem?_cons_succ, Option.join_some, e1]
  rw [exs_one, ex_forB]
  simp [EVa, place, List.map_cons, List.map_nil, List.cons_append, List.nil_append, Nat.reduceSub, List.replicate_succ, List.replicate_zero, List.getElem?_cons_zero, List.getElem?_cons_succ, Option.join_some]
  simp [psD] at e2
  rw [e2]
  simp only [R.bind_ok, nxt_nx]
  rw [exs_one]
  simp [EVa, place, List.map_cons, List.map_nil, List.cons_append, List.nil_append, Nat.reduceSub, List.replicate_succ, List.replicate_zero, List.getElem?_cons_zero, List.getElem?_cons_succ, Option.join_some, e3, ix, plD, e4, exs_nil]
theorem loop2 {st : Store} {ss : List Sta} (T : TbOk ss) (ht : TbAt st 2 ss) (ps : List (Int × Int)) (hps : ∀ p ∈ ps, PrOk p) (hl : ps.length ≤ 4000) (i : Int) {es : List T3} (hes : es = esF ss [] ps) (ok : EsOk es) (g4 : st[4]? = some (.dct false (kvO es))) (hc : envCl st.length (ρ₁ ss ps i) = true) {wat : List (Nat × O)} (hw : watOk wat st = true) : ∀ (l : List Int), (∀ c ∈ l, c ∈ es.map (·.1)) →
    forLoop (exs L0.G (run L0 13) body2) (.nm 9) (ρ₁ ss ps i) st wat (l.map .int) (ρ₁ ss ps i) st = .ok (.nx, ρ₁ ss ps i) st := by
  intro l
  induction l with
  | nil => intro _; rw [List.map_nil, for_nil, hw, R.grd_true]
  | cons c l ih =>
    intro hm
    obtain ⟨js, e1⟩ := turn2 T ht ps hps hl i hes ok g4 (hm c (List.mem_cons_self ..))
    rw [List.map_cons, for_cons, hw, R.grd_true, asg_nm]
    simp only [e1, R.bind_ok, fnx_nx]
    rw [show mask (ρ₁ ss ps i) (ρ₂ ss ps i c st.length) = ρ₁ ss ps i from rfl]
    have q : cutE st (ρ₁ ss ps i) (st ++ js) = st := by
      unfold cutE
      rw [pfx_app, hc]
      simp [cutT]
    rw [q]
    exact ih fun d hd => hm d (List.mem_cons_of_mem _ hd)
theorem turn (ns : List Int) (i : Int) (r : Row) : ∃ ρ2 r' js, exs L0.G (run L0 13) body (ρ₀.set 2 (some (.int i))) (SR ns r []) = .ok (.nx, ρ2) (SR ns r' js) ∧ mask ρ₀ ρ2 = ρ₀ := by
  have h10 : L0.defs.lookup 10 = some ⟨2, 4, bd10⟩ := rfl
  have h11 : L0.defs.lookup 11 = some ⟨2, 2, bd11⟩ := rfl
  obtain ⟨ss, r1, T, e1⟩ := states229 drwP rfl 10 ns r []
  have mk := mk_table tabP 9 ss T (SR ns r1 [])
  have e2 := tk h10 ns r1 [.ins 1 [(1, tbD ss)]] 9 12 (by omega) (by omega)
  have a1 := Row.val_lo (zs := ns) (r := r1) (m := 9) (by omega)
  have a2 := Row.val_hi (zs := ns) (r := r1) (m := 9) (by omega)
  obtain ⟨A, hA⟩ : ∃ w, w = r1.val ns 9 := ⟨_, rfl⟩
  obtain ⟨r2, hr2⟩ : ∃ w, w = r1.nx ns 9 := ⟨_, rfl⟩
  rw [← hA, ← hr2] at e2
  rw [← hA] at a1 a2
  have e3 := tk h10 ns r2 [.ins 1 [(1, tbD ss)]] 91 12 (by omega) (by omega)
  have b1 := Row.val_lo (zs := ns) (r := r2) (m := 91) (by omega)
  have b2 := Row.val_hi (zs := ns) (r := r2) (m := 91) (by omega)
  obtain ⟨B, hB⟩ : ∃ w, w = r2.val ns 91 := ⟨_, rfl⟩
  obtain ⟨r3, hr3⟩ : ∃ w, w = r2.nx ns 91 := ⟨_, rfl⟩
  rw [← hB, ← hr3] at e3
  rw [← hB] at b1 b2
  obtain ⟨L, hL⟩ : ∃ L : List D, L = [.int A, .int B] := ⟨_, rfl⟩
  have e5 := pk h10 h11 ns r3 [.ins 1 [(1, tbD ss)], .lst L] 1 L 11 rfl (by rw [hL]; simp) (by rw [hL]; simp) (by rw [hL]; simp)
  have hm := pk_mem (zs := ns) (r := r3) (ds := L) (by rw [hL]; simp)
  obtain ⟨d, hd⟩ : ∃ d, d = L.getD (r3.val ns L.length).toNat .non := ⟨_, rfl⟩
  rw [← hd] at e5 hm
  obtain ⟨m, rfl, m2⟩ : ∃ m : Nat, d = .int (m : Nat) ∧ m ≤ 90 := by
    rw [hL] at hm
    simp only [List.mem_cons, List.not_mem_nil, or_false] at hm
    rcases hm with h | h
    · exact ⟨A.toNat, by rw [h, Int.toNat_of_nonneg a1], by omega⟩
    · exact ⟨B.toNat, by rw [h, Int.toNat_of_nonneg b1], by omega⟩
  obtain ⟨r4, hr4⟩ : ∃ w, w = r3.nx ns L.length := ⟨_, rfl⟩
  rw [← hr4] at e5
  obtain ⟨ps, r5, p1, p2, e6⟩ := pairs253 drwP rfl rfl rfl 9 ns r4 [.ins 1 [(1, tbD ss)], .lst L] m (by omega)
  have ht : TbAt (SR ns r5 [.ins 1 [(1, tbD ss)], .lst L, .dct false []]) 2 ss := rfl
  have e7 := mk_enc encP 10 ht
  have e7' : mkR L0.G (run L0 13) 3 [.ref 2] (SR ns r5 [.ins 1 [(1, tbD ss)], .lst L, .dct false []]) = .ok (.ref 5) (sg ns r5 ss L [] x00 0) := e7
  obtain ⟨y, n, hy, e8⟩ := loop1 ns r5 T L ps i [] x00 0 ps [] x00 0 (x00_inv ss) p2 (by omega)
  obtain ⟨es, hes⟩ : ∃ es, es = esF ss [] ps := ⟨_, rfl⟩
  rw [← hes] at hy e8
  obtain ⟨s3, hs3⟩ : ∃ s3, s3 = sg ns r5 ss L es y n := ⟨_, rfl⟩
  have kl := keys_law (G := L0.G) (call := run L0 13) (i := 6) (ρ := ρ₁ ss ps i) (st := s3) (pl := 4) (es := es) rfl (by rw [hs3]; rfl) hy.e
  obtain ⟨s4, hs4⟩ : ∃ s4, s4 = s3 ++ [O.lst ((es.map (·.1)).map .int), .lst ((sortI (es.map (·.1))).map .int)] := ⟨_, rfl⟩
  rw [← hs4] at kl
  have len3 : s3.length = 8 := by rw [hs3]; rfl
  have len4 : s4.length = 10 := by rw [hs4]; simp [len3]
  have gl : s4[9]? = some (.lst ((sortI (es.map (·.1))).map .int)) := by rw [hs4, List.getElem?_append_right (by omega), len3]; rfl
  have cl1 : envCl s4.length (ρ₁ ss ps i) = true := by
    rw [len4]
    have a : D.cl 10 (tbD ss) = true := by rw [cl_tup]; exact cls_sta ss
    have b : D.cl 10 (psD ps) = true := by
      rw [cl_tup]
      clear p1 e8 kl e6 hes p2
      induction ps with
      | nil => rfl
      | cons p ps ih => simp only [List.map_cons, prD2, cls_cons, ih]; rfl
    unfold envCl ρ₁
    simp only [List.all_cons, a, b, List.all_nil]
    simp
  have e9 := loop2 (st := s4) T (by rw [hs4, hs3]; rfl) ps p2 (by omega) i hes hy.e (by rw [hs4, hs3]; rfl) cl1 (wat := [(9, .lst ((sortI (es.map (·.1))).map .int))]) (by simp [watOk, gl, O.beq_refl]) (sortI (es.map (·.1))) fun c hc => sortI_p.mem_iff.mp hc
  have s4e : s4 = SR ns r5 ([.ins 1 [(1, tbD ss)], .lst L, .dct false (kvO es), encO 6 n, wkO 2 7 y, .dct false y.kv] ++ [O.lst ((es.map (·.1)).map .int), .lst ((sortI (es.map (·.1))).map .int)]) := by rw [hs4, hs3]; rfl
  obtain ⟨js, hjs⟩ : ∃ js, s4 = SR ns r5 js := ⟨_, s4e⟩
  rw [hjs] at e9 kl gl
  rw [← hs3] at e8
  rw [len3] at kl
  clear hs4 s4e hjs cl1 len4 hs3
  refine ⟨ρ₁ ss ps i, r5, js, ?_, rfl⟩
  obtain ⟨TB, hTB⟩ : ∃ TB, TB = tbD ss := ⟨_, rfl⟩
  obtain ⟨PS, hPS⟩ : ∃ PS, PS = psD ps := ⟨_, rfl⟩
  have wk := wkSeq_lst gl
  unfold ρ₁ body1 body2 body bd255 ρ₀ at *
  have wp : ∀ s, wkSeq PS s = .ok ⟨ps.map prD2, []⟩ s := fun s => by rw [hPS]; exact wkSeq_tup ..
  simp only [psD] at hPS
  simp only [← hTB, ← hPS, psD, List.set_cons_succ, List.set_cons_zero, List.nil_append, List.length_nil, List.length_cons, Nat.zero_add] at *
  subst hL
  rw [exs_one]
  simp [EVa, place, List.map_cons, List.map_nil, List.cons_append, List.nil_append, Nat.reduceSub, List.replicate_succ, List.replicate_zero, List.getElem?_cons_zero, List.getElem?_cons_succ, Option.join_some, e1]
  rw [exs_one]
  simp [EVa, place, List.map_cons, List.map_nil, List.cons_append, List.nil_append, Nat.reduceSub, List.replicate_succ, List.replicate_zero, List.getElem?_cons_zero, List.getElem?_cons_succ, Option.join_some, mk]
  simp [EVa, place, List.map_cons, List.map_nil, List.cons_append, List.nil_append, Nat.reduceSub, List.replicate_succ, List.replicate_zero, List.getElem?_cons_zero, List.getElem?_cons_succ, Option.join_some, e2, e3, e5, e6]
  rw [exs_one]
  simp [EVa, place, List.map_cons, List.map_nil, List.cons_append, List.nil_append, Nat.reduceSub, List.replicate_succ, List.replicate_zero, List.getElem?_cons_zero, List.getElem?_cons_succ, Option.join_some, e7']
  rw [exs_one, ex_forB]
  simp [EVa, place, List.map_cons, List.map_nil, List.cons_append, List.nil_append, Nat.reduceSub, List.replicate_succ, List.replicate_zero, List.getElem?_cons_zero, List.getElem?_cons_succ, Option.join_some]
  rw [wp, R.bind_ok, e8]
  simp only [R.bind_ok, nxt_nx]
  rw [exs_one, ex_forB, evi_seq, kl, R.bind_ok, wk, R.bind_ok, e9]
  simp only [R.bind_ok, nxt_nx, exs_nil]
theorem run_law (ns : List Int) (hn : ns.length ≤ 63) : ∃ s', run L0 14 255 [.ref 0] [.frz (ns.map .int)] = .ok (.bl true) s' := by
  rw [run_eq (P := L0) (d := ⟨1, 11, bd255⟩) rfl]
  simp only [List.length_cons, List.length_nil, List.map_cons, List.map_nil, List.cons_append, List.nil_append, Nat.reduceSub, List.replicate_succ, List.replicate_zero, Nat.reduceAdd, beq_self_eq_true, R.grd_true]
  obtain ⟨r', e⟩ := law_turns (t := 2) (ρ₀ := ρ₀) (by decide) (turn ns) ⟨0, 3123, 0⟩ 2 0 ⟨0, 3123, 0⟩
  unfold bd255
  rw [exs_one]
  simp [EVa, place, List.map_cons, List.map_nil, List.cons_append, List.nil_append, Nat.reduceSub, List.replicate_succ, List.replicate_zero, List.getElem?_cons_zero, List.getElem?_cons_succ, Option.join_some]
  rw [exs_one, ex_forB]
  simp [EVa, place, List.map_cons, List.map_nil, List.cons_append, List.nil_append, Nat.reduceSub, List.replicate_succ, List.replicate_zero, List.getElem?_cons_zero, List.getElem?_cons_succ, Option.join_some, rng_0, show rngOk 2 = true from rfl]
  unfold body ρ₀ bd255 at e
  rw [show SR ns ⟨0, 3123, 0⟩ [] = [Nz.O.frz (ns.map .int), Nz.O.lst [.ref 0, .int 0, .int 3123, .int 0]] from rfl] at e
  rw [e, R.bind_ok, nxt_nx, exs_one]
  simp [EVa, place, List.map_cons, List.map_nil, List.cons_append, List.nil_append, Nat.reduceSub, List.replicate_succ, List.replicate_zero, List.getElem?_cons_zero, List.getElem?_cons_succ, Option.join_some]
  exact ⟨_, gc_same (st := [Nz.O.frz (ns.map .int)]) [_] rfl⟩
end K23
namespace K23
open Nz PySem PySem.Spec PyProof.Rows L2
theorem goods : Goods T0 L0.defs dd0 :=
  .cons ⟨⟨rfl, rfl, rfl, by decide +kernel, rfl, by decide +kernel, by decide +kernel⟩, fun _ _ _ _ _ _ us hl => match us, hl with | [_], _ => rfl, rfl, rfl, ⟨60, by kernel_rfl⟩⟩ (
  .cons ⟨⟨rfl, rfl, rfl, by decide +kernel, rfl, by decide +kernel, by decide +kernel⟩, fun _ _ _ _ _ _ us hl => match us, hl with | [_], _ => rfl, rfl, rfl, ⟨60, by kernel_rfl⟩⟩ (
  .cons ⟨⟨rfl, rfl, rfl, by decide +kernel, rfl, by decide +kernel, by decide +kernel⟩, fun _ _ _ _ _ _ us hl => match us, hl with | [_, _, _], _ => rfl, rfl, rfl, ⟨60, by kernel_rfl⟩⟩ (
  .cons ⟨⟨rfl, rfl, rfl, by decide +kernel, rfl, by decide +kernel, by decide +kernel⟩, fun _ _ _ _ _ _ us hl => match us, hl with | [_, _, _], _ => rfl, rfl, rfl, ⟨60, by kernel_rfl⟩⟩ (
  .cons ⟨⟨rfl, rfl, rfl, by decide +kernel, rfl, by decide +kernel, by decide +kernel⟩, fun _ _ _ _ _ _ us hl => match us, hl with | [_, _], _ => rfl, rfl, rfl, ⟨60, by kernel_rfl⟩⟩ (
  .cons ⟨⟨rfl, rfl, rfl, by decide +kernel, rfl, by decide +kernel, by decide +kernel⟩, fun _ _ _ _ _ _ us hl => match us, hl with | [_, _], _ => rfl, rfl, rfl, ⟨60, by kernel_rfl⟩⟩ (
  .cons ⟨⟨rfl, rfl, rfl, by decide +kernel, rfl, by decide +kernel, by decide +kernel⟩, fun _ _ _ _ _ _ us hl => match us, hl with | [_], _ => rfl, rfl, rfl, ⟨60, by kernel_rfl⟩⟩ (
  .cons ⟨⟨rfl, rfl, rfl, by decide +kernel, rfl, by decide +kernel, by decide +kernel⟩, fun _ _ _ _ _ _ us hl => match us, hl with | [_, _], _ => rfl, rfl, rfl, ⟨60, by kernel_rfl⟩⟩ (
  .cons ⟨⟨rfl, rfl, rfl, by decide +kernel, rfl, by decide +kernel, by decide +kernel⟩, fun _ _ _ _ _ _ us hl => match us, hl with | [_], _ => rfl, rfl, rfl, ⟨60, by kernel_rfl⟩⟩ (
  .cons ⟨⟨rfl, rfl, rfl, by decide +kernel, rfl, by decide +kernel, by decide +kernel⟩, fun _ _ _ _ _ _ us hl => match us, hl with | [_, _], _ => rfl, rfl, rfl, ⟨60, by kernel_rfl⟩⟩ (
  .cons ⟨⟨rfl, rfl, rfl, by decide +kernel, rfl, by decide +kernel, by decide +kernel⟩, fun _ _ _ _ _ _ us hl => match us, hl with | [_], _ => rfl, rfl, rfl, ⟨60, by kernel_rfl⟩⟩ (
  .cons ⟨⟨rfl, rfl, rfl, by decide +kernel, rfl, by decide +kernel, by decide +kernel⟩, fun _ _ _ _ _ _ us hl => match us, hl with | [_, _], _ => rfl, rfl, rfl, ⟨60, by kernel_rfl⟩⟩ (
  .cons ⟨⟨rfl, rfl, rfl, by decide +kernel, rfl, by decide +kernel, by decide +kernel⟩, fun _ _ _ _ _ _ us hl => match us, hl with | [_, _], _ => rfl, rfl, rfl, ⟨60, by kernel_rfl⟩⟩ (
  .cons ⟨⟨rfl, rfl, rfl, by decide +kernel, rfl, by decide +kernel, by decide +kernel⟩, fun _ _ _ _ _ _ us hl => match us, hl with | [_, _, _], _ => rfl, rfl, rfl, ⟨60, by kernel_rfl⟩⟩ (
  .cons ⟨⟨rfl, rfl, rfl, by decide +kernel, rfl, by decide +kernel, by decide +kernel⟩, fun _ _ _ _ _ _ us hl => match us, hl with | [_], _ => rfl, rfl, rfl, ⟨60, by kernel_rfl⟩⟩ (
  .cons ⟨⟨rfl, rfl, rfl, by decide +kernel, rfl, by decide +kernel, by decide +kernel⟩, fun _ _ _ _ _ _ us hl => match us, hl with | [_, _], _ => rfl, rfl, rfl, ⟨60, by kernel_rfl⟩⟩ (
  .cons ⟨⟨rfl, rfl, rfl, by decide +kernel, rfl, by decide +kernel, by decide +kernel⟩, fun _ _ _ _ _ _ us hl => match us, hl with | [_], _ => rfl, rfl, rfl, ⟨60, by kernel_rfl⟩⟩ (
  .cons ⟨⟨rfl, rfl, rfl, by decide +kernel, rfl, by decide +kernel, by decide +kernel⟩, fun _ _ _ _ _ _ us hl => match us, hl with | [_], _ => rfl, rfl, rfl, ⟨60, by kernel_rfl⟩⟩ (
  .cons ⟨⟨rfl, rfl, rfl, by decide +kernel, rfl, by decide +kernel, by decide +kernel⟩, fun _ _ _ _ _ _ us hl => match us, hl with | [_, _], _ => rfl, rfl, rfl, ⟨60, by kernel_rfl⟩⟩ (
  .cons ⟨⟨rfl, rfl, rfl, by decide +kernel, rfl, by decide +kernel, by decide +kernel⟩, fun _ _ _ _ _ _ us hl => match us, hl with | [_], _ => rfl, rfl, rfl, ⟨60, by kernel_rfl⟩⟩ (
  .cons ⟨⟨rfl, rfl, rfl, by decide +kernel, rfl, by decide +kernel, by decide +kernel⟩, fun _ _ _ _ _ _ us hl => match us, hl with | [_], _ => rfl, rfl, rfl, ⟨60, by kernel_rfl⟩⟩ (
  .cons ⟨⟨rfl, rfl, rfl, by decide +kernel, rfl, by decide +kernel, by decide +kernel⟩, fun _ _ _ _ _ _ us hl => match us, hl with | [_, _, _], _ => rfl, rfl, rfl, ⟨60, by kernel_rfl⟩⟩ (
  .cons ⟨⟨rfl, rfl, rfl, by decide +kernel, rfl, by decide +kernel, by decide +kernel⟩, fun _ _ _ _ _ _ us hl => match us, hl with | [_], _ => rfl, rfl, rfl, ⟨60, by kernel_rfl⟩⟩ (
  .cons ⟨⟨rfl, rfl, rfl, by decide +kernel, rfl, by decide +kernel, by decide +kernel⟩, fun _ _ _ _ _ _ us hl => match us, hl with | [_, _], _ => rfl, rfl, rfl, ⟨60, by kernel_rfl⟩⟩ (
  .cons ⟨⟨rfl, rfl, rfl, by decide +kernel, rfl, by decide +kernel, by decide +kernel⟩, fun _ _ _ _ _ _ us hl => match us, hl with | [_, _], _ => rfl, rfl, rfl, ⟨60, by kernel_rfl⟩⟩ (
  .cons ⟨⟨rfl, rfl, rfl, by decide +kernel, rfl, by decide +kernel, by decide +kernel⟩, fun _ _ _ _ _ _ us hl => match us, hl with | [_, _], _ => rfl, rfl, rfl, ⟨60, by kernel_rfl⟩⟩ (
  .cons ⟨⟨rfl, rfl, rfl, by decide +kernel, rfl, by decide +kernel, by decide +kernel⟩, fun _ _ _ _ _ _ us hl => match us, hl with | [_], _ => rfl, rfl, rfl, ⟨60, by kernel_rfl⟩⟩ (
  .cons ⟨⟨rfl, rfl, rfl, by decide +kernel, rfl, by decide +kernel, by decide +kernel⟩, fun _ _ _ _ _ _ us hl => match us, hl with | [_, _], _ => rfl, rfl, rfl, ⟨60, by kernel_rfl⟩⟩ (
  .cons ⟨⟨rfl, rfl, rfl, by decide +kernel, rfl, by decide +kernel, by decide +kernel⟩, fun _ _ _ _ _ _ us hl => match us, hl with | [_, _], _ => rfl, rfl, rfl, ⟨60, by kernel_rfl⟩⟩ (
  .cons ⟨⟨rfl, rfl, rfl, by decide +kernel, rfl, by decide +kernel, by decide +kernel⟩, fun _ _ _ _ _ _ us hl => match us, hl with | [_, _], _ => rfl, rfl, rfl, ⟨60, by kernel_rfl⟩⟩ (
  .cons ⟨⟨rfl, rfl, rfl, by decide +kernel, rfl, by decide +kernel, by decide +kernel⟩, fun _ _ _ _ _ _ us hl => match us, hl with | [_, _, _], _ => rfl, rfl, rfl, ⟨60, by kernel_rfl⟩⟩ (
  .cons ⟨⟨rfl, rfl, rfl, by decide +kernel, rfl, by decide +kernel, by decide +kernel⟩, fun _ _ _ _ _ _ us hl => match us, hl with | [_], _ => rfl, rfl, rfl, ⟨60, by kernel_rfl⟩⟩ (
  .nil))))))))))))))))))))))))))))))))
abbrev hk : PySem.W.Hook := hookC 5 (ck T0 L0.G cn0 dd0) (fnOf dd0)
abbrev Ro : PySem.W.OpenRow := PySem.W.OpenLaw.row PySem.Challenge.rw_bandpress_k23_whole_states_of_contexts
def ob (s : PySem.W.SharedT) : AlN := obsCG 5 (ck T0 L0.G cn0 dd0) (fnOf dd0) (HandSHeadRun.getT s)
theorem ob_eq (s : PySem.W.SharedT) : ob s = hk.obs s.abs := obsCG_eq (HandSHeadRun.getT_eq s)
def lo0 : List PySem.Str := [("BadBit" : PySem.Str), ("BadContext" : PySem.Str), ("BadTable" : PySem.Str), ("Encoder" : PySem.Str), ("FULL" : PySem.Str), ("HALF" : PySem.Str), ("MOST_CODED" : PySem.Str), ("MOST_CONTEXT" : PySem.Str), ("MOST_STATES" : PySem.Str), ("NotTable" : PySem.Str), ("PressError" : PySem.Str), ("Table" : PySem.Str), ("TooMany" : PySem.Str), ("WHOLE" : PySem.Str), ("Walk" : PySem.Str), ("_law_alike" : PySem.Str), ("_law_bits" : PySem.Str), ("_law_contexts" : PySem.Str), ("_law_pairs" : PySem.Str), ("_law_pick" : PySem.Str), ("_law_states" : PySem.Str), ("_law_taken" : PySem.Str), ("_law_walk" : PySem.Str), ("_wall" : PySem.Str), ("is_in" : PySem.Str), ("is_integer" : PySem.Str), ("is_list" : PySem.Str), ("is_state" : PySem.Str), ("need_table" : PySem.Str), ("shortest" : PySem.Str), ("told_states" : PySem.Str), ("written" : PySem.Str)]
theorem runH (w : World) : HandSHeadRun.RunEq Ro (PySem.W.view Ro.prog [38]) hk ob 100000 lo0 w := by
  intro os
  kernel_rfl
end K23
open PySem PySem.W PySem.Calls PyProof.Rows
theorem PySem.Challenge.cw_bandpress_k23_whole_states_of_contexts_holds : PySem.Challenge.rw_bandpress_k23_whole_states_of_contexts.Holds := by
  w_on; o_law
  refine HandSHeadRun.head_any (r := OpenLaw.row PySem.Challenge.rw_bandpress_k23_whole_states_of_contexts) (q := view (OpenLaw.row PySem.Challenge.rw_bandpress_k23_whole_states_of_contexts).prog [38]) (H := K23.hk) (ob := K23.ob) (M := 100000) (loose := K23.lo0) (d := HandSHeadRun.topDef (OpenLaw.row PySem.Challenge.rw_bandpress_k23_whole_states_of_contexts).prog 38) (kwd := []) K23.ob_eq
    (by kernel_rfl) (fun s => by kernel_rfl) K23.runH (by kernel_rfl) (by kernel_rfl) (by kernel_rfl) (by rfl) (by first | assumption | decide +kernel) (by decide +kernel) ⟨rfl, rfl, rfl, rfl, rfl, by decide +kernel⟩ ?hw ?hc
  case hw => w_witness2
  case hc =>
    refine L2.walk_ofE (l := PySem.Challenge.rw_bandpress_k23_whole_states_of_contexts) (n := 63) (k := 2 * 14) (x := "script") (CX := L2.CX0) rfl (by decide) (by kernel_rfl) ⟨rfl, by decide, by decide⟩ ?F (fun _ _ _ _ z => z)
    intro w mg fa h Y G hmg0
    have hmg : mg ("law" : PySem.Str) = some (.ref fa) := by
      have e : (HandSHeadRun.topDef (OpenLaw.row PySem.Challenge.rw_bandpress_k23_whole_states_of_contexts).prog 38).name = ("law" : PySem.Str) := by kernel_rfl
      rw [← e]
      exact hmg0
    exact Nz.law_end (kk := 14) (il := 255) (lw := "law") Y G (by kernel_rfl) K23.goods hmg (by kernel_rfl) (by kernel_rfl) K23.run_law
