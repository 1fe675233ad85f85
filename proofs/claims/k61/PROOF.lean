import PyProof.Rows.All
import Wide.All
import OpenK.AllK
import Wide.FinOn
import HandS.ForMost
import HandS.More
import HandS.WordsExc
import HandS.Defaults
import HandS.CallLocal
import HandS.CallSlots
import HandS.IsInst
import HandS.FStr
import HandS.TupAny
import HandS.TupMul
import HandS.TupLe
import HandS.Deep
import HandS.Wide
import HandS.Flow
import HandS.SortOrd
import HandS.SortInts
import HandS.RaiseMore
import KE.KStateDown
import HandS.Head0
import HandS.Head1
import HandS.Head2
import HandS.HeadEnd
import HandS.HeadHook1
import HandS.HeadHook2
import HandS.Codes
import KE.IntTextLaws
import PySem.Challenge.RW_postsooth_k61_whole_texts_of_forms_and_f
section
set_option Elab.async false
set_option linter.all false
set_option maxRecDepth 100000
/-! PwA: own data, store, evaluator (part 1 of the layer). -/
namespace Pw
open PySem

/-! ### data -/
/-- a value as data: a text is its list of code points; frz: a list that is only read; ref: a cell of the store; fn: the def with this number -/
inductive D where
  | non
  | bl (b : Bool)
  | int (i : Int)
  | str (x : List Nat)
  | tup (ds : List D)
  | frz (ds : List D)
  | ref (n : Nat)
  | fn (k : Nat)
mutual
def D.beq : D → D → Bool
  | .non, .non => true
  | .bl a, .bl b => a == b
  | .int a, .int b => decide (a = b)
  | .str a, .str b => decide (a = b)
  | .tup a, .tup b => D.beqs a b
  | .frz a, .frz b => D.beqs a b
  | .ref a, .ref b => decide (a = b)
  | .fn a, .fn b => decide (a = b)
  | _, _ => false
def D.beqs : List D → List D → Bool
  | [], [] => true
  | a :: as, b :: bs => D.beq a b && D.beqs as bs
  | _, _ => false
end
mutual
theorem D.beq_self : ∀ a : D, D.beq a a = true
  | .non => rfl
  | .bl a => by simp [D.beq]
  | .int a => by simp [D.beq]
  | .str a => by simp [D.beq]
  | .tup a => by simp [D.beq, D.beqs_self a]
  | .frz a => by simp [D.beq, D.beqs_self a]
  | .ref a => by simp [D.beq]
  | .fn a => by simp [D.beq]
theorem D.beqs_self : ∀ a : List D, D.beqs a a = true
  | [] => rfl
  | a :: as => by simp [D.beqs, D.beq_self a, D.beqs_self as]
end
mutual
theorem D.beq_eq : ∀ a b : D, D.beq a b = true → a = b
  | .non, b, h => by cases b <;> simp [D.beq] at h ⊢
  | .bl a, b, h => by cases b <;> simp [D.beq] at h ⊢; exact h
  | .int a, b, h => by cases b <;> simp [D.beq] at h ⊢; exact h
  | .str a, b, h => by cases b <;> simp [D.beq] at h ⊢; exact h
  | .tup a, b, h => by
    cases b with
    | tup b => rw [D.beqs_eq a b (by simpa [D.beq] using h)]
    | _ => simp [D.beq] at h
  | .frz a, b, h => by
    cases b with
    | frz b => rw [D.beqs_eq a b (by simpa [D.beq] using h)]
    | _ => simp [D.beq] at h
  | .ref a, b, h => by cases b <;> simp [D.beq] at h ⊢; exact h
  | .fn a, b, h => by cases b <;> simp [D.beq] at h ⊢; exact h
theorem D.beqs_eq : ∀ a b : List D, D.beqs a b = true → a = b
  | [], [], _ => rfl
  | [], _ :: _, h => by simp [D.beqs] at h
  | _ :: _, [], h => by simp [D.beqs] at h
  | a :: as, b :: bs, h => by
    simp only [D.beqs, Bool.and_eq_true] at h
    rw [D.beq_eq a b h.1, D.beqs_eq as bs h.2]
end
instance : DecidableEq D := fun a b => if h : D.beq a b = true then isTrue (D.beq_eq a b h) else isFalse fun e => h (by rw [e]; exact D.beq_self b)
instance : Inhabited D := ⟨.non⟩

/-! ### the store -/
inductive Cell where
  /-- a list -/
  | lst (ds : List D)
  deriving DecidableEq, Inhabited
abbrev Store := List Cell
/-- a def's slots -/
abbrev Rho := List (Option D)
/-- an exception: its class, its field -/
structure Exc where
  cls : Str
  arg : Option (Str × D)
inductive Res (α : Type) where
  | ok (a : α)
  | exn (x : Exc) (ρ : Rho) (st : Store)
  | stuck
def Res.bind {α β : Type} (r : Res α) (f : α → Res β) : Res β := match r with
  | .ok a => f a
  | .exn x ρ st => .exn x ρ st
  | .stuck => .stuck
@[simp] theorem Res.bind_ok {α β : Type} (a : α) (f : α → Res β) : (Res.ok a).bind f = f a := rfl
@[simp] theorem Res.bind_exn {α β : Type} (x : Exc) (ρ : Rho) (st : Store) (f : α → Res β) : (Res.exn x ρ st).bind f = .exn x ρ st := rfl
@[simp] theorem Res.bind_stuck {α β : Type} (f : α → Res β) : (Res.stuck : Res α).bind f = .stuck := rfl
/-- a condition of the model: outside of it nothing is said -/
def need {α : Type} (c : Bool) (r : Res α) : Res α := if c = true then r else .stuck
theorem need_ok {α : Type} {c : Bool} {r : Res α} (h : c = true) : need c r = r := if_pos h
abbrev LN : Nat := 16777216

/-- no reference at or behind n -/
def bnd (n : Nat) : D → Bool
  | .ref k => decide (k < n)
  | .tup ds => bnds n ds
  | .frz ds => bnds n ds
  | _ => true
where bnds (n : Nat) : List D → Bool
  | [] => true
  | d :: ds => bnd n d && bnds n ds
abbrev bnds (n : Nat) (ds : List D) : Bool := bnd.bnds n ds
def bndC (n : Nat) : Cell → Bool
  | .lst ds => bnds n ds
/-- the first cells are as they were, or bear nothing new -/
def okPre (n : Nat) : Store → Store → Bool
  | [], _ => true
  | c :: r, c' :: r' => (decide (c' = c) || bndC n c') && okPre n r r'
  | _ :: _, [] => false
/-- what is not reached any more is dropped -/
def gc (st : Store) (d : D) (st' : Store) : D × Store :=
  if okPre st.length st st' = true then
    if bnd st.length d = true then (d, st'.take st.length)
    else match d with
      | .ref m => (match st'[m]? with
        | some c => if bndC st.length c = true then (.ref st.length, st'.take st.length ++ [c]) else (d, st')
        | none => (d, st'))
      | _ => (d, st')
  else (d, st')

/-! ### the form of a program -/
inductive O2 where
  | add | sub | mul | fdiv | mod | pow
  deriving DecidableEq
inductive Cm where
  | eq | ne | lt | le | gt | ge | isN | notN | mem | nmem
  deriving DecidableEq
/-- a built-in function -/
inductive Bf where
  | len | int | str | all | any | tuple | list | sorted | abs | max | min | sum
  deriving DecidableEq
/-- a method of a built-in type -/
inductive Bm where
  | append | extend | join | split | startswith | partition
  deriving DecidableEq
inductive IG where
  | name (i : Nat)
  | tup (is : List Nat)
  deriving DecidableEq
inductive IE where
  | var (i : Nat)
  | cst (d : D)
  | glo (x : Str) (d : D)
  | op (o : O2) (a b : IE)
  | neg (a : IE)
  | cmp (o : Cm) (a b : IE)
  | chain (o1 o2 : Cm) (a b c : IE)
  | and (a b : IE)
  | or (a b : IE)
  | not (a : IE)
  | ite (t a b : IE)
  | tup (es : IE)
  | lst (es : IE)
  | sub (a i : IE)
  | cut (a lo hi : IE)
  | call (f : Nat) (es : IE)
  | bf (b : Bf) (a : IE)
  | bm (b : Bm) (o a : IE)
  | isi (a : IE) (ts : List String)
  | lc (vs : List Nat) (g : IG) (it cond elt : IE)
  | fst (es : IE)
  | fmt (a : IE)
  /-- a value's truth, as a test; a value, walked -/
  | tru (a : IE)
  | wlk (a : IE)
  /-- walked: range(a, b); the parts left out are nil -/
  | rng (a b : IE)
  | enm (a : IE)
  | rvs (a : IE)
  | nil
  | cons (a r : IE)
inductive IS where
  | nil
  | seq (s r : IS)
  | set (g : IG) (e : IE)
  | setSub (o i e : IE)
  | aug (i : Nat) (o : O2) (e : IE)
  | augSub (o i : IE) (p : O2) (e : IE)
  | expr (e : IE)
  | doc
  | ret (e : IE)
  | retN
  | ifs (t : IE) (a b : IS)
  | fors (g : IG) (it : IE) (b : IS)
  | whiles (t : IE) (b : IS)
  | brk
  | cont
  | pass
  | raise (cls : Str) (e : IE)
structure Fn where
  ps : Nat
  n : Nat
  body : IS

/-! ### operators on values -/
def alloc (c : Cell) (st : Store) : Res (D × Store) := .ok (.ref st.length, st ++ [c])
def listAt (st : Store) (n : Nat) : Option (List D) := match st[n]? with
  | some (.lst ds) => some ds
  | none => none
def mkStr (x : List Nat) (st : Store) : Res (D × Store) := need (decide (x.length ≤ LN)) (.ok (.str x, st))
def mkTup (ds : List D) (st : Store) : Res (D × Store) := need (decide (ds.length ≤ LN)) (.ok (.tup ds, st))
def mkLst (ds : List D) (st : Store) : Res (D × Store) := need (decide (ds.length ≤ LN)) (alloc (.lst ds) st)
def mulOk (i j : Int) : Bool := decide (i.natAbs < 2 ^ 64) || decide (j.natAbs < 2 ^ 64) || decide (i.natAbs.log2 + j.natAbs.log2 < 1000000)
def divOk (j : Int) : Bool := decide (j ≠ 0) && (decide (j.natAbs < 1073741824) || (decide (0 < j) && decide (j.natAbs.log2 < 9000)))
def op2 (o : O2) (x y : D) (st : Store) : Res (D × Store) := match o, x, y with
  | .add, .int i, .int j => .ok (.int (i + j), st)
  | .add, .str a, .str b => mkStr (a ++ b) st
  | .add, .tup a, .tup b => mkTup (a ++ b) st
  | .add, .ref n, .ref m => (match st[n]?, st[m]? with
    | some (.lst a), some (.lst b) => mkLst (a ++ b) st
    | _, _ => .stuck)
  | .sub, .int i, .int j => .ok (.int (i - j), st)
  | .mul, .int i, .int j => need (mulOk i j) (.ok (.int (i * j), st))
  | .mul, .tup a, .int k => need (decide (2 ≤ k ∧ k ≤ 1000000 ∧ a ≠ [] ∧ a.length * k.toNat ≤ 1000000)) (mkTup (List.replicate k.toNat a).flatten st)
  | .fdiv, .int i, .int j => need (divOk j) (.ok (.int (i.fdiv j), st))
  | .mod, .int i, .int j => need (decide (j ≠ 0)) (.ok (.int (i.fmod j), st))
  | .pow, .int i, .int j => need (decide (0 ≤ j ∧ j ≤ 1000000 ∧ i.natAbs < 2 ^ 64)) (.ok (.int (i ^ j.toNat), st))
  | _, _, _ => .stuck
/-- as plain data, lists read in the store -/
def toPd (st : Store) : Nat → D → Option PyData
  | 0, _ => none
  | _ + 1, .non => some .none
  | _ + 1, .bl b => some (.bool b)
  | _ + 1, .int i => some (.int i)
  | _ + 1, .str x => some (.str ⟨x.toArray⟩)
  | n + 1, .tup ds => (ds.mapM (toPd st n)).map .tuple
  | n + 1, .frz ds => (ds.mapM (toPd st n)).map .list
  | n + 1, .ref k => (match listAt st k with
    | some ds => (ds.mapM (toPd st n)).map .list
    | none => none)
  | _ + 1, .fn _ => none
def eqD (st : Store) (x y : D) : Option Bool := match toPd st 60 x, toPd st 60 y with
  | some p, some q => if (SeqAt.shaped p && SeqAt.shaped q) = true then some (PyData.eqv p q) else none
  | _, _ => none
def memD (st : Store) (x : D) (ds : List D) : Option Bool := match toPd st 60 x, ds.mapM (toPd st 59) with
  | some p, some qs => if (SeqAt.shaped p && SeqAt.shaped (.list qs)) = true then some (qs.any fun z => PyData.eqv z p) else none
  | _, _ => none
/-- the order of ints, of texts, of tuples of such -/
inductive Or where
  | lt | le | gt | ge
  deriving DecidableEq
def Or.int : Or → Int → Int → Bool
  | .lt, i, j => decide (i < j)
  | .le, i, j => decide (i ≤ j)
  | .gt, i, j => decide (j < i)
  | .ge, i, j => decide (j ≤ i)
def Or.str : Or → List Nat → List Nat → Bool
  | .lt, a, b => decide (a < b)
  | .le, a, b => !decide (b < a)
  | .gt, a, b => decide (b < a)
  | .ge, a, b => !decide (a < b)
/-- of the lengths, where all pairs are equal -/
def Or.nat : Or → Nat → Nat → Bool
  | .lt, i, j => decide (i < j)
  | .le, i, j => decide (i ≤ j)
  | .gt, i, j => decide (i > j)
  | .ge, i, j => decide (i ≥ j)
def ordP (o : Or) : Nat → PyData → PyData → Option Bool
  | _, .int i, .int j => some (o.int i j)
  | _, .str a, .str b => some (o.str a.cps.toList b.cps.toList)
  | n + 1, .tuple a, .tuple b => ordL n a b
  | _, _, _ => none
where ordL (n : Nat) : List PyData → List PyData → Option Bool
  | [], b => some (o.nat 0 b.length)
  | _ :: xs, [] => some (o.nat (xs.length + 1) 0)
  | x :: xs, y :: ys => if PyData.eqv x y = true then ordL n xs ys else ordP o n x y
def ordD (o : Or) (x y : D) : Option Bool := match toPd [] 60 x, toPd [] 60 y with
  | some p, some q => if (SeqAt.shaped p && SeqAt.shaped q) = true then ordP o 40 p q else none
  | _, _ => none
abbrev ltD (x y : D) : Option Bool := ordD .lt x y
/-- has the text a the text b within -/
def isSub (a b : List Nat) : Bool := match b with
  | [c] => decide (c ∈ a)
  | b => !(Builtin.Str.occurrences ⟨a.toArray⟩ ⟨b.toArray⟩ 0 a.length 1).isEmpty
def okB (o : Option Bool) (f : Bool → Bool) (st : Store) : Res (D × Store) := match o with
  | some b => .ok (.bl (f b), st)
  | none => .stuck
def memb (x y : D) (st : Store) : Option Bool := match y with
  | .tup ds => memD st x ds
  | .frz ds => memD st x ds
  | .ref n => (match listAt st n with
    | some ds => memD st x ds
    | none => none)
  | .str a => (match x with
    | .str b => some (isSub a b)
    | _ => none)
  | _ => none
def cmp2 (o : Cm) (x y : D) (st : Store) : Res (D × Store) := match o with
  | .eq => okB (eqD st x y) id st
  | .ne => okB (eqD st x y) (!·) st
  | .lt => okB (ordD .lt x y) id st
  | .gt => okB (ordD .gt x y) id st
  | .le => okB (ordD .le x y) id st
  | .ge => okB (ordD .ge x y) id st
  | .isN => need (decide (y = .non)) (.ok (.bl (decide (x = .non)), st))
  | .notN => need (decide (y = .non)) (.ok (.bl (!decide (x = .non)), st))
  | .mem => okB (memb x y st) id st
  | .nmem => okB (memb x y st) (!·) st
/-- a value's truth -/
def truth (d : D) (st : Store) : Option Bool := match d with
  | .non => some false
  | .bl b => some b
  | .int i => some (i != 0)
  | .str x => some (!x.isEmpty)
  | .tup ds => some (!ds.isEmpty)
  | .frz ds => some (!ds.isEmpty)
  | .ref n => (listAt st n).map fun ds => !ds.isEmpty
  | .fn _ => none
def atD {α : Type} (xs : List α) (i : Int) : Option α := L2.atI xs i
def okD (o : Option D) (st : Store) : Res (D × Store) := match o with
  | some d => .ok (d, st)
  | none => .stuck
def subD (x i : D) (st : Store) : Res (D × Store) := match x, i with
  | .tup ds, .int k => okD (atD ds k) st
  | .frz ds, .int k => okD (atD ds k) st
  | .ref n, .int k => (match listAt st n with
    | some ds => okD (atD ds k) st
    | none => .stuck)
  | .str a, .int k => (match atD a k with
    | some c => .ok (.str [c], st)
    | none => .stuck)
  | _, _ => .stuck
def cutL {α : Type} (xs : List α) (lo hi : Option Int) : List α := (xs.drop (HT.sIx xs.length 0 lo)).take (HT.sIx xs.length xs.length hi - HT.sIx xs.length 0 lo)
def cutD (x : D) (l h : Option Int) (st : Store) : Res (D × Store) := match x with
  | .tup ds => .ok (.tup (cutL ds l h), st)
  | .frz ds => alloc (.lst (cutL ds l h)) st
  | .str a => .ok (.str (cutL a l h), st)
  | .ref n => (match listAt st n with
    | some ds => alloc (.lst (cutL ds l h)) st
    | none => .stuck)
  | _ => .stuck
def txts : List D → Option (List (List Nat))
  | [] => some []
  | .str x :: r => (txts r).map (x :: ·)
  | _ :: _ => none
def bools : List D → Option (List Bool)
  | [] => some []
  | .bl b :: r => (bools r).map (b :: ·)
  | _ :: _ => none
def intsD : List D → Option (List Int)
  | [] => some []
  | .int i :: r => (intsD r).map (i :: ·)
  | _ :: _ => none
def seqD (x : D) (st : Store) : Option (List D) := match x with
  | .tup ds => some ds
  | .frz ds => some ds
  | .ref n => listAt st n
  | _ => none
/-- a list, not a tuple -/
def lstD (x : D) (st : Store) : Option (List D) := match x with
  | .frz ds => some ds
  | .ref n => listAt st n
  | _ => none
def joinL (sep : List Nat) : List (List Nat) → List Nat
  | [] => []
  | [x] => x
  | x :: r => x ++ sep ++ joinL sep r
def numT (i : Int) : List Nat := (Str.ofString (toString i)).cps.toList
/-- an ascending arrangement: inserted one by one -/
def insG {α : Type} (lt : α → α → Bool) (x : α) : List α → List α
  | [] => [x]
  | y :: r => if lt y x = true then y :: insG lt x r else x :: y :: r
def sortG {α : Type} (lt : α → α → Bool) : List α → List α
  | [] => []
  | x :: r => insG lt x (sortG lt r)
abbrev sortI (l : List Int) : List Int := sortG (fun a b => decide (a < b)) l
abbrev sortT (l : List (List Nat)) : List (List Nat) := sortG (fun a b => decide (a < b)) l
def bfD (b : Bf) (x : D) (st : Store) : Res (D × Store) := match b with
  | .len => (match x with
    | .str a => .ok (.int a.length, st)
    | _ => (match seqD x st with
      | some ds => .ok (.int ds.length, st)
      | none => .stuck))
  | .int => (match x with
    | .int i => .ok (.int i, st)
    | .bl b => .ok (.int (if b then 1 else 0), st)
    | .str a => (match intText? ⟨a.toArray⟩ with
      | some n => need (decide (a.length ≤ 640)) (.ok (.int n, st))
      | none => .stuck)
    | _ => .stuck)
  | .str => (match x with
    | .int i => need (decide (i.natAbs.log2 < 1920)) (.ok (.str (numT i), st))
    | .str a => .ok (.str a, st)
    | _ => .stuck)
  | .all => (match (lstD x st).bind bools with
    | some bs => .ok (.bl (bs.all id), st)
    | none => .stuck)
  | .any => (match (lstD x st).bind bools with
    | some bs => .ok (.bl (bs.any id), st)
    | none => .stuck)
  | .tuple => (match x with
    | .tup ds => .ok (.tup ds, st)
    | .frz ds => .ok (.tup ds, st)
    | .ref n => (match listAt st n with
      | some ds => .ok (.tup ds, st)
      | none => .stuck)
    | _ => .stuck)
  | .list => (match seqD x st with
    | some ds => alloc (.lst ds) st
    | none => .stuck)
  | .sorted => (match lstD x st with
    | some ds => (match intsD ds, txts ds with
      | some ns, _ => alloc (.lst ((sortI ns).map .int)) st
      | none, some xs => need (decide (xs.length < 64)) (alloc (.lst ((sortT xs).map .str)) st)
      | none, none => .stuck)
    | none => .stuck)
  | .abs => (match x with
    | .int i => .ok (.int (if i < 0 then -i else i), st)
    | _ => .stuck)
  | .sum => (match (lstD x st).bind intsD with
    | some is => .ok (.int is.sum, st)
    | none => .stuck)
  | .max => .stuck
  | .min => .stuck
/-- a tuple, a list of the store -/
def extD (x : D) (st : Store) : Option (List D) := match x with
  | .tup ds => some ds
  | .ref n => listAt st n
  | _ => none
/-- a method of a built-in type, with one argument -/
def bmD (b : Bm) (o x : D) (st : Store) : Res (D × Store) := match b, o with
  | .append, .ref n => (match st[n]? with
    | some (.lst ds) => need (decide (ds.length < LN)) (.ok (.non, st.set n (.lst (ds ++ [x]))))
    | _ => .stuck)
  | .extend, .ref n => (match st[n]?, extD x st with
    | some (.lst ds), some es => need (decide (ds.length + es.length ≤ LN)) (.ok (.non, st.set n (.lst (ds ++ es))))
    | _, _ => .stuck)
  | .join, .str a => (match (seqD x st).bind txts with
    | some ys => need (decide ((ys.map (·.length)).sum + ys.length * a.length ≤ LN)) (.ok (.str (joinL a ys), st))
    | none => .stuck)
  | .split, .str a => (match x with
    | .str (s :: S) => need (decide (a.length + 2 ≤ LN) && decide ((s :: S).all (· < 256) = true)) (alloc (.lst ((TL.spl (s :: S) 0 [] a).map .str)) st)
    | _ => .stuck)
  | .startswith, .str a => (match x with
    | .str b => need (decide (b ≠ [])) (.ok (.bl (TL.pre b a), st))
    | _ => .stuck)
  | _, _ => .stuck
/-- what the method is one of -/
def bmTy (b : Bm) (d : D) (st : Store) : Bool := match b, d with
  | .append, .ref n => (listAt st n).isSome
  | .extend, .ref n => (listAt st n).isSome
  | .append, _ => false
  | .extend, _ => false
  | _, .str _ => true
  | _, _ => false
def typeD (d : D) (st : Store) : Option String := match d with
  | .non => some "NoneType"
  | .bl _ => some "bool"
  | .int _ => some "int"
  | .str _ => some "str"
  | .tup _ => some "tuple"
  | .frz _ => some "list"
  | .ref n => (listAt st n).map fun _ => "list"
  | .fn _ => none
/-- is a value of type t one of type c -/
def isTy (t c : String) : Bool := t == c || (t == "bool" && c == "int")
def fmtD (d : D) (st : Store) : Res (D × Store) := match d with
  | .str x => .ok (.str x, st)
  | .int i => need (decide (i.natAbs.log2 < 1920)) (.ok (.str (numT i), st))
  | _ => .stuck
/-! ### what is walked -/
inductive Itr where
  | fix (ds : List D)
  | cell (n : Nat) (ds : List D)
/-- the list that is walked stands as it did -/
def Itr.stands : Itr → Store → Bool
  | .fix _, _ => true
  | .cell n ds, st => decide (listAt st n = some ds)
def Itr.items : Itr → List D
  | .fix ds => ds
  | .cell _ ds => ds
def walkD (x : D) (st : Store) : Option Itr := match x with
  | .tup ds => some (.fix ds)
  | .frz ds => some (.fix ds)
  | .str a => some (.fix (a.map fun c => .str [c]))
  | .ref n => (listAt st n).map (.cell n)
  | _ => none
def rangeL (a b : Int) : List D := (List.range (b - a).toNat).map fun (k : Nat) => D.int (a + (k : Int))
def rangeOk (a b : Int) : Bool := decide (-(2 ^ 62) ≤ a ∧ a < 2 ^ 62 ∧ -(2 ^ 62) ≤ b ∧ b < 2 ^ 62)
def enumL : Nat → List D → List D
  | _, [] => []
  | k, d :: ds => .tup [.int k, d] :: enumL (k + 1) ds

/-! ### targets -/
def setAll : List Nat → List D → Rho → Option Rho
  | [], [], ρ => some ρ
  | i :: is, d :: ds, ρ => setAll is ds (ρ.set i (some d))
  | _, _, _ => none
def bindG (g : IG) (d : D) (ρ : Rho) : Option Rho := match g with
  | .name i => some (ρ.set i (some d))
  | .tup is => (match d with
    | .tup ds => setAll is ds ρ
    | _ => none)
/-- the slots forgotten -/
def wipeR (ρ : Rho) : List Nat → Rho
  | [] => ρ
  | v :: vs => (wipeR ρ vs).set v none

/-! ### expressions -/
abbrev Callee := Nat → List D → Store → Res (D × Store)
def reRho {α : Type} (ρ : Rho) (r : Res α) : Res α := match r with
  | .exn x _ st => .exn x ρ st
  | r => r
def gcR (st : Store) (r : Res (D × Store)) : Res (D × Store) := r.bind fun p => .ok (gc st p.1 p.2)
/-- nothing is raised within -/
def noX {α : Type} (r : Res α) : Res α := match r with
  | .exn _ _ _ => .stuck
  | r => r
/-- a comprehension's turns -/
def loopC (it : Itr) (g : IG) (cond : Rho → Store → Res (Bool × Store)) (elt : Rho → Store → Res (D × Store)) : List D → Rho → Store → Res (List D × Store)
  | [], _, st => need (it.stands st) (.ok ([], st))
  | d :: ds, ρ, st => need (it.stands st) (match bindG g d ρ with
    | none => .stuck
    | some ρ1 => (noX (cond ρ1 st)).bind fun p => if p.1 = true then (noX (gcR p.2 (elt ρ1 p.2))).bind fun q => (loopC it g cond elt ds ρ q.2).bind fun r => .ok (q.1 :: r.1, r.2)
      else loopC it g cond elt ds ρ p.2)
/-- a bool, as a test's end -/
def asB (p : D × Store) : Res (Bool × Store) := match p.1 with
  | .bl k => .ok (k, p.2)
  | _ => .stuck
def IE.isNil : IE → Bool
  | .nil => true
  | _ => false
mutual
def ev (C : Callee) : IE → Rho → Store → Res (D × Store)
  | .var i, ρ, st => (match ρ[i]? with
    | some (some d) => .ok (d, st)
    | _ => .stuck)
  | .cst d, _, st => .ok (d, st)
  | .glo _ d, _, st => .ok (d, st)
  | .op o a b, ρ, st => (ev C a ρ st).bind fun p => (ev C b ρ p.2).bind fun q => op2 o p.1 q.1 q.2
  | .neg a, ρ, st => (ev C a ρ st).bind fun p => (match p.1 with
    | .int i => .ok (.int (-i), p.2)
    | _ => .stuck)
  | .cmp o a b, ρ, st => (ev C a ρ st).bind fun p => (ev C b ρ p.2).bind fun q => cmp2 o p.1 q.1 q.2
  | .chain o1 o2 a b c, ρ, st => (ev C a ρ st).bind fun p => (ev C b ρ p.2).bind fun q => (cmp2 o1 p.1 q.1 q.2).bind fun t => (match t.1 with
    | .bl true => (ev C c ρ t.2).bind fun r => cmp2 o2 q.1 r.1 r.2
    | .bl false => .ok (.bl false, t.2)
    | _ => .stuck)
  | .and a b, ρ, st => (ev C a ρ st).bind fun p => (match p.1 with
    | .bl true => ev C b ρ p.2
    | .bl false => .ok (.bl false, p.2)
    | _ => .stuck)
  | .or a b, ρ, st => (ev C a ρ st).bind fun p => (match p.1 with
    | .bl true => .ok (.bl true, p.2)
    | .bl false => ev C b ρ p.2
    | _ => .stuck)
  | .not a, ρ, st => (ev C a ρ st).bind fun p => (match p.1 with
    | .bl b => .ok (.bl (!b), p.2)
    | _ => .stuck)
  | .ite t a b, ρ, st => (evt C t ρ st).bind fun p => if p.1 = true then ev C a ρ p.2 else ev C b ρ p.2
  | .tup es, ρ, st => (evs C es ρ st).bind fun p => mkTup p.1 p.2
  | .lst es, ρ, st => (evs C es ρ st).bind fun p => mkLst p.1 p.2
  | .sub a i, ρ, st => gcR st ((ev C a ρ st).bind fun p => (ev C i ρ p.2).bind fun q => subD p.1 q.1 q.2)
  | .cut a lo hi, ρ, st => gcR st ((ev C a ρ st).bind fun p => (evo C lo ρ p.2).bind fun l => (evo C hi ρ l.2).bind fun h => cutD p.1 l.1 h.1 h.2)
  | .call f es, ρ, st => (evs C es ρ st).bind fun p => reRho ρ (C f p.1 p.2)
  | .bf b a, ρ, st => gcR st ((ev C a ρ st).bind fun p => bfD b p.1 p.2)
  | .bm b o a, ρ, st => gcR st ((ev C o ρ st).bind fun p => need (bmTy b p.1 p.2) ((ev C a ρ p.2).bind fun q => bmD b p.1 q.1 q.2))
  | .isi a ts, ρ, st => (ev C a ρ st).bind fun p => (match typeD p.1 p.2 with
    | some t => .ok (.bl (ts.any (isTy t)), p.2)
    | none => .stuck)
  | .lc vs g it cond elt, ρ, st => (evi C it ρ st).bind fun p =>
      (loopC p.1 g (evc C cond) (ev C elt) p.1.items (wipeR ρ vs) p.2).bind fun q => mkLst q.1 q.2
  | .fst es, ρ, st => evf C es [] ρ st
  | .fmt a, ρ, st => (ev C a ρ st).bind fun p => fmtD p.1 p.2
  | _, _, _ => .stuck
/-- arguments, items -/
def evs (C : Callee) : IE → Rho → Store → Res (List D × Store)
  | .nil, _, st => .ok ([], st)
  | .cons a r, ρ, st => (ev C a ρ st).bind fun p => (evs C r ρ p.2).bind fun q => .ok (p.1 :: q.1, q.2)
  | _, _, _ => .stuck
/-- texts one behind the other -/
def evf (C : Callee) : IE → List Nat → Rho → Store → Res (D × Store)
  | .nil, acc, _, st => .ok (.str acc, st)
  | .cons a r, acc, ρ, st => (ev C a ρ st).bind fun p => (match p.1 with
    | .str x => need (decide (acc.length + x.length ≤ LN)) (evf C r (acc ++ x) ρ p.2)
    | _ => .stuck)
  | _, _, _, _ => .stuck
/-- a part that may be left out -/
def evo (C : Callee) : IE → Rho → Store → Res (Option Int × Store)
  | .nil, _, st => .ok (none, st)
  | .cons a .nil, ρ, st => (ev C a ρ st).bind fun p => (match p.1 with
    | .int i => .ok (some i, p.2)
    | _ => .stuck)
  | _, _, _ => .stuck
/-- a test -/
def evt (C : Callee) : IE → Rho → Store → Res (Bool × Store)
  | .and a b, ρ, st => (evt C a ρ st).bind fun p => if p.1 = true then evt C b ρ p.2 else .ok (false, p.2)
  | .or a b, ρ, st => (evt C a ρ st).bind fun p => if p.1 = true then .ok (true, p.2) else evt C b ρ p.2
  | .not a, ρ, st => (evt C a ρ st).bind fun p => .ok (!p.1, p.2)
  | .cmp o a b, ρ, st => (gcR st ((ev C a ρ st).bind fun p => (ev C b ρ p.2).bind fun q => cmp2 o p.1 q.1 q.2)).bind asB
  | .chain o1 o2 a b c, ρ, st => (gcR st ((ev C a ρ st).bind fun p => (ev C b ρ p.2).bind fun q => (cmp2 o1 p.1 q.1 q.2).bind fun t => (match t.1 with
    | .bl true => (ev C c ρ t.2).bind fun r => cmp2 o2 q.1 r.1 r.2
    | .bl false => .ok (.bl false, t.2)
    | _ => .stuck))).bind asB
  | .tru e, ρ, st => (gcR st (ev C e ρ st)).bind fun p => (match truth p.1 p.2 with
    | some b => .ok (b, p.2)
    | none => .stuck)
  | _, _, _ => .stuck
/-- a comprehension's tests: none or one -/
def evc (C : Callee) : IE → Rho → Store → Res (Bool × Store)
  | .nil, _, st => .ok (true, st)
  | .cons a .nil, ρ, st => evt C a ρ st
  | _, _, _ => .stuck
/-- what is walked -/
def evi (C : Callee) : IE → Rho → Store → Res (Itr × Store)
  | .rng a b, ρ, st => if a.isNil = true then (ev C b ρ st).bind fun q => (match q.1 with
    | .int j => need (rangeOk 0 j) (.ok (.fix (rangeL 0 j), q.2))
    | _ => .stuck) else (ev C a ρ st).bind fun p => (ev C b ρ p.2).bind fun q => (match p.1, q.1 with
    | .int i, .int j => need (rangeOk i j) (.ok (.fix (rangeL i j), q.2))
    | _, _ => .stuck)
  | .wlk e, ρ, st => (ev C e ρ st).bind fun p => (match walkD p.1 p.2 with
    | some i => .ok (i, p.2)
    | none => .stuck)
  | _, _, _ => .stuck
end

/-! ### loops without a bound -/
section
variable {S R : Type}
/-- n turns at most -/
def iterN (step : S → Res (S ⊕ R)) : Nat → S → Option (Res R)
  | 0, _ => none
  | n + 1, s => match step s with
    | .ok (.inl s') => iterN step n s'
    | .ok (.inr r) => some (.ok r)
    | .exn x ρ st => some (.exn x ρ st)
    | .stuck => some .stuck
theorem iterN_mono {step : S → Res (S ⊕ R)} : ∀ {n m : Nat} {s : S} {r : Res R}, iterN step n s = some r → n ≤ m → iterN step m s = some r
  | 0, _, _, _, h, _ => by simp [iterN] at h
  | n + 1, 0, _, _, _, hm => absurd hm (by omega)
  | n + 1, m + 1, s, r, h, hm => by
    unfold iterN at h ⊢
    split at h
    · exact iterN_mono h (by omega)
    · exact h
    · exact h
    · exact h
open Classical in
/-- turns until the end; without an end nothing is said -/
noncomputable def fixR (step : S → Res (S ⊕ R)) (s : S) : Res R := if h : ∃ n r, iterN step n s = some r then (Classical.choose_spec h).choose else .stuck
theorem fixR_of {step : S → Res (S ⊕ R)} {s : S} {n : Nat} {r : Res R} (h : iterN step n s = some r) : fixR step s = r := by
  unfold fixR
  have hx : ∃ n r, iterN step n s = some r := ⟨n, r, h⟩
  rw [dif_pos hx]
  have q := (Classical.choose_spec hx).choose_spec
  generalize (Classical.choose_spec hx).choose = r' at q
  have h1 := iterN_mono h (Nat.le_max_left n (Classical.choose hx))
  have h2 := iterN_mono q (Nat.le_max_right n (Classical.choose hx))
  rw [h1] at h2
  exact (Option.some.inj h2).symm
theorem fixR_none {step : S → Res (S ⊕ R)} {s : S} (h : ¬ ∃ n r, iterN step n s = some r) : fixR step s = .stuck := by
  unfold fixR
  rw [dif_neg h]
theorem fixR_cases (step : S → Res (S ⊕ R)) (s : S) : fixR step s = .stuck ∨ ∃ n, iterN step n s = some (fixR step s) := by
  by_cases h : ∃ n r, iterN step n s = some r
  · obtain ⟨n, r, e⟩ := h
    exact .inr ⟨n, by rw [fixR_of e]; exact e⟩
  · exact .inl (fixR_none h)
theorem fixR_go {step : S → Res (S ⊕ R)} {s s' : S} (h : step s = .ok (.inl s')) : fixR step s = fixR step s' := by
  by_cases hx : ∃ n r, iterN step n s' = some r
  · obtain ⟨n, r, e⟩ := hx
    rw [fixR_of e]
    exact fixR_of (n := n + 1) (by unfold iterN; rw [h]; exact e)
  · rw [fixR_none hx]
    refine fixR_none fun ⟨n, r, e⟩ => hx ?_
    cases n with
    | zero => simp [iterN] at e
    | succ n => unfold iterN at e; rw [h] at e; exact ⟨n, r, e⟩
theorem fixR_stop {step : S → Res (S ⊕ R)} {s : S} {r : R} (h : step s = .ok (.inr r)) : fixR step s = .ok r := fixR_of (n := 1) (by unfold iterN; rw [h])
theorem fixR_exn {step : S → Res (S ⊕ R)} {s : S} {x : Exc} {ρ : Rho} {st : Store} (h : step s = .exn x ρ st) : fixR step s = .exn x ρ st := fixR_of (n := 1) (by unfold iterN; rw [h])
end

/-! ### statements -/
inductive Out where
  | nx
  | ret (d : D)
  | brk
  | cont
abbrev SR := Res (Out × Rho × Store)
def setItemD (o i d : D) (st : Store) : Option Store := match o, i with
  | .ref n, .int k => (match st[n]? with
    | some (.lst ds) => (L2.ixN ds.length k).map fun j => st.set n (.lst (ds.set j d))
    | _ => none)
  | _, _ => none
def getL (o i : D) (st : Store) : Option D := match o, i with
  | .ref n, .int k => (listAt st n).bind fun ds => atD ds k
  | _, _ => none
def augOp (o : O2) (a b : Int) : Option Int := match o with
  | .add => some (a + b)
  | .sub => some (a - b)
  | _ => none
/-- a loop's turns -/
def loopF (it : Itr) (g : IG) (body : Rho → Store → SR) : List D → Rho → Store → SR
  | [], ρ, st => need (it.stands st) (.ok (.nx, ρ, st))
  | d :: ds, ρ, st => need (it.stands st) (match bindG g d ρ with
    | none => .stuck
    | some ρ1 => (body ρ1 st).bind fun p => (match p.1 with
      | .nx => loopF it g body ds p.2.1 p.2.2
      | .cont => loopF it g body ds p.2.1 p.2.2
      | .brk => .ok (.nx, p.2.1, p.2.2)
      | .ret d => .ok (.ret d, p.2.1, p.2.2)))
def whileStep (test : Rho → Store → Res (Bool × Store)) (body : Rho → Store → SR) (s : Rho × Store) : Res ((Rho × Store) ⊕ (Out × Rho × Store)) :=
  (test s.1 s.2).bind fun p => if p.1 = true then (body s.1 p.2).bind fun q => (match q.1 with
    | .nx => .ok (.inl (q.2.1, q.2.2))
    | .cont => .ok (.inl (q.2.1, q.2.2))
    | .brk => .ok (.inr (.nx, q.2.1, q.2.2))
    | .ret d => .ok (.inr (.ret d, q.2.1, q.2.2))) else .ok (.inr (.nx, s.1, p.2))
noncomputable def ex (C : Callee) : IS → Rho → Store → SR
  | .nil, ρ, st => .ok (.nx, ρ, st)
  | .seq s r, ρ, st => (ex C s ρ st).bind fun p => (match p.1 with
    | .nx => ex C r p.2.1 p.2.2
    | _ => .ok p)
  | .set g e, ρ, st => (gcR st (ev C e ρ st)).bind fun p => (match bindG g p.1 ρ with
    | some ρ1 => .ok (.nx, ρ1, p.2)
    | none => .stuck)
  | .setSub o i e, ρ, st => (gcR st (ev C e ρ st)).bind fun p => (ev C o ρ p.2).bind fun q => (ev C i ρ q.2).bind fun r => (match setItemD q.1 r.1 p.1 r.2 with
    | some st' => .ok (.nx, ρ, st')
    | none => .stuck)
  | .aug i o e, ρ, st => (match ρ[i]? with
    | some (some (.int a)) => (gcR st (ev C e ρ st)).bind fun p => (match p.1 with
      | .int b => (match augOp o a b with
        | some z => .ok (.nx, ρ.set i (some (.int z)), p.2)
        | none => .stuck)
      | _ => .stuck)
    | _ => .stuck)
  | .augSub o i p e, ρ, st => (ev C o ρ st).bind fun q => (ev C i ρ q.2).bind fun r => (match getL q.1 r.1 r.2 with
    | some (.int a) => (ev C e ρ r.2).bind fun y => (match y.1 with
      | .int b => (match augOp p a b with
        | some z => (match setItemD q.1 r.1 (.int z) y.2 with
          | some st' => .ok (.nx, ρ, st')
          | none => .stuck)
        | none => .stuck)
      | _ => .stuck)
    | _ => .stuck)
  | .expr e, ρ, st => (gcR st (ev C e ρ st)).bind fun p => .ok (.nx, ρ, p.2)
  | .doc, ρ, st => .ok (.nx, ρ, st)
  | .ret e, ρ, st => (gcR st (ev C e ρ st)).bind fun p => .ok (.ret p.1, ρ, p.2)
  | .retN, ρ, st => .ok (.ret .non, ρ, st)
  | .ifs t a b, ρ, st => (evt C t ρ st).bind fun p => if p.1 = true then ex C a ρ p.2 else ex C b ρ p.2
  | .fors g it b, ρ, st => (evi C it ρ st).bind fun p => loopF p.1 g (ex C b) p.1.items ρ p.2
  | .whiles t b, ρ, st => fixR (whileStep (evt C t) (ex C b)) (ρ, st)
  | .brk, ρ, st => .ok (.brk, ρ, st)
  | .cont, ρ, st => .ok (.cont, ρ, st)
  | .pass, ρ, st => .ok (.nx, ρ, st)
  | .raise _ _, _, _ => .stuck

/-! ### a def's call -/
abbrev Tab := Nat → Option Fn
def startR (n : Nat) (ds : List D) : Rho := ds.map some ++ List.replicate (n - ds.length) none
/-- behind the body: what the def gives -/
def outR (st : Store) (r : SR) : Res (D × Store) := r.bind fun p => (match p.1 with
  | .ret d => .ok (gc st d p.2.2)
  | .nx => .ok (gc st .non p.2.2)
  | _ => .stuck)
noncomputable def run (T : Tab) : Nat → Callee
  | 0 => fun _ _ _ => .stuck
  | k + 1 => fun f ds st => match T f with
    | none => .stuck
    | some F => need (decide (ds.length = F.ps)) (outR st (ex (run T k) F.body (startR F.n ds) st))
end Pw
end
section
set_option Elab.async false
set_option linter.all false
set_option maxRecDepth 100000
/-! PwB: what stands for what (part 2 of the layer). -/
namespace Pw
open PySem PySem.Spec PyProof.Rows L2

theorem nodup_at {α : Type} {N : List α} (hN : N.Nodup) {i j : Nat} {x : α} (a : N[i]? = some x) (b : N[j]? = some x) : i = j := by
  obtain ⟨h1, e1⟩ := List.getElem?_eq_some_iff.mp a
  obtain ⟨h2, e2⟩ := List.getElem?_eq_some_iff.mp b
  exact (List.getElem_inj hN).mp (e1.trans e2.symm)
/-- the written part, the module's names, the defs' names by number -/
structure GK where
  K : PySem.W.Frag
  mg : Str → Option Value
  nm : Nat → Option Str
mutual
inductive Rep (g : GK) (μ : List Addr) (H : Hp) : D → V → Prop where
  | non : Rep g μ H .non .non
  | bl (b : Bool) : Rep g μ H (.bl b) (.bl b)
  | int (i : Int) : Rep g μ H (.int i) (.int i)
  | str (x : List Nat) (h : x.length ≤ LN) : Rep g μ H (.str x) (.str ⟨x.toArray⟩)
  | tup {ds : List D} {a : Addr} {vs : List V} (h : SqT g.K H a vs) (r : RepL g μ H ds vs) : Rep g μ H (.tup ds) (.ref a)
  | frz {ds : List D} {o : Obj} {a : Addr} {vs : List V} (h : H a = some (.frz o (.lst vs))) (r : RepL g μ H ds vs) : Rep g μ H (.frz ds) (.ref a)
  | frk {ds : List D} {o : Obj} {its : Array Value} {n : Nat} {a : Addr} {vs : List V} (h1 : g.K.lookup a = some o) (h2 : o.cls = .type "list") (h3 : o.dict = none) (h4 : o.data = .seq its n) (h5 : its.size ≤ sizeLine) (h6 : Vals vs its.toList) (r : RepL g μ H ds vs) : Rep g μ H (.frz ds) (.ref a)
  | ref {n : Nat} {a : Addr} (h : μ[n]? = some a) : Rep g μ H (.ref n) (.ref a)
  | fn {k : Nat} {x : Str} {f : Addr} (h1 : g.nm k = some x) (h2 : g.mg x = some (.ref f)) : Rep g μ H (.fn k) (.ref f)
inductive RepL (g : GK) (μ : List Addr) (H : Hp) : List D → List V → Prop where
  | nil : RepL g μ H [] []
  | cons {d : D} {ds : List D} {v : V} {vs : List V} (h : Rep g μ H d v) (r : RepL g μ H ds vs) : RepL g μ H (d :: ds) (v :: vs)
end
section
variable {g : GK} {μ μ' : List Addr} {H H' : Hp}
theorem RepL.length : ∀ {ds : List D} {vs : List V}, RepL g μ H ds vs → vs.length = ds.length
  | [], _, h => by cases h; rfl
  | d :: ds, _, h => by
    cases h with
    | cons h r => simp [RepL.length r]
theorem RepL.get : ∀ {ds : List D} {vs : List V} {i : Nat} {d : D}, RepL g μ H ds vs → ds[i]? = some d → ∃ v, vs[i]? = some v ∧ Rep g μ H d v
  | [], _, _, _, _, e => by simp at e
  | d :: ds, _, 0, d', h, e => by
    cases h with
    | cons h r => simp at e; subst e; exact ⟨_, by simp, h⟩
  | d :: ds, _, i + 1, d', h, e => by
    cases h with
    | cons h r =>
      obtain ⟨v, h1, h2⟩ := RepL.get (i := i) r (by simpa using e)
      exact ⟨v, by simpa using h1, h2⟩
theorem RepL.append : ∀ {ds es : List D} {vs ws : List V}, RepL g μ H ds vs → RepL g μ H es ws → RepL g μ H (ds ++ es) (vs ++ ws)
  | [], _, _, _, h, k => by cases h; exact k
  | d :: ds, _, _, _, h, k => by
    cases h with
    | cons h r => exact .cons h (r.append k)
theorem RepL.drop : ∀ {ds : List D} {vs : List V} (n : Nat), RepL g μ H ds vs → RepL g μ H (ds.drop n) (vs.drop n)
  | _, _, 0, h => h
  | [], _, n + 1, h => by cases h; exact .nil
  | d :: ds, _, n + 1, h => by
    cases h with
    | cons h r => exact r.drop n
theorem RepL.take : ∀ {ds : List D} {vs : List V} (n : Nat), RepL g μ H ds vs → RepL g μ H (ds.take n) (vs.take n)
  | _, _, 0, h => by simp; exact .nil
  | [], _, n + 1, h => by cases h; exact .nil
  | d :: ds, _, n + 1, h => by
    cases h with
    | cons h r => exact .cons h (r.take n)
theorem RepL.set : ∀ {ds : List D} {vs : List V} (i : Nat) {d : D} {v : V}, RepL g μ H ds vs → Rep g μ H d v → RepL g μ H (ds.set i d) (vs.set i v)
  | [], _, _, _, _, h, _ => by cases h; exact .nil
  | d :: ds, _, 0, _, _, h, k => by
    cases h with
    | cons h r => exact .cons k r
  | d :: ds, _, i + 1, _, _, h, k => by
    cases h with
    | cons h r => exact .cons h (r.set i k)
theorem RepL.rep {ds : List D} {vs : List V} (h : RepL g μ H ds vs) : ∀ n : Nat, RepL g μ H (List.replicate n ds).flatten (List.replicate n vs).flatten
  | 0 => .nil
  | n + 1 => by
    rw [List.replicate_succ, List.replicate_succ, List.flatten_cons, List.flatten_cons]
    exact h.append (h.rep n)
theorem RepL.snoc {ds : List D} {vs : List V} {d : D} {v : V} (h : RepL g μ H ds vs) (k : Rep g μ H d v) : RepL g μ H (ds ++ [d]) (vs ++ [v]) := h.append (.cons k .nil)
theorem RepL.of_map {α : Type} {f : α → D} {k : α → V} : ∀ {l : List α}, (∀ a ∈ l, Rep g μ H (f a) (k a)) → RepL g μ H (l.map f) (l.map k)
  | [], _ => .nil
  | a :: l, h => .cons (h a List.mem_cons_self) (RepL.of_map fun b hb => h b (List.mem_cons_of_mem _ hb))
mutual
theorem Rep.bnd : ∀ (d : D) {v : V}, Rep g μ H d v → Pw.bnd μ.length d = true
  | .non, _, _ => rfl
  | .bl _, _, _ => rfl
  | .int _, _, _ => rfl
  | .str _, _, _ => rfl
  | .tup ds, _, h => by
    cases h with
    | tup h r => exact RepL.bnd ds r
  | .frz ds, _, h => by
    cases h with
    | frz h r => exact RepL.bnd ds r
    | frk _ _ _ _ _ _ r => exact RepL.bnd ds r
  | .ref n, _, h => by
    cases h with
    | ref h => exact decide_eq_true (List.getElem?_eq_some_iff.mp h).1
  | .fn _, _, _ => rfl
theorem RepL.bnd : ∀ (ds : List D) {vs : List V}, RepL g μ H ds vs → bnds μ.length ds = true
  | [], _, _ => rfl
  | d :: ds, _, h => by
    cases h with
    | cons h r => exact Bool.and_eq_true_iff.mpr ⟨Rep.bnd d h, RepL.bnd ds r⟩
end
/-- carried over: the addresses of the cells, the tuples, the frozen lists -/
structure Car (g : GK) (μ μ' : List Addr) (n : Nat) (H H' : Hp) : Prop where
  ref : ∀ k a, k < n → μ[k]? = some a → μ'[k]? = some a
  tup : ∀ a xs, Rd H a (.tup xs) → Rd H' a (.tup xs)
  frz : ∀ a o xs, H a = some (.frz o (.lst xs)) → H' a = some (.frz o (.lst xs))
mutual
theorem Rep.car {n : Nat} (c : Car g μ μ' n H H') : ∀ (d : D) {v : V}, Pw.bnd n d = true → Rep g μ H d v → Rep g μ' H' d v
  | .non, _, _, h => by cases h; exact .non
  | .bl _, _, _, h => by cases h; exact .bl _
  | .int _, _, _, h => by cases h; exact .int _
  | .str _, _, _, h => by
    cases h with
    | str _ h => exact .str _ h
  | .tup ds, _, hb, h => by
    cases h with
    | tup h r =>
      refine .tup ?_ (RepL.car c ds hb r)
      rcases h with h | h
      · exact .inl (c.tup _ _ h)
      · exact .inr h
  | .frz ds, _, hb, h => by
    cases h with
    | frz h r => exact .frz (c.frz _ _ _ h) (RepL.car c ds hb r)
    | frk h1 h2 h3 h4 h5 h6 r => exact .frk h1 h2 h3 h4 h5 h6 (RepL.car c ds hb r)
  | .ref k, _, hb, h => by
    cases h with
    | ref h => exact .ref (c.ref _ _ (of_decide_eq_true hb) h)
  | .fn _, _, _, h => by
    cases h with
    | fn h1 h2 => exact .fn h1 h2
theorem RepL.car {n : Nat} (c : Car g μ μ' n H H') : ∀ (ds : List D) {vs : List V}, bnds n ds = true → RepL g μ H ds vs → RepL g μ' H' ds vs
  | [], _, _, h => by cases h; exact .nil
  | d :: ds, _, hb, h => by
    cases h with
    | cons h r =>
      have hb := Bool.and_eq_true_iff.mp hb
      exact .cons (Rep.car c d hb.1 h) (RepL.car c ds hb.2 r)
end

/-! ### the store -/
def RepC (g : GK) (μ : List Addr) (H : Hp) (a : Addr) : Cell → Prop
  | .lst ds => ∃ vs, H a = some (.lst vs) ∧ RepL g μ H ds vs
structure RepSt (g : GK) (μ : List Addr) (H : Hp) (st : Store) : Prop where
  len : μ.length = st.length
  nd : μ.Nodup
  cell : ∀ (n : Nat) (a : Addr) (c : Cell), μ[n]? = some a → st[n]? = some c → RepC g μ H a c
theorem RepC.some {a : Addr} {c : Cell} (h : RepC g μ H a c) : ∃ o, H a = some o ∧ (∀ xs, o ≠ .tup xs) ∧ ∀ ob u, o ≠ .frz ob u := by
  cases c with
  | lst ds =>
    obtain ⟨vs, e, _⟩ := h
    exact ⟨_, e, (fun _ z => by cases z), (fun _ _ z => by cases z)⟩
theorem RepSt.at {st : Store} (h : RepSt g μ H st) {n : Nat} {a : Addr} (e : μ[n]? = some a) : ∃ c, st[n]? = some c ∧ RepC g μ H a c := by
  have hn : n < st.length := by rw [← h.len]; exact (List.getElem?_eq_some_iff.mp e).1
  exact ⟨st[n], by simp [hn], h.cell n a _ e (by simp [hn])⟩
theorem RepSt.addr {st : Store} (h : RepSt g μ H st) {n : Nat} {c : Cell} (e : st[n]? = some c) : ∃ a, μ[n]? = some a ∧ RepC g μ H a c := by
  have hn : n < μ.length := by rw [h.len]; exact (List.getElem?_eq_some_iff.mp e).1
  exact ⟨μ[n], by simp [hn], h.cell n _ c (by simp [hn]) e⟩
theorem RepSt.mem {st : Store} (h : RepSt g μ H st) {a : Addr} (m : a ∈ μ) : ∃ o, H a = Option.some o ∧ (∀ xs, o ≠ .tup xs) ∧ ∀ ob u, o ≠ .frz ob u := by
  obtain ⟨n, hn⟩ := List.mem_iff_getElem?.mp m
  obtain ⟨c, _, hc⟩ := h.at hn
  exact hc.some
theorem RepSt.notTup {st : Store} (h : RepSt g μ H st) {a : Addr} {xs : List V} (e : Rd H a (.tup xs)) : a ∉ μ := fun m => by
  obtain ⟨o, e2, h1, h2⟩ := h.mem m
  rcases e with e | ⟨ob, e⟩
  · rw [e] at e2; cases e2; exact h1 _ rfl
  · rw [e] at e2; cases e2; exact h2 _ _ rfl
theorem RepSt.notFrz {st : Store} (h : RepSt g μ H st) {a : Addr} {ob : Obj} {u : HO} (e : H a = Option.some (.frz ob u)) : a ∉ μ := fun m => by
  obtain ⟨o, e2, h1, h2⟩ := h.mem m
  rw [e] at e2; cases e2; exact h2 _ _ rfl
theorem RepSt.fresh {st : Store} (h : RepSt g μ H st) {p : Addr} (e : H p = none) : p ∉ μ := fun m => by
  obtain ⟨o, e2, _⟩ := h.mem m
  rw [e] at e2; cases e2

/-! ### a step -/
structure Stp (μ : List Addr) (H : Hp) (μ' : List Addr) (H' : Hp) : Prop where
  ref : ∀ (k : Nat) (a : Addr), μ[k]? = some a → μ'[k]? = some a
  new : ∀ a ∈ μ', a ∉ μ → H a = none
  keep : ∀ a o, a ∉ μ → H a = some o → H' a = some o
theorem Stp.refl : Stp μ H μ H := ⟨fun _ _ e => e, fun a h n => absurd h n, fun _ _ _ e => e⟩
theorem Stp.sub (s : Stp μ H μ' H') {a : Addr} (h : a ∈ μ) : a ∈ μ' := by
  obtain ⟨n, hn⟩ := List.mem_iff_getElem?.mp h
  exact List.mem_of_getElem? (s.ref n a hn)
theorem Stp.le (s : Stp μ H μ' H') : μ.length ≤ μ'.length := by
  cases h : μ.length with
  | zero => exact Nat.zero_le _
  | succ n =>
    have hn : n < μ.length := by omega
    have := s.ref n μ[n] (by simp [hn])
    have := (List.getElem?_eq_some_iff.mp this).1
    omega
theorem Stp.trans {μ'' : List Addr} {H'' : Hp} (s : Stp μ H μ' H') (t : Stp μ' H' μ'' H'') : Stp μ H μ'' H'' := by
  refine ⟨fun k a e => t.ref k a (s.ref k a e), fun a h n => ?_, fun a o n e => ?_⟩
  · by_cases m : a ∈ μ'
    · exact s.new a m n
    · have q := t.new a h m
      cases e : H a with
      | none => rfl
      | some o => rw [s.keep a o n e] at q; cases q
  · have e1 := s.keep a o n e
    refine t.keep a o (fun m => ?_) e1
    rw [s.new a m n] at e; cases e
theorem Stp.car {st : Store} (s : Stp μ H μ' H') (h : RepSt g μ H st) : Car g μ μ' μ.length H H' := by
  refine ⟨fun k a _ e => s.ref k a e, fun a xs e => ?_, fun a o xs e => s.keep a _ (h.notFrz e) e⟩
  have n := h.notTup e
  rcases e with e | ⟨ob, e⟩
  · exact .inl (s.keep a _ n e)
  · exact .inr ⟨ob, s.keep a _ n e⟩
theorem Rep.step {st : Store} {d : D} {v : V} (s : Stp μ H μ' H') (h : RepSt g μ H st) (r : Rep g μ H d v) : Rep g μ' H' d v := Rep.car (s.car h) d (Rep.bnd d r) r
theorem RepL.step {st : Store} {d : List D} {v : List V} (s : Stp μ H μ' H') (h : RepSt g μ H st) (r : RepL g μ H d v) : RepL g μ' H' d v := RepL.car (s.car h) d (RepL.bnd d r) r
/-- a new object: tracked, no cell -/
theorem Stp.laid {p : Addr} {o : HO} (e : H p = none) : Stp μ H μ (upd H p o) :=
  ⟨fun _ _ e => e, fun a h n => absurd h n, fun a o' _ h => by rw [upd_ne (ne_of_none h e)]; exact h⟩
theorem RepSt.laid {st : Store} {p : Addr} {o : HO} (h : RepSt g μ H st) (e : H p = none) : RepSt g μ (upd H p o) st := by
  refine ⟨h.len, h.nd, fun n a c e1 e2 => ?_⟩
  have q := h.cell n a c e1 e2
  obtain ⟨ob, e3, _⟩ := q.some
  cases c with
  | lst ds =>
    obtain ⟨vs, e4, r⟩ := q
    exact ⟨vs, by rw [upd_ne (ne_of_none e4 e)]; exact e4, r.step (.laid e) h⟩
/-- a new cell -/
theorem Stp.grow {st : Store} {p : Addr} {o : HO} (h : RepSt g μ H st) (e : H p = none) : Stp μ H (μ ++ [p]) (upd H p o) := by
  refine ⟨fun k a e => ?_, fun a m n => ?_, fun a o' _ h => by rw [upd_ne (ne_of_none h e)]; exact h⟩
  · rw [List.getElem?_append_left (List.getElem?_eq_some_iff.mp e).1]; exact e
  · rcases List.mem_append.mp m with m | m
    · exact absurd m n
    · rw [List.mem_singleton.mp m]; exact e
theorem RepSt.grow {st : Store} {p : Addr} {ds : List D} {vs : List V} (h : RepSt g μ H st) (e : H p = none) (r : RepL g μ H ds vs) : RepSt g (μ ++ [p]) (upd H p (.lst vs)) (st ++ [.lst ds]) := by
  have S : Stp μ H (μ ++ [p]) (upd H p (.lst vs)) := .grow h e
  refine ⟨by simp [h.len], ?_, fun n a c e1 e2 => ?_⟩
  · rw [List.nodup_append]
    refine ⟨h.nd, by simp, fun x hx y hy z => ?_⟩
    rw [List.mem_singleton.mp hy] at z
    exact h.fresh e (z ▸ hx)
  · by_cases hn : n < μ.length
    · rw [List.getElem?_append_left hn] at e1
      rw [List.getElem?_append_left (h.len ▸ hn)] at e2
      have q := h.cell n a c e1 e2
      cases c with
      | lst es =>
        obtain ⟨ws, e4, r'⟩ := q
        exact ⟨ws, by rw [upd_ne (ne_of_none e4 e)]; exact e4, r'.step S h⟩
    · have hm := (List.getElem?_eq_some_iff.mp e1).1
      have hnn : n = μ.length := by simp at hm; omega
      subst hnn
      rw [List.getElem?_append_right (Nat.le_refl _)] at e1
      rw [List.getElem?_append_right (by rw [h.len]; exact Nat.le_refl _)] at e2
      simp at e1
      rw [h.len] at e2
      simp at e2
      subst e1 e2
      exact ⟨vs, upd_same, r.step S h⟩
/-- a cell is changed -/
theorem Stp.write {n : Nat} {p : Addr} {o : HO} (e : μ[n]? = some p) : Stp μ H μ (upd H p o) :=
  ⟨fun _ _ e => e, fun a h n => absurd h n, fun a o' m h => by
    have ne : a ≠ p := fun z => m (by rw [z]; exact List.mem_of_getElem? e)
    rw [upd_ne ne]; exact h⟩
theorem RepSt.write {st : Store} {n : Nat} {p : Addr} {ds : List D} {vs : List V} (h : RepSt g μ H st) (e : μ[n]? = some p) (r : RepL g μ H ds vs) : RepSt g μ (upd H p (.lst vs)) (st.set n (.lst ds)) := by
  have S : Stp μ H μ (upd H p (.lst vs)) := .write e
  refine ⟨by simp [h.len], h.nd, fun m a c e1 e2 => ?_⟩
  by_cases hm : m = n
  · subst hm
    rw [e] at e1; cases e1
    rw [List.getElem?_set_self (by rw [← h.len]; exact (List.getElem?_eq_some_iff.mp e).1)] at e2
    cases e2
    exact ⟨vs, upd_same, r.step S h⟩
  · rw [List.getElem?_set_ne (Ne.symm hm)] at e2
    have q := h.cell m a c e1 e2
    have ha : a ≠ p := fun z => by
      subst z
      exact hm (nodup_at h.nd e1 e)
    cases c with
    | lst es =>
      obtain ⟨ws, e4, r'⟩ := q
      exact ⟨ws, by rw [upd_ne ha]; exact e4, r'.step S h⟩

/-! ### what is dropped -/
theorem bnd_of_cell {st : Store} (h : RepSt g μ H st) {i : Nat} {c : Cell} (e : st[i]? = some c) : bndC μ.length c = true := by
  obtain ⟨a, _, q⟩ := h.addr e
  cases c with
  | lst ds =>
    obtain ⟨vs, _, r⟩ := q
    exact RepL.bnd ds r
theorem okPre_at : ∀ {n : Nat} {st st' : Store} {i : Nat} {c : Cell}, okPre n st st' = true → st[i]? = some c → ∃ c', st'[i]? = some c' ∧ (c' = c ∨ bndC n c' = true)
  | _, [], _, _, _, _, e => by simp at e
  | _, _ :: _, [], _, _, h, _ => by simp [okPre] at h
  | n, c :: r, c' :: r', i, d, h, e => by
    simp only [okPre, Bool.and_eq_true, Bool.or_eq_true, decide_eq_true_eq] at h
    cases i with
    | zero =>
      simp at e
      subst e
      exact ⟨c', rfl, h.1⟩
    | succ i =>
      obtain ⟨d', e1, e2⟩ := okPre_at (i := i) h.2 (by simpa using e)
      exact ⟨d', by simpa using e1, e2⟩
theorem okPre_len : ∀ {n : Nat} {st st' : Store}, okPre n st st' = true → st.length ≤ st'.length
  | _, [], _, _ => Nat.zero_le _
  | _, _ :: _, [], h => by simp [okPre] at h
  | n, c :: r, c' :: r', h => by
    simp only [okPre, Bool.and_eq_true] at h
    exact Nat.succ_le_succ (okPre_len h.2)
/-- the cells behind are let go -/
theorem RepSt.drop {st st' : Store} (h : RepSt g μ H st) (h' : RepSt g μ' H' st') (s : Stp μ H μ' H') (ok : okPre st.length st st' = true) :
    RepSt g (μ'.take st.length) H' (st'.take st.length) ∧ Stp μ H (μ'.take st.length) H' ∧ Car g μ' (μ'.take st.length) st.length H' H' := by
  have hl := okPre_len ok
  have cr : Car g μ' (μ'.take st.length) st.length H' H' := ⟨fun k a hk e => by rw [List.getElem?_take_of_lt hk]; exact e, fun _ _ e => e, fun _ _ _ e => e⟩
  refine ⟨⟨by rw [List.length_take, List.length_take, h'.len], h'.nd.sublist (List.take_sublist _ _), fun n a c e1 e2 => ?_⟩, ⟨fun k a e => ?_, fun a m n => s.new a (List.mem_of_mem_take m) n, s.keep⟩, cr⟩
  · have hn : n < st.length := by
      have := (List.getElem?_eq_some_iff.mp e1).1
      simp at this; omega
    rw [List.getElem?_take_of_lt hn] at e1 e2
    have q := h'.cell n a c e1 e2
    have hb : bndC st.length c = true := by
      obtain ⟨c', e3, e4⟩ := okPre_at (i := n) (c := st[n]) ok (by simp [hn])
      rw [e2] at e3; cases e3
      rcases e4 with e4 | e4
      · subst e4
        rw [← h.len]
        exact bnd_of_cell h (i := n) (by simp [hn])
      · exact e4
    cases c with
    | lst ds =>
      obtain ⟨vs, e, r⟩ := q
      exact ⟨vs, e, RepL.car cr ds hb r⟩
  · have hk : k < st.length := by rw [← h.len]; exact (List.getElem?_eq_some_iff.mp e).1
    rw [List.getElem?_take_of_lt hk]
    exact s.ref k a e
theorem gc_ok {st st' : Store} {d : D} {v : V} (h : RepSt g μ H st) (h' : RepSt g μ' H' st') (s : Stp μ H μ' H') (r : Rep g μ' H' d v) :
    ∃ μ'', RepSt g μ'' H' (gc st d st').2 ∧ Stp μ H μ'' H' ∧ Rep g μ'' H' (gc st d st').1 v := by
  unfold gc
  by_cases ok : okPre st.length st st' = true
  · rw [if_pos ok]
    obtain ⟨k1, k2, cr⟩ := h.drop h' s ok
    have hl := okPre_len ok
    by_cases hb : bnd st.length d = true
    · rw [if_pos hb]
      exact ⟨_, k1, k2, Rep.car cr d hb r⟩
    · rw [if_neg hb]
      cases d with
      | ref m =>
        show ∃ μ'', RepSt g μ'' H' (match st'[m]? with
          | some c => if bndC st.length c = true then (D.ref st.length, st'.take st.length ++ [c]) else (D.ref m, st')
          | none => (D.ref m, st')).2 ∧ _ ∧ Rep g μ'' H' (match st'[m]? with
          | some c => if bndC st.length c = true then (D.ref st.length, st'.take st.length ++ [c]) else (D.ref m, st')
          | none => (D.ref m, st')).1 v
        cases r with
        | ref e =>
          rename_i a
          obtain ⟨c, e1, q⟩ := h'.at e
          rw [e1]
          dsimp only
          by_cases hc : bndC st.length c = true
          · rw [if_pos hc]
            have hm : st.length ≤ m := by
              rcases Nat.lt_or_ge m st.length with z | z
              · exact absurd (decide_eq_true z) hb
              · exact z
            have hlt : (μ'.take st.length).length = st.length := by rw [List.length_take, h'.len]; omega
            have hlt' : (st'.take st.length).length = st.length := by rw [List.length_take]; omega
            have hna : a ∉ μ'.take st.length := fun z => by
              obtain ⟨j, hj⟩ := List.mem_iff_getElem?.mp z
              have hj2 := (List.getElem?_eq_some_iff.mp hj).1
              rw [hlt] at hj2
              rw [List.getElem?_take_of_lt hj2] at hj
              have := nodup_at h'.nd hj e
              omega
            have hnm : a ∉ μ := fun z => by
              obtain ⟨j, hj⟩ := List.mem_iff_getElem?.mp z
              have hj2 := (List.getElem?_eq_some_iff.mp hj).1
              have := nodup_at h'.nd (s.ref j a hj) e
              rw [h.len] at hj2
              omega
            have cr2 : Car g μ' (μ'.take st.length ++ [a]) st.length H' H' := ⟨fun k b hk e => by
              rw [List.getElem?_append_left (by omega), List.getElem?_take_of_lt hk]; exact e, fun _ _ e => e, fun _ _ _ e => e⟩
            refine ⟨μ'.take st.length ++ [a], ⟨by simp [h'.len], ?_, fun n b c' e3 e4 => ?_⟩, ⟨fun k b ek => ?_, fun b mb nb => ?_, s.keep⟩, ?_⟩
            · rw [List.nodup_append]
              refine ⟨k1.nd, by simp, fun x hx y hy z => ?_⟩
              rw [List.mem_singleton.mp hy] at z
              exact hna (z ▸ hx)
            · by_cases hn : n < st.length
              · rw [List.getElem?_append_left (by omega)] at e3
                rw [List.getElem?_append_left (by omega)] at e4
                have q3 := k1.cell n b c' e3 e4
                have hb3 := bnd_of_cell k1 e4
                rw [hlt] at hb3
                cases c' with
                | lst ds =>
                  obtain ⟨vs, e5, r5⟩ := q3
                  refine ⟨vs, e5, RepL.car (n := st.length) ⟨fun k b hk e => ?_, fun _ _ e => e, fun _ _ _ e => e⟩ ds hb3 r5⟩
                  rw [List.getElem?_append_left (by omega)]; exact e
              · have h5 := (List.getElem?_eq_some_iff.mp e3).1
                have h6 : n = st.length := by simp at h5; omega
                subst h6
                rw [List.getElem?_append_right (by omega)] at e3 e4
                rw [hlt] at e3
                rw [hlt'] at e4
                simp at e3 e4
                subst e3 e4
                cases c with
                | lst ds =>
                  obtain ⟨vs, e5, r5⟩ := q
                  exact ⟨vs, e5, RepL.car cr2 ds hc r5⟩
            · have hk : k < st.length := by rw [← h.len]; exact (List.getElem?_eq_some_iff.mp ek).1
              rw [List.getElem?_append_left (by omega), List.getElem?_take_of_lt hk]
              exact s.ref k b ek
            · rcases List.mem_append.mp mb with z | z
              · exact s.new b (List.mem_of_mem_take z) nb
              · rw [List.mem_singleton.mp z]
                exact s.new a (List.mem_of_getElem? e) hnm
            · refine .ref ?_
              show (μ'.take st.length ++ [a])[st.length]? = some a
              rw [List.getElem?_append_right (by omega), hlt]
              simp
          · rw [if_neg hc]
            exact ⟨μ', h', s, .ref e⟩
      | _ => exact ⟨μ', h', s, r⟩
  · rw [if_neg ok]
    exact ⟨μ', h', s, r⟩
end

/-! ### slots -/
def RepR (g : GK) (μ : List Addr) (H : Hp) (ρ : Rho) (σ : L2.St) : Prop := ρ.length = σ.length ∧ ∀ (i : Nat) (d : D), ρ[i]? = some (some d) → ∃ v, σ[i]? = some (some v) ∧ Rep g μ H d v
section
variable {g : GK} {μ μ' : List Addr} {H H' : Hp} {ρ : Rho} {σ : L2.St}
theorem RepR.step {st : Store} (s : Stp μ H μ' H') (h : RepSt g μ H st) (r : RepR g μ H ρ σ) : RepR g μ' H' ρ σ := ⟨r.1, fun i d e =>
  let ⟨v, e1, e2⟩ := r.2 i d e
  ⟨v, e1, e2.step s h⟩⟩
theorem RepR.set (r : RepR g μ H ρ σ) {i : Nat} {d : D} {v : V} (k : Rep g μ H d v) : RepR g μ H (ρ.set i (some d)) (σ.set i (some v)) := by
  refine ⟨by simp [r.1], fun j e q => ?_⟩
  by_cases hj : j = i
  · subst hj
    have hl : j < ρ.length := by
      have := (List.getElem?_eq_some_iff.mp q).1
      simpa using this
    rw [List.getElem?_set_self hl] at q
    cases q
    exact ⟨v, by rw [List.getElem?_set_self (by rw [← r.1]; exact hl)], k⟩
  · rw [List.getElem?_set_ne (Ne.symm hj)] at q
    obtain ⟨w, e1, e2⟩ := r.2 j e q
    exact ⟨w, by rw [List.getElem?_set_ne (Ne.symm hj)]; exact e1, e2⟩
theorem RepR.unset (r : RepR g μ H ρ σ) (i : Nat) (o : Option V) : RepR g μ H (ρ.set i none) (σ.set i o) := by
  refine ⟨by simp [r.1], fun j e q => ?_⟩
  by_cases hj : j = i
  · subst hj
    have hl : j < ρ.length := by
      have := (List.getElem?_eq_some_iff.mp q).1
      simpa using this
    rw [List.getElem?_set_self hl] at q
    cases q
  · rw [List.getElem?_set_ne (Ne.symm hj)] at q
    obtain ⟨w, e1, e2⟩ := r.2 j e q
    exact ⟨w, by rw [List.getElem?_set_ne (Ne.symm hj)]; exact e1, e2⟩
theorem RepR.wipe (r : RepR g μ H ρ σ) : ∀ vs : List Nat, RepR g μ H (wipeR ρ vs) (L2.wipe σ vs)
  | [] => r
  | v :: vs => (r.wipe vs).unset v none
theorem repR_start {ds : List D} {vs : List V} {N : List Str} (r : RepL g μ H ds vs) (n : Nat) (hn : n = N.length) : RepR g μ H (startR n ds) (L2.start N vs) := by
  subst hn
  have hl := r.length
  refine ⟨by simp [startR, L2.start, hl], fun i d e => ?_⟩
  unfold startR at e
  unfold L2.start
  by_cases hi : i < ds.length
  · rw [List.getElem?_append_left (by simpa using hi), List.getElem?_map] at e
    rw [List.getElem?_append_left (by simpa [hl] using hi), List.getElem?_map]
    cases q : ds[i]? with
    | none => rw [q] at e; cases e
    | some d' =>
      rw [q] at e
      cases e
      obtain ⟨v, e1, e2⟩ := r.get q
      exact ⟨v, by rw [e1]; rfl, e2⟩
  · rw [List.getElem?_append_right (by simpa using hi), List.getElem?_replicate] at e
    split at e <;> cases e
end
end Pw
end
section
set_option Elab.async false
set_option linter.all false
set_option maxRecDepth 100000
/-! PwC: operators and built-ins, by values (part 3 of the layer). -/
namespace Pw
open PySem PySem.Spec PyProof.Rows L2

/-- what is wanted behind a value's making -/
def fin (g : GK) (μ : List Addr) (H : Hp) (Q : VK) (r : Res (D × Store)) : Prop := match r with
  | .ok p => ∀ μ' H' v, Stp μ H μ' H' → RepSt g μ' H' p.2 → Rep g μ' H' p.1 v → Q v H'
  | _ => False
theorem ln_eq : sizeLine = LN := sizeLine_eq
section
variable {g : GK} {μ : List Addr} {H : Hp} {Q : VK} {st : Store}
theorem fin_need {c : Bool} {r : Res (D × Store)} (h : fin g μ H Q (need c r)) : c = true ∧ fin g μ H Q r := by
  unfold need at h
  by_cases e : c = true
  · rw [if_pos e] at h; exact ⟨e, h⟩
  · rw [if_neg e] at h; exact h.elim
theorem fin_same {d : D} {v : V} (hs : RepSt g μ H st) (r : Rep g μ H d v) (h : fin g μ H Q (.ok (d, st))) : Q v H := h μ H v .refl hs r
theorem fin_okB {o : Option Bool} {f : Bool → Bool} (hs : RepSt g μ H st) (h : fin g μ H Q (okB o f st)) : ∃ b, o = some b ∧ Q (.bl (f b)) H := by
  cases o with
  | none => exact h.elim
  | some b => exact ⟨b, rfl, fin_same hs (.bl _) h⟩
theorem fin_tup {ds : List D} {vs : List V} (hs : RepSt g μ H st) (r : RepL g μ H ds vs) (h : fin g μ H Q (mkTup ds st)) : vs.length ≤ sizeLine ∧ ∀ p, H p = none → Q (.ref p) (upd H p (.tup vs)) := by
  obtain ⟨c, h⟩ := fin_need h
  refine ⟨by rw [r.length, ln_eq]; exact of_decide_eq_true c, fun p hp => h μ _ _ (.laid hp) (hs.laid hp) (.tup (SqT.of upd_same) (r.step (.laid hp) hs))⟩
theorem fin_alloc {ds : List D} {vs : List V} (hs : RepSt g μ H st) (r : RepL g μ H ds vs) (h : fin g μ H Q (alloc (.lst ds) st)) : ∀ p, H p = none → Q (.ref p) (upd H p (.lst vs)) := fun p hp => by
  refine h (μ ++ [p]) _ _ (.grow hs hp) (hs.grow hp r) (.ref ?_)
  rw [← hs.len, List.getElem?_append_right (Nat.le_refl _)]
  simp
theorem fin_lst {ds : List D} {vs : List V} (hs : RepSt g μ H st) (r : RepL g μ H ds vs) (h : fin g μ H Q (mkLst ds st)) : vs.length ≤ sizeLine ∧ ∀ p, H p = none → Q (.ref p) (upd H p (.lst vs)) := by
  obtain ⟨c, h⟩ := fin_need h
  exact ⟨by rw [r.length, ln_eq]; exact of_decide_eq_true c, fin_alloc hs r h⟩
theorem fin_str {x : List Nat} (hs : RepSt g μ H st) (h : fin g μ H Q (mkStr x st)) : x.length ≤ LN ∧ Q (.str ⟨x.toArray⟩) H := by
  obtain ⟨c, h⟩ := fin_need h
  exact ⟨of_decide_eq_true c, fin_same hs (.str _ (of_decide_eq_true c)) h⟩
theorem fin_okD {o : Option D} (h : fin g μ H Q (okD o st)) : ∃ d, o = some d ∧ fin g μ H Q (.ok (d, st)) := by
  cases o with
  | none => exact h.elim
  | some d => exact ⟨d, rfl, h⟩
/-- a cell's list -/
theorem Rep.cell {n : Nat} {v : V} {ds : List D} (hs : RepSt g μ H st) (r : Rep g μ H (.ref n) v) (e : listAt st n = some ds) : ∃ a vs, v = .ref a ∧ μ[n]? = some a ∧ st[n]? = some (.lst ds) ∧ H a = some (.lst vs) ∧ RepL g μ H ds vs := by
  cases r with
  | ref h =>
    obtain ⟨c, e1, q⟩ := hs.at h
    unfold listAt at e
    rw [e1] at e
    cases c with
    | lst es =>
      cases e
      obtain ⟨vs, e2, r2⟩ := q
      exact ⟨_, vs, rfl, h, e1, e2, r2⟩
theorem listAt_some {n : Nat} {ds : List D} (h : st[n]? = some (.lst ds)) : listAt st n = some ds := by
  unfold listAt; rw [h]
/-- a list that is only read -/
theorem Rep.frzL {v : V} {ds : List D} (r : Rep g μ H (.frz ds) v) : ∃ a vs, v = .ref a ∧ SqL g.K H a vs ∧ RepL g μ H ds vs ∧ TyX g.K H (.ref a) (.type "list") := by
  cases r with
  | frz h r => exact ⟨_, _, rfl, .inl (.inr ⟨_, h⟩), r, .base (.frz h)⟩
  | frk h1 h2 h3 h4 h5 h6 r => exact ⟨_, _, rfl, .inr ⟨_, _, _, h1, h2, h3, h4, h5, h6⟩, r, .kList h1 h2⟩
theorem Rep.tupL {v : V} {ds : List D} (r : Rep g μ H (.tup ds) v) : ∃ a vs, v = .ref a ∧ SqT g.K H a vs ∧ RepL g μ H ds vs := by
  cases r with
  | tup h r => exact ⟨_, _, rfl, h, r⟩
/-- a list or a tuple -/
theorem Rep.seq {d : D} {v : V} {ds : List D} (hs : RepSt g μ H st) (r : Rep g μ H d v) (e : seqD d st = some ds) : ∃ a vs, v = .ref a ∧ (SqL g.K H a vs ∨ SqT g.K H a vs) ∧ RepL g μ H ds vs := by
  cases d with
  | tup es =>
    cases e
    obtain ⟨a, vs, e1, h, r⟩ := r.tupL
    exact ⟨a, vs, e1, .inr h, r⟩
  | frz es =>
    cases e
    obtain ⟨a, vs, e1, h, r, _⟩ := r.frzL
    exact ⟨a, vs, e1, .inl h, r⟩
  | ref n =>
    obtain ⟨a, vs, e1, _, _, h, r⟩ := r.cell hs e
    exact ⟨a, vs, e1, .inl (SqL.of h), r⟩
  | _ => cases e
/-- a list -/
theorem Rep.lst {d : D} {v : V} {ds : List D} (hs : RepSt g μ H st) (r : Rep g μ H d v) (e : lstD d st = some ds) : ∃ a vs, v = .ref a ∧ SqL g.K H a vs ∧ RepL g μ H ds vs := by
  cases d with
  | frz es =>
    cases e
    obtain ⟨a, vs, e1, h, r, _⟩ := r.frzL
    exact ⟨a, vs, e1, h, r⟩
  | ref n =>
    obtain ⟨a, vs, e1, _, _, h, r⟩ := r.cell hs e
    exact ⟨a, vs, e1, SqL.of h, r⟩
  | _ => cases e
end

/-! ### operators -/
def opPy : O2 → Operator
  | .add => .Add
  | .sub => .Sub
  | .mul => .Mult
  | .fdiv => .FloorDiv
  | .mod => .Mod
  | .pow => .Pow
/-- the words by values -/
def rV2 (g : GK) (f : D → D → Store → Res (D × Store)) : R2 := fun x y H Q => ∃ d e st μ, RepSt g μ H st ∧ Rep g μ H d x ∧ Rep g μ H e y ∧ fin g μ H Q (f d e st)

/-- tuple * int, up to a million items -/
theorem op_repT2 {X : Cx} {pins : List (Addr × Obj)} {s : Shared} {σ : L2.St} {H : Hp} {l : Addr} {k : Int} {xs : List V} {v u : Value} {Q : VK} (I : Inv X pins σ H s) (rx : RelV (.ref l) v) (ry : RelV (.int k) u) (hT : SqT X.K H l xs) (hne : xs ≠ []) (h1 : 2 ≤ k) (h2 : k ≤ 1000000) (hz : xs.length * k.toNat ≤ 1000000)
    (q : ∀ p, H p = none → Q (.ref p) (upd H p (.tup (List.replicate k.toNat xs).flatten))) : wpAny (model X.prog X.w) X.A (binaryOp .Mult v u) (EP X pins σ Q) X.xe s := by
  cases rx
  obtain ⟨t, rfl⟩ := ry
  obtain ⟨its, r, ⟨⟨cls, dd, data, sl⟩, ho, hc, n, hd⟩, hs⟩ := I.tuple hT
  simp only at hc hd
  subst hc hd
  have hle : its.length = xs.length := r.length.symm
  have hn : its ≠ [] := fun e => hne (by
    rw [e] at hle
    exact List.eq_nil_of_length_eq_zero hle.symm)
  have hi : its.toArray.isEmpty = false := by
    cases its with
    | nil => exact absurd rfl hn
    | cons a b => rfl
  have hsz0 : its.toArray.size = xs.length := by rw [List.size_toArray, hle]
  have hk : k = ((k.toNat : Nat) : Int) := by omega
  have hm : ((its.toArray.size : Nat) : Int) * k ≤ 1000000 := by
    rw [hsz0, hk, ← Int.natCast_mul]
    omega
  have flen : (List.replicate k.toNat its).flatten.length ≤ 1000000 := by
    rw [PyProof.Rows.lm_len_rep_flat, hle, Nat.mul_comm]
    exact hz
  have c0 : (decide (k < -(2 ^ 63)) || decide (k ≥ 2 ^ 63)) = false := by
    rw [decide_eq_false (by omega), decide_eq_false (by omega)] <;> rfl
  have c1 : (its.toArray.isEmpty || k == 1) = false := by
    rw [hi, Bool.false_or]
    exact beq_eq_false_iff_ne.mpr (by omega)
  have c2 : (decide (k ≤ 0) || its.toArray.isEmpty) = false := by
    rw [hi, Bool.or_false]
    exact decide_eq_false (by omega)
  have c4 : Builtin.Tuple.tupleTooMany (((its.toArray.size : Nat) : Int) * k) = false := by
    unfold Builtin.Tuple.tupleTooMany
    rw [sizeLine_eq]
    exact decide_eq_false (by omega)
  refine wpAny_binaryOp_repeat_ref (T := "tuple") (U := "int") (by decide) ⟨_, ho, rfl⟩ (fun s' => typeIs_int s' k t) noFill_tuple_mul F.fills_int_mul F.slot_int_rmul repeat_tuple F.slot_int_index.lookup
    (call_meets F.slot_int_rmul (typeIs_int s k t) F.entry_int_rmul (F.args_int_rmul_2 _ _) (int_rmul_tuple k t l its.toArray n dd sl)
      ⟨ho, rfl, ⟨_, ho, rfl⟩, call_meets F.slot_tuple_mul ⟨_, ho, rfl⟩ F.entry_tuple_mul (F.args_tuple_mul_2 _ _) (tuple_mulW l its.toArray n dd sl k t c0 c1 c2 (by omega) c4 (by rw [size_rep, List.size_toArray, sizeLine_eq]; exact Nat.le_trans flen (by decide))) ⟨ho, ?_⟩⟩)
  rw [size_rep]
  refine ⟨.ref s.heap.objs.size, _, I.laid (t' := s.toks) (o := .tup (List.replicate k.toNat xs).flatten) (fun b ob q => Heap.get?_push_of_some _ q) (Nat.le_refl _) ?_, rfl, q _ (I.hok.fresh (Nat.le_refl _))⟩
  exact ⟨by rw [PyProof.Rows.lm_len_rep_flat, sizeLine_eq, Nat.mul_comm]; exact Nat.le_trans hz (by decide), _, r.rep k.toNat, IsTup.new _ _⟩

theorem str_app (a b : List Nat) : (⟨a.toArray⟩ : Str) ++ (⟨b.toArray⟩ : Str) = ⟨(a ++ b).toArray⟩ := TL.ext_tl (by rw [TL.tl_append])
theorem str_len (a : List Nat) : (⟨a.toArray⟩ : Str).length = a.length := by simp [Str.length]
theorem op2_ok {g : GK} {X : Cx} (hK : X.K = g.K) (o : O2) : OpR X (binaryOp (opPy o)) (rV2 g (op2 o)) := by
  intro pins s σ H x y v u Q I rx ry h
  obtain ⟨d, e, st, μ, hs, hd, he, h⟩ := h
  cases o
  case add =>
    cases d <;> cases e <;> try exact (show False from h).elim
    case int.int i j =>
      cases hd; cases he
      exact op_add pins s σ H _ _ v u Q I rx ry ⟨i, j, rfl, rfl, fin_same hs (.int _) h⟩
    case str.str a b =>
      cases hd with
      | str _ h1 =>
      cases he with
      | str _ h2 =>
        obtain ⟨hz, q⟩ := fin_str hs h
        refine op_add_str pins s σ H _ _ v u Q I rx ry ⟨_, _, rfl, rfl, ?_, ?_⟩
        · rw [str_len, str_len, ln_eq]; rw [List.length_append] at hz; exact hz
        · rw [str_app]; exact q
    case tup.tup a b =>
      obtain ⟨p, xs, rfl, h1, r1⟩ := hd.tupL
      obtain ⟨q, ys, rfl, h2, r2⟩ := he.tupL
      have hr := r1.append r2
      obtain ⟨hz, k⟩ := fin_tup hs hr h
      have hsame : ∀ {c : List D} {w : V}, c = a ++ b → Rep g μ H (.tup c) w → Q w H := fun {c w} ec r => by
        subst ec
        exact fin_same hs r (fin_need h).2
      rw [← hK] at h1 h2
      refine op_catA pins s σ H _ _ v u Q I rx ry ⟨_, _, xs, ys, rfl, rfl, h1, h2, ?_, fun e1 => ?_, fun _ e2 => ?_, fun _ _ => k⟩
      · rw [List.length_append] at hz; exact hz
      · subst e1
        cases r1
        exact hsame rfl he
      · subst e2
        cases r2
        exact hsame (List.append_nil _).symm hd
    case ref.ref n m =>
      have h' : fin g μ H Q (match st[n]?, st[m]? with
        | some (.lst a), some (.lst b) => mkLst (a ++ b) st
        | _, _ => .stuck) := h
      cases en : st[n]? with
      | none => rw [en] at h'; exact h'.elim
      | some cn =>
        cases em : st[m]? with
        | none => rw [en, em] at h'; exact h'.elim
        | some cm =>
          rw [en, em] at h'
          cases cn with
          | lst a =>
          cases cm with
          | lst b =>
            obtain ⟨p, xs, rfl, _, _, hp, r1⟩ := hd.cell hs (listAt_some en)
            obtain ⟨q, ys, rfl, _, _, hq, r2⟩ := he.cell hs (listAt_some em)
            obtain ⟨hz, k⟩ := fin_lst hs (r1.append r2) h'
            exact op_cat pins s σ H _ _ v u Q I rx ry ⟨_, _, xs, ys, rfl, rfl, hp, hq, by rw [List.length_append] at hz; exact hz, k⟩
  case sub =>
    cases d <;> cases e <;> try exact (show False from h).elim
    case int.int i j =>
      cases hd; cases he
      exact op_sub pins s σ H _ _ v u Q I rx ry ⟨i, j, rfl, rfl, fin_same hs (.int _) h⟩
  case mul =>
    cases d <;> cases e <;> try exact (show False from h).elim
    case int.int i j =>
      cases hd; cases he
      obtain ⟨c, h⟩ := fin_need h
      have q := fin_same hs (.int _) h
      simp only [mulOk, Bool.or_eq_true, decide_eq_true_eq] at c
      by_cases c1 : i.natAbs < 2 ^ 64 ∨ j.natAbs < 2 ^ 64
      · refine op_mul pins s σ H _ _ v u Q I rx ry ⟨i, j, rfl, rfl, ?_, q⟩
        rcases c1 with c1 | c1
        · exact .inl ⟨by omega, by omega⟩
        · exact .inr ⟨by omega, by omega⟩
      · refine op_mulW pins s σ H _ _ v u Q I rx ry ⟨i, j, rfl, rfl, ?_, q⟩
        rcases c with c | c
        · exact absurd c c1
        · exact c
    case tup.int a k =>
      obtain ⟨p, xs, rfl, h1, r1⟩ := hd.tupL
      cases he
      obtain ⟨c, h⟩ := fin_need h
      obtain ⟨c1, c2, c3, c4⟩ := of_decide_eq_true c
      have hl := r1.length
      obtain ⟨hz, q⟩ := fin_tup hs (r1.rep k.toNat) h
      refine op_repT2 I rx ry (by rw [hK]; exact h1) (fun e => c3 ?_) c1 c2 (by rw [hl]; exact c4) q
      rw [e] at hl
      exact List.eq_nil_of_length_eq_zero hl.symm
  case fdiv =>
    cases d <;> cases e <;> try exact (show False from h).elim
    case int.int i j =>
      cases hd; cases he
      obtain ⟨c, h⟩ := fin_need h
      have q := fin_same hs (.int _) h
      simp only [divOk, Bool.and_eq_true, Bool.or_eq_true, decide_eq_true_eq] at c
      obtain ⟨c0, c | ⟨c1, c2⟩⟩ := c
      · exact op_fdivN pins s σ H _ _ v u Q I rx ry ⟨i, j, rfl, rfl, ⟨c0, c⟩, q⟩
      · rw [Int.fdiv_eq_ediv_of_nonneg i (by omega)] at q
        exact op_fdivW pins s σ H _ _ v u Q I rx ry ⟨i, j, rfl, rfl, ⟨c1, c2⟩, q⟩
  case mod =>
    cases d <;> cases e <;> try exact (show False from h).elim
    case int.int i j =>
      cases hd; cases he
      obtain ⟨c, h⟩ := fin_need h
      exact op_modN pins s σ H _ _ v u Q I rx ry ⟨i, j, rfl, rfl, of_decide_eq_true c, fin_same hs (.int _) h⟩
  case pow =>
    cases d <;> cases e <;> try exact (show False from h).elim
    case int.int i j =>
      cases hd; cases he
      obtain ⟨c, h⟩ := fin_need h
      have c' : 0 ≤ j ∧ j ≤ 1000000 ∧ i.natAbs < 2 ^ 64 := of_decide_eq_true c
      exact op_pow pins s σ H _ _ v u Q I rx ry ⟨i, j, rfl, rfl, c', fin_same hs (.int _) h⟩

/-! ### data -/
section
variable {g : GK} {μ : List Addr} {H : Hp} {st : Store}
theorem mapM_cons {α β : Type} {f : α → Option β} {a : α} {l : List α} {r : List β} (h : (a :: l).mapM f = some r) : ∃ b bs, f a = some b ∧ l.mapM f = some bs ∧ r = b :: bs := by
  rw [List.mapM_cons] at h
  cases e : f a with
  | none => rw [e] at h; cases h
  | some b =>
    rw [e] at h
    cases e2 : l.mapM f with
    | none => rw [e2] at h; cases h
    | some bs => rw [e2] at h; cases h; exact ⟨b, bs, rfl, rfl, rfl⟩
theorem dp_all {n : Nat} (ih : ∀ (d : D) (p : PyData) (v : V), toPd st n d = some p → Rep g μ H d v → Dp g.K H v p) : ∀ (ds : List D) (ps : List PyData) (vs : List V), ds.mapM (toPd st n) = some ps → RepL g μ H ds vs → DpAll g.K H vs ps
  | [], ps, vs, h, r => by
    cases r
    cases h
    exact .nil
  | d :: ds, ps, vs, h, r => by
    obtain ⟨b, bs, e1, e2, rfl⟩ := mapM_cons h
    cases r with
    | cons r1 r2 => exact .cons (ih d b _ e1 r1) (dp_all ih ds bs _ e2 r2)
theorem dp_of (hs : RepSt g μ H st) : ∀ (n : Nat) (d : D) (p : PyData) (v : V), toPd st n d = some p → Rep g μ H d v → Dp g.K H v p
  | 0, d, p, v, h, _ => by simp [toPd] at h
  | n + 1, d, p, v, h, r => by
    cases d with
    | non => cases r; cases h; exact .non
    | bl b => cases r; cases h; exact .bl _
    | int i => cases r; cases h; exact .int _
    | str x => cases r; cases h; exact .str _
    | tup ds =>
      simp only [toPd] at h
      obtain ⟨ps, e, rfl⟩ := Option.map_eq_some_iff.mp h
      obtain ⟨a, vs, rfl, h1, r1⟩ := r.tupL
      exact .tup h1 (dp_all (dp_of hs n) ds ps vs e r1)
    | frz ds =>
      simp only [toPd] at h
      obtain ⟨ps, e, rfl⟩ := Option.map_eq_some_iff.mp h
      obtain ⟨a, vs, rfl, h1, r1, _⟩ := r.frzL
      exact .lst h1 (dp_all (dp_of hs n) ds ps vs e r1)
    | ref k =>
      simp only [toPd] at h
      cases el : listAt st k with
      | none => rw [el] at h; cases h
      | some ds =>
        rw [el] at h
        obtain ⟨ps, e, rfl⟩ := Option.map_eq_some_iff.mp h
        obtain ⟨a, vs, rfl, _, _, h1, r1⟩ := r.cell hs el
        exact .lst (SqL.of h1) (dp_all (dp_of hs n) ds ps vs e r1)
    | fn k => simp [toPd] at h
theorem dpN_all {n : Nat} (ih : ∀ (d : D) (p : PyData) (v : V), toPd [] n d = some p → Rep g μ H d v → Dp g.K H v p) : ∀ (ds : List D) (ps : List PyData) (vs : List V), ds.mapM (toPd [] n) = some ps → RepL g μ H ds vs → DpAll g.K H vs ps
  | [], ps, vs, h, r => by
    cases r
    cases h
    exact .nil
  | d :: ds, ps, vs, h, r => by
    obtain ⟨b, bs, e1, e2, rfl⟩ := mapM_cons h
    cases r with
    | cons r1 r2 => exact .cons (ih d b _ e1 r1) (dpN_all ih ds bs _ e2 r2)
/-- without references the store does not matter -/
theorem dp_nil : ∀ (n : Nat) (d : D) (p : PyData) (v : V), toPd [] n d = some p → Rep g μ H d v → Dp g.K H v p
  | 0, d, p, v, h, _ => by simp [toPd] at h
  | n + 1, d, p, v, h, r => by
    cases d with
    | non => cases r; cases h; exact .non
    | bl b => cases r; cases h; exact .bl _
    | int i => cases r; cases h; exact .int _
    | str x => cases r; cases h; exact .str _
    | tup ds =>
      simp only [toPd] at h
      obtain ⟨ps, e, rfl⟩ := Option.map_eq_some_iff.mp h
      obtain ⟨a, vs, rfl, h1, r1⟩ := r.tupL
      exact .tup h1 (dpN_all (dp_nil n) ds ps vs e r1)
    | frz ds =>
      simp only [toPd] at h
      obtain ⟨ps, e, rfl⟩ := Option.map_eq_some_iff.mp h
      obtain ⟨a, vs, rfl, h1, r1, _⟩ := r.frzL
      exact .lst h1 (dpN_all (dp_nil n) ds ps vs e r1)
    | ref k => simp [toPd, listAt] at h
    | fn k => simp [toPd] at h
theorem eqD_some {x y : D} {b : Bool} (h : eqD st x y = some b) : ∃ p q, toPd st 60 x = some p ∧ toPd st 60 y = some q ∧ SeqAt.shaped p = true ∧ SeqAt.shaped q = true ∧ b = PyData.eqv p q := by
  unfold eqD at h
  split at h
  · rename_i p q e1 e2
    split at h
    · rename_i c
      cases h
      obtain ⟨c1, c2⟩ := Bool.and_eq_true_iff.mp c
      exact ⟨p, q, e1, e2, c1, c2, rfl⟩
    · cases h
  · cases h
theorem memD_some {x : D} {ds : List D} {b : Bool} (h : memD st x ds = some b) : ∃ p qs, toPd st 60 x = some p ∧ ds.mapM (toPd st 59) = some qs ∧ SeqAt.shaped p = true ∧ SeqAt.shaped (.list qs) = true ∧ b = qs.any fun z => PyData.eqv z p := by
  unfold memD at h
  split at h
  · rename_i p q e1 e2
    split at h
    · rename_i c
      cases h
      obtain ⟨c1, c2⟩ := Bool.and_eq_true_iff.mp c
      exact ⟨p, q, e1, e2, c1, c2, rfl⟩
    · cases h
  · cases h
end

/-! ### order -/
def orPy : Or → CmpOp
  | .lt => .Lt
  | .le => .LtE
  | .gt => .Gt
  | .ge => .GtE
theorem rc_int (o : Or) {A : Around} {s : Shared} (a b : Int) (t u : Tok) : Ob.RcOp (orPy o) A s (.int a t) (.int b u) (o.int a b) := by
  cases o
  · exact Ob.RcOp.lt_int a b t u
  · exact Ob.RcOp.le_int a b t u
  · exact Ob.RcOp.gt_int a b t u
  · exact Ob.RcOp.ge_int a b t u
theorem rc_str (o : Or) {A : Around} {s : Shared} (a b : List Nat) (t u : Tok) : Ob.RcOp (orPy o) A s (.str ⟨a.toArray⟩ t) (.str ⟨b.toArray⟩ u) (o.str a b) := by
  intro prog w E Q h
  cases o
  · have z : wpAny (model prog w) A (compareOp .Lt (.str ⟨a.toArray⟩ t) (.str ⟨b.toArray⟩ u)) Q E s := PyProof.Rows.lt_str h
    exact z
  · have z : wpAny (model prog w) A (compareOp .LtE (.str ⟨a.toArray⟩ t) (.str ⟨b.toArray⟩ u)) Q E s := PySem.P.le_str h
    exact z
  · have z : wpAny (model prog w) A (compareOp .Gt (.str ⟨a.toArray⟩ t) (.str ⟨b.toArray⟩ u)) Q E s := PySem.P.gt_str h
    exact z
  · have z : wpAny (model prog w) A (compareOp .GtE (.str ⟨a.toArray⟩ t) (.str ⟨b.toArray⟩ u)) Q E s := PySem.P.ge_str h
    exact z
/-- the pairs of two rows, from the left: k is what the first that differ give, z where none do -/
inductive LexR (op : CmpOp) (A : Around) (s : Shared) (z : Bool) : List (Value × Value) → Bool → Prop where
  | none : LexR op A s z [] z
  | same {x y : Value} {r : List (Value × Value)} {k : Bool} (h : SeqAt.EqAt A s x y true) (t : LexR op A s z r k) : LexR op A s z ((x, y) :: r) k
  | first {x y : Value} {r : List (Value × Value)} {k : Bool} (h : SeqAt.EqAt A s x y false) (t : Ob.RcOp op A s x y k) : LexR op A s z ((x, y) :: r) k
theorem tup_lt (l b : Addr) (xs ys : List Value) (n n2 : Nat) (dd dd2 : Option Addr) (sl sl2 : Array (Option Value)) (k : Bool) :
    Meets (Builtin.«tuple.__lt__» ⟨[.ref l, .ref b], []⟩)
      (fun A R s => s.heap.get? l = some { cls := .type "tuple", dict := dd, data := .seq xs.toArray n, slots := sl } ∧ s.heap.get? b = some { cls := .type "tuple", dict := dd2, data := .seq ys.toArray n2, slots := sl2 } ∧
        LexR .Lt A.in1 s (decide (xs.length < ys.length)) (xs.zip ys) k ∧ R (.ok (.ret (.bool k))) s) :=
  .of_wp fun prog w A R s h => by
    obtain ⟨hp, g, d, tk, os⟩ := s
    obtain ⟨hl, hb, lex, h⟩ := h
    have hsub := AutoSeq1.sub_tuple_tuple
    wp_walk using AutoSeq1.wpAny_loadPart' hl, AutoSeq1.wpAny_loadPart' hb, wpAny_forIn_list _ (fun rest c s' => c.1 = none ∧ s' = ⟨hp, g, d, tk, os⟩ ∧ LexR .Lt A.in1 ⟨hp, g, d, tk, os⟩ (decide (xs.length < ys.length)) rest k) _
    case turn =>
      rintro ⟨y, x⟩ rest c s' ⟨hc, rfl, lx⟩
      cases lx with
      | same he hr =>
        refine wpAny_bind (he prog w _ _ ?_)
        wp_walk
        exact ⟨rfl, rfl, hr⟩
      | first he hr =>
        refine wpAny_bind (he prog w _ _ ?_)
        have hr' := hr prog w
        wp_walk using hr'
        exact ⟨_, rfl, h⟩
    case fin =>
      rintro ⟨c1, c2⟩ s' ⟨hc, rfl, lx⟩
      simp only at hc
      subst hc
      cases lx
      wp_walk
      exact ⟨_, rfl, by simpa [Builtin.Tuple.tupleCompareSizes] using h⟩
    case h => exact ⟨rfl, rfl, by simpa using lex⟩
theorem tup_le (l b : Addr) (xs ys : List Value) (n n2 : Nat) (dd dd2 : Option Addr) (sl sl2 : Array (Option Value)) (k : Bool) :
    Meets (Builtin.«tuple.__le__» ⟨[.ref l, .ref b], []⟩)
      (fun A R s => s.heap.get? l = some { cls := .type "tuple", dict := dd, data := .seq xs.toArray n, slots := sl } ∧ s.heap.get? b = some { cls := .type "tuple", dict := dd2, data := .seq ys.toArray n2, slots := sl2 } ∧
        LexR .LtE A.in1 s (decide (xs.length ≤ ys.length)) (xs.zip ys) k ∧ R (.ok (.ret (.bool k))) s) :=
  .of_wp fun prog w A R s h => by
    obtain ⟨hp, g, d, tk, os⟩ := s
    obtain ⟨hl, hb, lex, h⟩ := h
    have hsub := AutoSeq1.sub_tuple_tuple
    wp_walk using AutoSeq1.wpAny_loadPart' hl, AutoSeq1.wpAny_loadPart' hb, wpAny_forIn_list _ (fun rest c s' => c.1 = none ∧ s' = ⟨hp, g, d, tk, os⟩ ∧ LexR .LtE A.in1 ⟨hp, g, d, tk, os⟩ (decide (xs.length ≤ ys.length)) rest k) _
    case turn =>
      rintro ⟨y, x⟩ rest c s' ⟨hc, rfl, lx⟩
      cases lx with
      | same he hr =>
        refine wpAny_bind (he prog w _ _ ?_)
        wp_walk
        exact ⟨rfl, rfl, hr⟩
      | first he hr =>
        refine wpAny_bind (he prog w _ _ ?_)
        have hr' := hr prog w
        wp_walk using hr'
        exact ⟨_, rfl, h⟩
    case fin =>
      rintro ⟨c1, c2⟩ s' ⟨hc, rfl, lx⟩
      simp only at hc
      subst hc
      cases lx
      wp_walk
      exact ⟨_, rfl, by simpa [Builtin.Tuple.tupleCompareSizes] using h⟩
    case h => exact ⟨rfl, rfl, by simpa using lex⟩
theorem tup_gt (l b : Addr) (xs ys : List Value) (n n2 : Nat) (dd dd2 : Option Addr) (sl sl2 : Array (Option Value)) (k : Bool) :
    Meets (Builtin.«tuple.__gt__» ⟨[.ref l, .ref b], []⟩)
      (fun A R s => s.heap.get? l = some { cls := .type "tuple", dict := dd, data := .seq xs.toArray n, slots := sl } ∧ s.heap.get? b = some { cls := .type "tuple", dict := dd2, data := .seq ys.toArray n2, slots := sl2 } ∧
        LexR .Gt A.in1 s (decide (xs.length > ys.length)) (xs.zip ys) k ∧ R (.ok (.ret (.bool k))) s) :=
  .of_wp fun prog w A R s h => by
    obtain ⟨hp, g, d, tk, os⟩ := s
    obtain ⟨hl, hb, lex, h⟩ := h
    have hsub := AutoSeq1.sub_tuple_tuple
    wp_walk using AutoSeq1.wpAny_loadPart' hl, AutoSeq1.wpAny_loadPart' hb, wpAny_forIn_list _ (fun rest c s' => c.1 = none ∧ s' = ⟨hp, g, d, tk, os⟩ ∧ LexR .Gt A.in1 ⟨hp, g, d, tk, os⟩ (decide (xs.length > ys.length)) rest k) _
    case turn =>
      rintro ⟨y, x⟩ rest c s' ⟨hc, rfl, lx⟩
      cases lx with
      | same he hr =>
        refine wpAny_bind (he prog w _ _ ?_)
        wp_walk
        exact ⟨rfl, rfl, hr⟩
      | first he hr =>
        refine wpAny_bind (he prog w _ _ ?_)
        have hr' := hr prog w
        wp_walk using hr'
        exact ⟨_, rfl, h⟩
    case fin =>
      rintro ⟨c1, c2⟩ s' ⟨hc, rfl, lx⟩
      simp only at hc
      subst hc
      cases lx
      wp_walk
      exact ⟨_, rfl, by simpa [Builtin.Tuple.tupleCompareSizes] using h⟩
    case h => exact ⟨rfl, rfl, by simpa using lex⟩
theorem tup_ge (l b : Addr) (xs ys : List Value) (n n2 : Nat) (dd dd2 : Option Addr) (sl sl2 : Array (Option Value)) (k : Bool) :
    Meets (Builtin.«tuple.__ge__» ⟨[.ref l, .ref b], []⟩)
      (fun A R s => s.heap.get? l = some { cls := .type "tuple", dict := dd, data := .seq xs.toArray n, slots := sl } ∧ s.heap.get? b = some { cls := .type "tuple", dict := dd2, data := .seq ys.toArray n2, slots := sl2 } ∧
        LexR .GtE A.in1 s (decide (xs.length ≥ ys.length)) (xs.zip ys) k ∧ R (.ok (.ret (.bool k))) s) :=
  .of_wp fun prog w A R s h => by
    obtain ⟨hp, g, d, tk, os⟩ := s
    obtain ⟨hl, hb, lex, h⟩ := h
    have hsub := AutoSeq1.sub_tuple_tuple
    wp_walk using AutoSeq1.wpAny_loadPart' hl, AutoSeq1.wpAny_loadPart' hb, wpAny_forIn_list _ (fun rest c s' => c.1 = none ∧ s' = ⟨hp, g, d, tk, os⟩ ∧ LexR .GtE A.in1 ⟨hp, g, d, tk, os⟩ (decide (xs.length ≥ ys.length)) rest k) _
    case turn =>
      rintro ⟨y, x⟩ rest c s' ⟨hc, rfl, lx⟩
      cases lx with
      | same he hr =>
        refine wpAny_bind (he prog w _ _ ?_)
        wp_walk
        exact ⟨rfl, rfl, hr⟩
      | first he hr =>
        refine wpAny_bind (he prog w _ _ ?_)
        have hr' := hr prog w
        wp_walk using hr'
        exact ⟨_, rfl, h⟩
    case fin =>
      rintro ⟨c1, c2⟩ s' ⟨hc, rfl, lx⟩
      simp only at hc
      subst hc
      cases lx
      wp_walk
      exact ⟨_, rfl, by simpa [Builtin.Tuple.tupleCompareSizes] using h⟩
    case h => exact ⟨rfl, rfl, by simpa using lex⟩
theorem rc_tup (o : Or) {A : Around} {s : Shared} {l b : Addr} {xs ys : List Value} {k : Bool} (hl : s.heap.IsTuple l xs.toArray) (hb : s.heap.IsTuple b ys.toArray) (hu : A.units < cLine)
    (lex : LexR (orPy o) A.in1 s (o.nat xs.length ys.length) (xs.zip ys) k) : Ob.RcOp (orPy o) A s (.ref l) (.ref b) k := fun prog w E Q h => by
  obtain ⟨⟨cls, dd, data, sl⟩, ho, hc, n, hd⟩ := id hl
  obtain ⟨⟨cls2, dd2, data2, sl2⟩, ho2, hc2, n2, hd2⟩ := id hb
  simp only at hc hd hc2 hd2
  subst hc hd hc2 hd2
  have hw : Value.bool k ≠ .notImplemented ∧ Q (.bool k) s := ⟨(fun z => nomatch z), h⟩
  cases o
  · exact richCompare_meets_room (op := .Lt) ⟨_, ho, rfl⟩ ⟨_, ho2, rfl⟩ F.slot_tuple_lt F.entry_tuple_lt (F.args_tuple_lt_2 _ _) (tup_lt l b xs ys n n2 dd dd2 sl sl2 k) ⟨ho, ho2, lex, hw⟩ hu
  · exact richCompare_meets_room (op := .LtE) ⟨_, ho, rfl⟩ ⟨_, ho2, rfl⟩ F.slot_tuple_le F.entry_tuple_le (F.args_tuple_le_2 _ _) (tup_le l b xs ys n n2 dd dd2 sl sl2 k) ⟨ho, ho2, lex, hw⟩ hu
  · exact richCompare_meets_room (op := .Gt) ⟨_, ho, rfl⟩ ⟨_, ho2, rfl⟩ F.slot_tuple_gt F.entry_tuple_gt (F.args_tuple_gt_2 _ _) (tup_gt l b xs ys n n2 dd dd2 sl sl2 k) ⟨ho, ho2, lex, hw⟩ hu
  · exact richCompare_meets_room (op := .GtE) ⟨_, ho, rfl⟩ ⟨_, ho2, rfl⟩ F.slot_tuple_ge F.entry_tuple_ge (F.args_tuple_ge_2 _ _) (tup_ge l b xs ys n n2 dd dd2 sl sl2 k) ⟨ho, ho2, lex, hw⟩ hu
theorem nat_shift (o : Or) (a b : Nat) : o.nat (a + 1) (b + 1) = o.nat a b := by
  cases o <;> simp [Or.nat]
mutual
theorem rc_data (o : Or) {s : Shared} : ∀ (n : Nat) (A : Around) (p q : PyData) (u v : Value) (as bs : List Addr) (k : Bool), A.units + n + 66 < cLine → Reads s.heap u p as → Reads s.heap v q bs → p.canLay0 = true → q.canLay0 = true → p.depth ≤ 64 → q.depth ≤ 64 →
    ordP o n p q = some k → Ob.RcOp (orPy o) A s u v k
  | n, A, .int i, q, u, v, as, bs, k, hu, ru, rv, _, _, _, _, h => by
    cases q <;> simp [ordP] at h
    subst h
    cases ru
    cases rv
    exact rc_int o _ _ _ _
  | n, A, .str x, q, u, v, as, bs, k, hu, ru, rv, _, _, _, _, h => by
    cases q <;> simp [ordP] at h
    subst h
    cases ru
    cases rv
    exact rc_str o x.cps.toList _ _ _
  | n + 1, A, .tuple xs, .tuple ys, u, v, as, bs, k, hu, ru, rv, hp, hq, dp, dq, h => by
    simp only [ordP] at h
    cases ru with
    | tuple a1 a2 a3 a4 =>
    cases rv with
    | tuple b1 b2 b3 b4 =>
      have hp' : PyData.canLayAll0 xs = true := by simpa [PyData.canLay0] using hp
      have hq' : PyData.canLayAll0 ys = true := by simpa [PyData.canLay0] using hq
      have dp' : PyData.depthAll xs ≤ 64 := by simp only [PyData.depth] at dp; omega
      have dq' : PyData.depthAll ys ≤ 64 := by simp only [PyData.depth] at dq; omega
      have l := rc_list o n A.in1 xs ys _ _ _ _ k (by show A.units + 1 + n + 66 < cLine; omega) a4 b4 hp' hq' dp' dq' h
      exact rc_tup o ⟨_, a1, a2, _, by rw [a3]⟩ ⟨_, b1, b2, _, by rw [b3]⟩ (by omega) l
  | 0, A, .tuple xs, q, u, v, as, bs, k, hu, ru, rv, _, _, _, _, h => by cases q <;> simp [ordP] at h
  | n + 1, A, .tuple xs, .none, u, v, as, bs, k, hu, ru, rv, _, _, _, _, h => by simp [ordP] at h
  | n + 1, A, .tuple xs, .bool _, u, v, as, bs, k, hu, ru, rv, _, _, _, _, h => by simp [ordP] at h
  | n + 1, A, .tuple xs, .int _, u, v, as, bs, k, hu, ru, rv, _, _, _, _, h => by simp [ordP] at h
  | n + 1, A, .tuple xs, .str _, u, v, as, bs, k, hu, ru, rv, _, _, _, _, h => by simp [ordP] at h
  | n + 1, A, .tuple xs, .list _, u, v, as, bs, k, hu, ru, rv, _, _, _, _, h => by simp [ordP] at h
  | n + 1, A, .tuple xs, .dict _, u, v, as, bs, k, hu, ru, rv, _, _, _, _, h => by simp [ordP] at h
  | n, A, .none, q, u, v, as, bs, k, hu, ru, rv, _, _, _, _, h => by simp [ordP] at h
  | n, A, .bool _, q, u, v, as, bs, k, hu, ru, rv, _, _, _, _, h => by simp [ordP] at h
  | n, A, .list _, q, u, v, as, bs, k, hu, ru, rv, _, _, _, _, h => by simp [ordP] at h
  | n, A, .dict _, q, u, v, as, bs, k, hu, ru, rv, _, _, _, _, h => by simp [ordP] at h
theorem rc_list (o : Or) {s : Shared} : ∀ (n : Nat) (A : Around) (xs ys : List PyData) (us vs : List Value) (as bs : List Addr) (k : Bool), A.units + n + 66 < cLine → ReadsAll s.heap us xs as → ReadsAll s.heap vs ys bs → PyData.canLayAll0 xs = true → PyData.canLayAll0 ys = true → PyData.depthAll xs ≤ 64 → PyData.depthAll ys ≤ 64 →
    ordP.ordL o n xs ys = some k → LexR (orPy o) A s (o.nat us.length vs.length) (us.zip vs) k
  | n, A, [], ys, us, vs, as, bs, k, hu, ru, rv, _, _, _, _, h => by
    simp only [ordP.ordL] at h
    cases h
    cases ru
    have e : ys.length = vs.length := (SeqAt.ReadsAll.length ys vs bs rv).symm
    rw [e]
    exact .none
  | n, A, x :: xs, [], us, vs, as, bs, k, hu, ru, rv, _, _, _, _, h => by
    simp only [ordP.ordL] at h
    cases h
    have e := SeqAt.ReadsAll.length (x :: xs) us as ru
    cases rv
    rw [List.zip_nil_right]
    rw [e, List.length_cons]
    exact .none
  | n, A, x :: xs, y :: ys, us, vs, as, bs, k, hu, ru, rv, hp, hq, dp, dq, h => by
    simp only [ordP.ordL] at h
    cases ru with
    | cons r1 r2 =>
    cases rv with
    | cons q1 q2 =>
      simp only [PyData.canLayAll0, Bool.and_eq_true] at hp hq
      simp only [PyData.depthAll] at dp dq
      have dx : x.depth ≤ 64 := Nat.le_trans (Nat.le_max_left _ _) dp
      have dxs : PyData.depthAll xs ≤ 64 := Nat.le_trans (Nat.le_max_right _ _) dp
      have dy : y.depth ≤ 64 := Nat.le_trans (Nat.le_max_left _ _) dq
      have dys : PyData.depthAll ys ≤ 64 := Nat.le_trans (Nat.le_max_right _ _) dq
      have he := SeqAt.eqAt_reads x y A s _ _ _ _ r1 q1 hp.1 hq.1 (by have := Nat.min_le_left x.depth y.depth; omega)
      by_cases c : PyData.eqv x y = true
      · rw [if_pos c] at h
        rw [c] at he
        rw [List.zip_cons_cons, List.length_cons, List.length_cons, nat_shift]
        exact .same he (rc_list o n A xs ys _ _ _ _ k hu r2 q2 hp.2 hq.2 dxs dys h)
      · rw [if_neg c] at h
        rw [Bool.not_eq_true] at c
        rw [c] at he
        rw [List.zip_cons_cons]
        exact .first he (rc_data o n A x y _ _ _ _ k hu r1 q1 hp.1 hq.1 dx dy h)
end
/-- the four orders -/
theorem ord_ok {g : GK} {X : Cx} (hK : X.K = g.K) (hu : X.A.units + 150 < cLine) (o : Or) : OpR X (compareOp (orPy o)) (rV2 g fun d e st => okB (ordD o d e) id st) := by
  intro pins s σ H x y v u Q I rx ry h
  obtain ⟨d, e, st, μ, hs, hd, he, h⟩ := h
  obtain ⟨b, eb, q⟩ := fin_okB hs h
  unfold ordD at eb
  split at eb
  · rename_i p p' e1 e2
    split at eb
    · rename_i c
      obtain ⟨c1, c2⟩ := Bool.and_eq_true_iff.mp c
      have hs0 : RepSt g [] H [] := ⟨rfl, List.nodup_nil, fun n a c z => by simp at z⟩
      have dd : Dp X.K H x p := by rw [hK]; exact dp_nil 60 d p x e1 hd
      have de : Dp X.K H y p' := by rw [hK]; exact dp_nil 60 e p' y e2 he
      obtain ⟨as, r1⟩ := Dp.reads I p x v dd rx
      obtain ⟨bs, r2⟩ := Dp.reads I p' y u de ry
      have z := rc_data o 40 X.A p p' v u as bs b (by omega) r1 r2 (SeqAt.canLay_of_shaped c1) (SeqAt.canLay_of_shaped c2) (SeqAt.depth_of_shaped c1) (SeqAt.depth_of_shaped c2) eb
      have w := z X.prog X.w X.xe (EP X pins σ Q) ⟨.bl b, H, I, rfl, q⟩
      cases o <;> exact w
    · cases eb
  · cases eb
end Pw
end
section
set_option Elab.async false
set_option linter.all false
set_option maxRecDepth 100000
/-! PwD: comparisons, subscripts, built-ins, by values (part 4 of the layer). -/
namespace Pw
open PySem PySem.Spec PyProof.Rows L2

def cmPy : Cm → CmpOp
  | .eq => .Eq
  | .ne => .NotEq
  | .lt => .Lt
  | .le => .LtE
  | .gt => .Gt
  | .ge => .GtE
  | .isN => .Is
  | .notN => .IsNot
  | .mem => .In
  | .nmem => .NotIn
theorem rep_non {g : GK} {μ : List Addr} {H : Hp} {d : D} {v : V} (r : Rep g μ H d v) : decide (d = .non) = decide (v = .non) := by
  cases r <;> rfl
section
variable {g : GK} {X : Cx}
theorem room_data {a b : PyData} (hu : X.A.units + 150 < cLine) (ha : a.depth ≤ 64) : X.A.units + 1 + min a.depth b.depth < cLine := by
  have := Nat.min_le_left a.depth b.depth
  omega
/-- x in a list, a tuple, a text -/
theorem mem_ok (hK : X.K = g.K) (hu : X.A.units + 150 < cLine) (neg : Bool) : OpR X (compareOp (if neg then .NotIn else .In)) (rV2 g fun d e st => okB (memb d e st) (fun b => if neg then !b else b) st) := by
  intro pins s σ H x y v u Q I rx ry h
  obtain ⟨d, e, st, μ, hs, hd, he, h⟩ := h
  obtain ⟨b, eb, q⟩ := fin_okB hs h
  have lists : ∀ {ds : List D} {a : Addr} {vs : List V}, memD st d ds = some b → y = .ref a → (SqL g.K H a vs ∨ SqT g.K H a vs) → RepL g μ H ds vs → wpAny (model X.prog X.w) X.A (compareOp (if neg then .NotIn else .In) v u) (EP X pins σ Q) X.xe s := by
    intro ds a vs em ey hq r
    subst ey
    obtain ⟨p, qs, e1, e2, c1, c2, rfl⟩ := memD_some em
    have dd : Dp X.K H x p := by rw [hK]; exact dp_of hs 60 d p x e1 hd
    obtain ⟨as, r1⟩ := Dp.reads I p x v dd rx
    have da := dp_all (dp_of hs 59) ds qs vs e2 r
    have k1 : PyData.canLayAll0 qs = true := SeqAt.canLay_of_shaped c2
    have k2 := SeqAt.canLay_of_shaped c1
    have k3 : (PyData.depthAll qs) ≤ 64 := by have := SeqAt.depth_of_shaped c2; simp only [PyData.depth] at this; omega
    have k4 : X.A.units + 1 + min (PyData.depthAll qs) p.depth < cLine := by have := Nat.min_le_left (PyData.depthAll qs) p.depth; omega
    rcases hq with hq | hq
    · have dl : Dp X.K H (.ref a) (.list qs) := by rw [hK]; exact .lst hq da
      obtain ⟨bs, r2⟩ := Dp.reads I (.list qs) _ u dl ry
      cases neg
      · exact SeqAt.in_list_reads r2 r1 k1 k2 k4 ⟨.bl _, H, I, rfl, q⟩
      · exact SeqAt.notIn_list_reads r2 r1 k1 k2 k4 ⟨.bl _, H, I, rfl, q⟩
    · have dl : Dp X.K H (.ref a) (.tuple qs) := by rw [hK]; exact .tup hq da
      obtain ⟨bs, r2⟩ := Dp.reads I (.tuple qs) _ u dl ry
      cases neg
      · exact SeqAt.in_tuple_reads r2 r1 k1 k2 k4 ⟨.bl _, H, I, rfl, q⟩
      · exact SeqAt.notIn_tuple_reads r2 r1 k1 k2 k4 ⟨.bl _, H, I, rfl, q⟩
  cases e with
  | tup ds =>
    obtain ⟨a, vs, e1, h1, r⟩ := he.tupL
    exact lists eb e1 (.inr h1) r
  | frz ds =>
    obtain ⟨a, vs, e1, h1, r, _⟩ := he.frzL
    exact lists eb e1 (.inl h1) r
  | ref n =>
    have eb : (match listAt st n with
      | some ds => memD st d ds
      | none => none) = some b := eb
    cases el : listAt st n with
    | none => rw [el] at eb; cases eb
    | some ds =>
      rw [el] at eb
      obtain ⟨a, vs, e1, _, _, h1, r⟩ := he.cell hs el
      exact lists eb e1 (.inl (SqL.of h1)) r
  | str a =>
    cases d with
    | str c =>
      cases hd; cases he
      have eb : some (isSub a c) = some b := eb
      have eb : isSub a c = b := Option.some.inj eb
      subst eb
      match c, q, rx with
      | [w], q, rx =>
        cases neg
        · exact op_in_sign pins s σ H _ _ v u Q I rx ry ⟨w, _, rfl, rfl, q⟩
        · exact op_notIn_sign pins s σ H _ _ v u Q I rx ry ⟨w, _, rfl, rfl, q⟩
      | [], q, rx =>
        cases neg
        · exact op_in_str pins s σ H _ _ v u Q I rx ry ⟨_, _, rfl, rfl, by rw [str_len]; exact q⟩
        · exact op_notin_str pins s σ H _ _ v u Q I rx ry ⟨_, _, rfl, rfl, by rw [str_len]; exact q⟩
      | w :: w2 :: r, q, rx =>
        cases neg
        · exact op_in_str pins s σ H _ _ v u Q I rx ry ⟨_, _, rfl, rfl, by rw [str_len]; exact q⟩
        · exact op_notin_str pins s σ H _ _ v u Q I rx ry ⟨_, _, rfl, rfl, by rw [str_len]; exact q⟩
    | _ => cases eb
  | _ => cases eb
theorem cmp2_ok (hK : X.K = g.K) (hu : X.A.units + 150 < cLine) (o : Cm) : OpR X (compareOp (cmPy o)) (rV2 g (cmp2 o)) := by
  cases o
  case eq =>
    intro pins s σ H x y v u Q I rx ry h
    obtain ⟨d, e, st, μ, hs, hd, he, h⟩ := h
    obtain ⟨b, eb, q⟩ := fin_okB hs h
    obtain ⟨p, p', e1, e2, c1, c2, rfl⟩ := eqD_some eb
    exact op_eqD (by omega) pins s σ H x y v u Q I rx ry ⟨p, p', by rw [hK]; exact dp_of hs 60 d p x e1 hd, by rw [hK]; exact dp_of hs 60 e p' y e2 he, c1, c2, q⟩
  case ne =>
    intro pins s σ H x y v u Q I rx ry h
    obtain ⟨d, e, st, μ, hs, hd, he, h⟩ := h
    obtain ⟨b, eb, q⟩ := fin_okB hs h
    obtain ⟨p, p', e1, e2, c1, c2, rfl⟩ := eqD_some eb
    exact op_neD (by omega) pins s σ H x y v u Q I rx ry ⟨p, p', by rw [hK]; exact dp_of hs 60 d p x e1 hd, by rw [hK]; exact dp_of hs 60 e p' y e2 he, c1, c2, q⟩
  case lt => exact ord_ok hK hu .lt
  case le => exact ord_ok hK hu .le
  case gt => exact ord_ok hK hu .gt
  case ge => exact ord_ok hK hu .ge
  case isN =>
    intro pins s σ H x y v u Q I rx ry h
    obtain ⟨d, e, st, μ, hs, hd, he, h⟩ := h
    obtain ⟨c, h⟩ := fin_need h
    have q := fin_same hs (.bl _) h
    rw [rep_non hd] at q
    rw [rep_non he] at c
    exact op_isN pins s σ H x y v u Q I rx ry ⟨of_decide_eq_true c, q⟩
  case notN =>
    intro pins s σ H x y v u Q I rx ry h
    obtain ⟨d, e, st, μ, hs, hd, he, h⟩ := h
    obtain ⟨c, h⟩ := fin_need h
    have q := fin_same hs (.bl _) h
    rw [rep_non hd] at q
    rw [rep_non he] at c
    exact op_notN pins s σ H x y v u Q I rx ry ⟨of_decide_eq_true c, q⟩
  case mem =>
    exact mem_ok (X := X) hK hu false
  case nmem =>
    exact mem_ok (X := X) hK hu true

/-! ### truth -/
theorem truth_ok (hK : X.K = g.K) : TruR X (fun x H Q => ∃ d st μ b, RepSt g μ H st ∧ Rep g μ H d x ∧ truth d st = some b ∧ Q b H) := by
  intro pins s σ H x v Q I rx h
  obtain ⟨d, st, μ, b, hs, hd, e, q⟩ := h
  refine tru_ok pins s σ H x v Q I rx ⟨b, ?_, q⟩
  have emp : ∀ {ds : List D} {vs : List V}, RepL g μ H ds vs → (!ds.isEmpty) = !vs.isEmpty := by
    intro ds vs r
    cases r <;> rfl
  cases d with
  | non => cases hd; cases e; rfl
  | bl k => cases hd; cases e; rfl
  | int i => cases hd; cases e; rfl
  | str y =>
    cases hd with
    | str _ hz =>
      cases e
      refine ⟨by rw [str_len, ln_eq]; exact hz, ?_⟩
      rw [str_len]
      cases y with
      | nil => rfl
      | cons c r => simp; omega
  | tup ds =>
    obtain ⟨a, vs, rfl, h1, r⟩ := hd.tupL
    cases e
    exact .inr (.inl ⟨vs, by rw [hK]; exact h1, emp r⟩)
  | frz ds =>
    obtain ⟨a, vs, rfl, h1, r, _⟩ := hd.frzL
    cases e
    exact .inl ⟨vs, by rw [hK]; exact h1, emp r⟩
  | ref n =>
    obtain ⟨ds, el, rfl⟩ := Option.map_eq_some_iff.mp e
    obtain ⟨a, vs, rfl, _, _, h1, r⟩ := hd.cell hs el
    exact .inl ⟨vs, SqL.of h1, emp r⟩
  | fn k => cases e

/-! ### subscripts, slices -/
theorem atI_rep {μ : List Addr} {H : Hp} {ds : List D} {vs : List V} {i : Int} {d : D} (r : RepL g μ H ds vs) (e : atD ds i = some d) : ∃ v, atI vs i = some v ∧ Rep g μ H d v := by
  unfold atD atI at e
  unfold atI
  rw [r.length]
  cases ei : ixN ds.length i with
  | none => rw [ei] at e; cases e
  | some j =>
    rw [ei] at e
    exact r.get (i := j) e
theorem sub_ok (hK : X.K = g.K) : IxR X (rV2 g subD) := by
  intro value slice pins s σ H x y v u Q I rx ry h hp
  obtain ⟨d, e, st, μ, hs, hd, he, h⟩ := h
  cases e with
  | int k =>
    cases he
    cases d with
    | tup ds =>
      obtain ⟨a, vs, rfl, h1, r⟩ := hd.tupL
      obtain ⟨d', ed, h⟩ := fin_okD h
      obtain ⟨w, ew, rw'⟩ := atI_rep r ed
      exact ix_tup value slice pins s σ H _ _ v u Q I rx ry ⟨_, _, k, w, rfl, rfl, by rw [hK]; exact h1, ew, fin_same hs rw' h⟩ hp
    | frz ds =>
      obtain ⟨a, vs, rfl, h1, r, _⟩ := hd.frzL
      obtain ⟨d', ed, h⟩ := fin_okD h
      obtain ⟨w, ew, rw'⟩ := atI_rep r ed
      exact ix_list value slice pins s σ H _ _ v u Q I rx ry ⟨_, _, k, w, rfl, rfl, by rw [hK]; exact h1, ew, fin_same hs rw' h⟩ hp
    | ref n =>
      have h : fin g μ H Q (match listAt st n with
        | some ds => okD (atD ds k) st
        | none => .stuck) := h
      cases el : listAt st n with
      | none => rw [el] at h; exact h.elim
      | some ds =>
        rw [el] at h
        obtain ⟨a, vs, rfl, _, _, h1, r⟩ := hd.cell hs el
        obtain ⟨d', ed, h⟩ := fin_okD h
        obtain ⟨w, ew, rw'⟩ := atI_rep r ed
        exact ix_list value slice pins s σ H _ _ v u Q I rx ry ⟨_, _, k, w, rfl, rfl, SqL.of h1, ew, fin_same hs rw' h⟩ hp
    | str a =>
      cases hd with
      | str _ hz =>
        have h : fin g μ H Q (match atD a k with
          | some c => .ok (.str [c], st)
          | none => .stuck) := h
        cases ec : atD a k with
        | none => rw [ec] at h; exact h.elim
        | some c =>
          rw [ec] at h
          exact ix_str value slice pins s σ H _ _ v u Q I rx ry ⟨_, k, c, rfl, rfl, by rw [str_len, ln_eq]; exact hz, ec, fin_same hs (.str [c] (by show 1 ≤ 16777216; decide)) h⟩ hp
    | _ => exact (show False from h).elim
  | _ => cases d <;> exact (show False from h).elim
theorem cutL_rep {μ : List Addr} {H : Hp} {ds : List D} {vs : List V} {lo hi : Option Int} (r : RepL g μ H ds vs) : RepL g μ H (cutL ds lo hi) (cutV vs lo hi) := by
  unfold cutL cutV
  rw [r.length]
  exact (r.drop _).take _
theorem cutL_len {α : Type} (xs : List α) (lo hi : Option Int) : (cutL xs lo hi).length ≤ xs.length := by
  unfold cutL
  rw [List.length_take, List.length_drop]
  omega
/-- by values: the value, the two ends -/
def rCut (g : GK) : V → Option Int → Option Int → Hp → VK → Prop := fun x lo hi H Q => ∃ d st μ, RepSt g μ H st ∧ Rep g μ H d x ∧ fin g μ H Q (cutD d lo hi st)
theorem cut_ok (hK : X.K = g.K) : SlR X (rCut g) := by
  intro pins s σ H x v vl vu lo hi sl Q I rx his pl pu h
  obtain ⟨d, st, μ, hs, hd, h⟩ := h
  cases d with
  | tup ds =>
    obtain ⟨a, vs, rfl, h1, r⟩ := hd.tupL
    have r' := cutL_rep (lo := lo) (hi := hi) r
    have h : fin g μ H Q (.ok (.tup (cutL ds lo hi), st)) := h
    refine sl_tupA pins s σ H _ v vl vu lo hi sl Q I rx his pl pu ⟨a, vs, rfl, by rw [hK]; exact h1, fun ⟨w1, w2⟩ => ?_, fun _ p hp => ?_⟩
    · have e : cutL ds lo hi = ds := by
        unfold cutL
        rw [← r.length, w1, w2, r.length]
        simp
      rw [e] at h
      exact fin_same hs hd h
    · exact h μ _ _ (.laid hp) (hs.laid hp) (.tup (SqT.of upd_same) (r'.step (.laid hp) hs))
  | frz ds =>
    obtain ⟨a, vs, rfl, h1, r, _⟩ := hd.frzL
    exact sl_list pins s σ H _ v vl vu lo hi sl Q I rx his pl pu ⟨a, vs, rfl, by rw [hK]; exact h1, fin_alloc hs (cutL_rep r) h⟩
  | ref n =>
    have h : fin g μ H Q (match listAt st n with
      | some ds => alloc (.lst (cutL ds lo hi)) st
      | none => .stuck) := h
    cases en : listAt st n with
    | none => rw [en] at h; exact h.elim
    | some ds =>
      rw [en] at h
      obtain ⟨a, vs, rfl, _, _, h1, r⟩ := hd.cell hs en
      exact sl_list pins s σ H _ v vl vu lo hi sl Q I rx his pl pu ⟨a, vs, rfl, SqL.of h1, fin_alloc hs (cutL_rep r) h⟩
  | str a =>
    cases hd with
    | str _ hz =>
      refine sl_str pins s σ H _ v vl vu lo hi sl Q I rx his pl pu ⟨_, rfl, by rw [str_len, ln_eq]; exact hz, ?_⟩
      have q := fin_same hs (.str _ (Nat.le_trans (cutL_len a lo hi) hz)) h
      unfold cutS
      rw [str_len]
      exact q
  | _ => exact (show False from h).elim

/-! ### sorted -/
section
variable {α : Type} {lt : α → α → Bool}
theorem insG_perm (x : α) : ∀ l : List α, (insG lt x l).Perm (x :: l)
  | [] => .refl _
  | y :: r => by
    unfold insG
    split
    · exact ((insG_perm x r).cons y).trans (.swap x y r)
    · exact .refl _
theorem sortG_perm : ∀ l : List α, (sortG lt l).Perm l
  | [] => .refl _
  | x :: r => (insG_perm x (sortG lt r)).trans ((sortG_perm r).cons x)
/-- a total order -/
structure Tot (lt : α → α → Bool) : Prop where
  asym : ∀ x y, lt x y = true → lt y x = false
  tr : ∀ x y z, lt y x = false → lt z y = false → lt z x = false
  eq : ∀ x y, lt x y = false → lt y x = false → x = y
theorem insG_sorted (O : Tot lt) (x : α) : ∀ l : List α, l.Pairwise (fun a b => lt b a = false) → (insG lt x l).Pairwise (fun a b => lt b a = false)
  | [], _ => List.pairwise_singleton _ _
  | y :: r, h => by
    obtain ⟨h1, h2⟩ := List.pairwise_cons.mp h
    unfold insG
    split
    · rename_i c
      refine List.pairwise_cons.mpr ⟨fun z hz => ?_, insG_sorted O x r h2⟩
      rcases List.mem_cons.mp ((insG_perm x r).mem_iff.mp hz) with e | hz
      · rw [e]; exact O.asym _ _ c
      · exact h1 z hz
    · rename_i c
      have c : lt y x = false := by simpa using c
      exact List.pairwise_cons.mpr ⟨fun z hz => by
        rcases List.mem_cons.mp hz with e | hz
        · rw [e]; exact c
        · exact O.tr _ _ _ c (h1 z hz), h⟩
theorem sortG_sorted (O : Tot lt) : ∀ l : List α, (sortG lt l).Pairwise (fun a b => lt b a = false)
  | [] => List.Pairwise.nil
  | x :: r => insG_sorted O x _ (sortG_sorted O r)
/-- an arrangement is the only one -/
theorem sorted_unique (O : Tot lt) : ∀ {l m : List α}, l.Perm m → l.Pairwise (fun a b => lt b a = false) → m.Pairwise (fun a b => lt b a = false) → l = m
  | [], m, p, _, _ => p.nil_eq
  | x :: l, [], p, _, _ => absurd p.length_eq (by simp)
  | x :: l, y :: m, p, h1, h2 => by
    obtain ⟨a1, a2⟩ := List.pairwise_cons.mp h1
    obtain ⟨b1, b2⟩ := List.pairwise_cons.mp h2
    have irr : ∀ z, lt z z = false := fun z => by
      cases e : lt z z with
      | false => rfl
      | true => exact absurd (O.asym z z e) (by rw [e]; simp)
    have e : x = y := by
      refine O.eq x y ?_ ?_
      · rcases List.mem_cons.mp (p.mem_iff.mp List.mem_cons_self) with e | hx
        · rw [e]; exact irr y
        · exact b1 x hx
      · rcases List.mem_cons.mp (p.symm.mem_iff.mp List.mem_cons_self) with e | hy
        · rw [e]; exact irr x
        · exact a1 y hy
    subst e
    rw [sorted_unique O (List.Perm.cons_inv p) a2 b2]
end
theorem tot_int : Tot (fun a b : Int => decide (a < b)) := by
  refine ⟨fun x y h => ?_, fun x y z h1 h2 => ?_, fun x y h1 h2 => ?_⟩
  · simp only [decide_eq_true_eq] at h; simp; omega
  · simp only [decide_eq_false_iff_not] at h1 h2 ⊢; omega
  · simp only [decide_eq_false_iff_not] at h1 h2; omega
theorem tot_txt : Tot (fun a b : List Nat => decide (a < b)) := by
  refine ⟨fun x y h => ?_, fun x y z h1 h2 => ?_, fun x y h1 h2 => ?_⟩
  · simp only [decide_eq_true_eq] at h
    simp only [decide_eq_false_iff_not]
    exact List.lt_asymm h
  · simp only [decide_eq_false_iff_not, List.not_lt] at h1 h2 ⊢
    exact List.le_trans h1 h2
  · simp only [decide_eq_false_iff_not, List.not_lt] at h1 h2
    exact List.le_antisymm h2 h1
end

/-! ### built-in functions -/
theorem txts_map : ∀ {ds : List D} {ys : List (List Nat)}, txts ds = some ys → ds = ys.map .str
  | [], _, h => by cases h; rfl
  | d :: ds, ys, h => by
    cases d with
    | str x =>
      simp only [txts] at h
      obtain ⟨r, e, rfl⟩ := Option.map_eq_some_iff.mp h
      rw [txts_map e]
      rfl
    | _ => simp [txts] at h
theorem bools_map : ∀ {ds : List D} {ys : List Bool}, bools ds = some ys → ds = ys.map .bl
  | [], _, h => by cases h; rfl
  | d :: ds, ys, h => by
    cases d with
    | bl x =>
      simp only [bools] at h
      obtain ⟨r, e, rfl⟩ := Option.map_eq_some_iff.mp h
      rw [bools_map e]
      rfl
    | _ => simp [bools] at h
theorem ints_map : ∀ {ds : List D} {ys : List Int}, intsD ds = some ys → ds = ys.map .int
  | [], _, h => by cases h; rfl
  | d :: ds, ys, h => by
    cases d with
    | int x =>
      simp only [intsD] at h
      obtain ⟨r, e, rfl⟩ := Option.map_eq_some_iff.mp h
      rw [ints_map e]
      rfl
    | _ => simp [intsD] at h
section
variable {g : GK} {μ : List Addr} {H : Hp}
def stOf (x : List Nat) : Str := ⟨x.toArray⟩
theorem rep_txts : ∀ {ys : List (List Nat)} {vs : List V}, RepL g μ H (ys.map .str) vs → vs = (ys.map stOf).map V.str
  | [], _, h => by cases h; rfl
  | y :: ys, _, h => by
    cases h with
    | cons h r =>
      cases h
      rw [rep_txts r]
      rfl
theorem rep_bools : ∀ {ys : List Bool} {vs : List V}, RepL g μ H (ys.map .bl) vs → vs = ys.map V.bl
  | [], _, h => by cases h; rfl
  | y :: ys, _, h => by
    cases h with
    | cons h r =>
      cases h
      rw [rep_bools r]
      rfl
theorem rep_ints : ∀ {ys : List Int} {vs : List V}, RepL g μ H (ys.map .int) vs → vs = ys.map V.int
  | [], _, h => by cases h; rfl
  | y :: ys, _, h => by
    cases h with
    | cons h r =>
      cases h
      rw [rep_ints r]
      rfl
theorem repL_ints (ns : List Int) : RepL g μ H (ns.map .int) (ns.map V.int) := RepL.of_map fun i _ => .int i
theorem repL_txts {xs : List (List Nat)} (h : ∀ x ∈ xs, x.length ≤ LN) : RepL g μ H (xs.map .str) ((xs.map stOf).map V.str) := by
  rw [List.map_map]
  exact RepL.of_map fun x hx => .str x (h x hx)
theorem txts_len : ∀ {ys : List (List Nat)} {vs : List V}, RepL g μ H (ys.map .str) vs → ∀ x ∈ ys, x.length ≤ LN
  | [], _, _, x, hx => absurd hx (by simp)
  | y :: ys, _, h, x, hx => by
    cases h with
    | cons h r =>
      cases h with
      | str _ hz =>
        rcases List.mem_cons.mp hx with e | hx
        · rw [e]; exact hz
        · exact txts_len r x hx
end
theorem map_stOf_inj {xs ys : List (List Nat)} (h : xs.map stOf = ys.map stOf) : xs = ys := by
  have e : ∀ l : List (List Nat), (l.map stOf).map TL.tl = l := fun l => by
    rw [List.map_map]
    conv => rhs; rw [← List.map_id l]
    exact List.map_congr_left fun x _ => rfl
  rw [← e xs, h, e ys]
theorem stOf_tl (x : Str) : stOf (TL.tl x) = x := TL.mk_tl x
theorem risingS_pair : ∀ (l : List Str) (p : Str), risingS p l = true → ((p :: l).map TL.tl).Pairwise (fun a b => decide (b < a) = false)
  | [], p, _ => List.pairwise_singleton _ _
  | x :: r, p, h => by
    simp only [risingS, Bool.and_eq_true, Bool.not_eq_true', PyProof.Rows.ltCps_eq] at h
    have ih := risingS_pair r x h.2
    have h1 : decide (TL.tl x < TL.tl p) = false := h.1
    refine List.pairwise_cons.mpr ⟨fun z hz => ?_, ih⟩
    have ih1 := (List.pairwise_cons.mp ih).1
    have hz : z = TL.tl x ∨ z ∈ r.map TL.tl := by simpa using hz
    rcases hz with e | hz
    · rw [e]; exact h1
    · exact tot_txt.tr _ _ _ h1 (ih1 z hz)
theorem sortedS_pair : ∀ {ys : List Str}, sortedS ys = true → (ys.map TL.tl).Pairwise (fun a b => decide (b < a) = false)
  | [], _ => List.Pairwise.nil
  | x :: r, h => risingS_pair r x h
def bfId : Bf → Value
  | .len => .builtin "len"
  | .int => .type "int"
  | .str => .type "str"
  | .all => .builtin "all"
  | .any => .builtin "any"
  | .tuple => .type "tuple"
  | .list => .type "list"
  | .sorted => .builtin "sorted"
  | .abs => .builtin "abs"
  | .max => .builtin "max"
  | .min => .builtin "min"
  | .sum => .builtin "sum"
/-- by values: one argument -/
def rV1 (g : GK) (f : D → Store → Res (D × Store)) : List V → Hp → VK → Prop := fun xs H Q => ∃ x d st μ, xs = [x] ∧ RepSt g μ H st ∧ Rep g μ H d x ∧ fin g μ H Q (f d st)

section
variable {g : GK} {X : Cx}
theorem bf_ok (hK : X.K = g.K) (hc : X.calm = true) (b : Bf) : CallR X (bfId b) (rV1 g (bfD b)) := by
  intro pins s σ H xs us Q I rs h
  obtain ⟨x, d, st, μ, rfl, hs, hd, h⟩ := h
  cases b
  case len =>
    cases d with
    | str a =>
      cases hd with
      | str _ hz => exact call_len pins s σ H _ us Q I rs ⟨_, a.length, rfl, ⟨by rw [str_len, ln_eq]; exact hz, (str_len a).symm⟩, fin_same hs (.int _) h⟩
    | tup ds =>
      obtain ⟨a, vs, rfl, h1, r⟩ := hd.tupL
      exact call_len pins s σ H _ us Q I rs ⟨_, ds.length, rfl, .inr ⟨vs, by rw [hK]; exact h1, r.length.symm⟩, fin_same hs (.int _) h⟩
    | frz ds =>
      obtain ⟨a, vs, rfl, h1, r, _⟩ := hd.frzL
      exact call_len pins s σ H _ us Q I rs ⟨_, ds.length, rfl, .inl ⟨vs, by rw [hK]; exact h1, r.length.symm⟩, fin_same hs (.int _) h⟩
    | ref n =>
      have h : fin g μ H Q (match listAt st n with
        | some ds => .ok (.int ds.length, st)
        | none => .stuck) := h
      cases en : listAt st n with
      | none => rw [en] at h; exact h.elim
      | some ds =>
        rw [en] at h
        obtain ⟨a, vs, rfl, _, _, h1, r⟩ := hd.cell hs en
        exact call_len pins s σ H _ us Q I rs ⟨_, ds.length, rfl, .inl ⟨vs, SqL.of h1, r.length.symm⟩, fin_same hs (.int _) h⟩
    | _ => exact (show False from h).elim
  case int =>
    cases d with
    | int i => cases hd; exact call_int1 pins s σ H _ us Q I rs (.inl ⟨i, rfl, fin_same hs (.int _) h⟩)
    | bl k => cases hd; exact call_int1 pins s σ H _ us Q I rs (.inr ⟨k, rfl, fin_same hs (.int _) h⟩)
    | str a =>
      cases hd with
      | str _ hz =>
        have h : fin g μ H Q (match intText? ⟨a.toArray⟩ with
          | some n => need (decide (a.length ≤ 640)) (.ok (.int n, st))
          | none => .stuck) := h
        cases en : intText? ⟨a.toArray⟩ with
        | none => rw [en] at h; exact h.elim
        | some n =>
          rw [en] at h
          obtain ⟨c, h⟩ := fin_need h
          exact call_int_str pins s σ H _ us Q I rs ⟨_, n, rfl, en, by rw [str_len]; exact of_decide_eq_true c, fin_same hs (.int _) h⟩
    | _ => exact (show False from h).elim
  case str =>
    cases d with
    | int i =>
      cases hd
      obtain ⟨c, h⟩ := fin_need h
      have c' : i.natAbs.log2 < 1920 := of_decide_eq_true c
      have e : (stOf (numT i)) = (toString i : String) := stOf_tl _
      have hz : (numT i).length ≤ LN := by
        have := int_text_fits c'
        have e2 : (numT i).length = (Str.ofString (toString i)).length := by rw [TL.len_tl] <;> rfl
        rw [e2, ← ln_eq]
        exact this
      have q := fin_same hs (.str _ hz) h
      exact call_str_int pins s σ H _ us Q I rs ⟨i, rfl, c', by rw [← e]; exact q⟩
    | str a => cases hd with
      | str _ hz => exact SkE.call_str_str pins s σ H _ us Q I rs ⟨_, rfl, fin_same hs (.str _ hz) h⟩
    | _ => exact (show False from h).elim
  case all =>
    have h : fin g μ H Q (match (lstD d st).bind bools with
      | some bs => .ok (.bl (bs.all id), st)
      | none => .stuck) := h
    cases en : (lstD d st).bind bools with
    | none => rw [en] at h; exact h.elim
    | some bs =>
      rw [en] at h
      obtain ⟨ds, e1, e2⟩ := Option.bind_eq_some_iff.mp en
      obtain ⟨a, vs, rfl, h1, r⟩ := hd.lst hs e1
      have ed := bools_map e2
      subst ed
      have ev := rep_bools r
      subst ev
      exact cr_all hc pins s σ H _ us Q I rs ⟨a, bs, rfl, by rw [hK]; exact h1, fin_same hs (.bl _) h⟩
  case any =>
    have h : fin g μ H Q (match (lstD d st).bind bools with
      | some bs => .ok (.bl (bs.any id), st)
      | none => .stuck) := h
    cases en : (lstD d st).bind bools with
    | none => rw [en] at h; exact h.elim
    | some bs =>
      rw [en] at h
      obtain ⟨ds, e1, e2⟩ := Option.bind_eq_some_iff.mp en
      obtain ⟨a, vs, rfl, h1, r⟩ := hd.lst hs e1
      have ed := bools_map e2
      subst ed
      have ev := rep_bools r
      subst ev
      exact cr_any hc pins s σ H _ us Q I rs ⟨a, bs, rfl, by rw [hK]; exact h1, fin_same hs (.bl _) h⟩
  case tuple =>
    cases d with
    | tup ds =>
      obtain ⟨a, vs, rfl, h1, r⟩ := hd.tupL
      exact call_tuple_of pins s σ H _ us Q I rs ⟨a, vs, rfl, .inr ⟨by rw [hK]; exact h1, fin_same hs hd h⟩⟩
    | frz ds =>
      obtain ⟨a, vs, rfl, h1, r, _⟩ := hd.frzL
      exact call_tuple_of pins s σ H _ us Q I rs ⟨a, vs, rfl, .inl ⟨by rw [hK]; exact h1, fun p hp => h μ _ _ (.laid hp) (hs.laid hp) (.tup (SqT.of upd_same) (r.step (.laid hp) hs))⟩⟩
    | ref n =>
      have h : fin g μ H Q (match listAt st n with
        | some ds => .ok (.tup ds, st)
        | none => .stuck) := h
      cases en : listAt st n with
      | none => rw [en] at h; exact h.elim
      | some ds =>
        rw [en] at h
        obtain ⟨a, vs, rfl, _, _, h1, r⟩ := hd.cell hs en
        exact call_tuple_of pins s σ H _ us Q I rs ⟨a, vs, rfl, .inl ⟨SqL.of h1, fun p hp => h μ _ _ (.laid hp) (hs.laid hp) (.tup (SqT.of upd_same) (r.step (.laid hp) hs))⟩⟩
    | _ => exact (show False from h).elim
  case list =>
    have h : fin g μ H Q (match seqD d st with
      | some ds => alloc (.lst ds) st
      | none => .stuck) := h
    cases en : seqD d st with
    | none => rw [en] at h; exact h.elim
    | some ds =>
      rw [en] at h
      obtain ⟨a, vs, rfl, h1, r⟩ := hd.seq hs en
      exact call_list_of pins s σ H _ us Q I rs ⟨a, vs, rfl, by rw [hK]; exact h1, fin_alloc hs r h⟩
  case sorted =>
    have key : ∀ {ds : List D} {a : Addr} {vs : List V}, x = .ref a → SqL g.K H a vs → RepL g μ H ds vs → fin g μ H Q (match intsD ds, txts ds with
        | some ns, _ => alloc (.lst ((sortI ns).map .int)) st
        | none, some xs => need (decide (xs.length < 64)) (alloc (.lst ((sortT xs).map .str)) st)
        | none, none => .stuck) → wpAny (model X.prog X.w) X.A (call (bfId .sorted) us) (EP X pins σ Q) X.xe s := by
      intro ds a vs ex hl r h
      subst ex
      cases en : intsD ds with
      | some ns =>
        rw [en] at h
        have ed := ints_map en
        subst ed
        have ev := rep_ints r
        subst ev
        refine cr_sortedI pins s σ H _ us Q I rs ⟨a, ns, rfl, by rw [hK]; exact hl, fun ns' p h1 h2 hp => ?_⟩
        have e : ns' = sortI ns := sorted_unique tot_int (h1.trans (sortG_perm ns).symm) (h2.imp fun {a b} h => by simp; omega) (sortG_sorted tot_int ns)
        subst e
        exact fin_alloc hs (repL_ints _) h p hp
      | none =>
        cases em : txts ds with
        | none => rw [en, em] at h; exact h.elim
        | some xs =>
          rw [en, em] at h
          obtain ⟨c, h⟩ := fin_need h
          have ed := txts_map em
          subst ed
          have ev := rep_txts r
          subst ev
          have hz := txts_len r
          refine cr_sortedS pins s σ H _ us Q I rs ⟨a, xs.map stOf, rfl, by rw [hK]; exact hl, by rw [List.length_map]; exact of_decide_eq_true c, fun ys p h1 h2 hp => ?_⟩
          have e : ys.map TL.tl = sortT xs := by
            refine sorted_unique tot_txt (((h1.map TL.tl).trans ?_).trans (sortG_perm xs).symm) (sortedS_pair h2) (sortG_sorted tot_txt xs)
            have e2 : (xs.map stOf).map TL.tl = xs := by
              rw [List.map_map]
              conv => rhs; rw [← List.map_id xs]
              exact List.map_congr_left fun x _ => rfl
            rw [e2]
          have e3 : ys = (sortT xs).map stOf := by
            rw [← e, List.map_map]
            conv => lhs; rw [← List.map_id ys]
            exact List.map_congr_left fun x _ => (stOf_tl x).symm
          subst e3
          exact fin_alloc hs (repL_txts fun z hz' => hz z ((sortG_perm xs).mem_iff.mp hz')) h p hp
    have h : fin g μ H Q (match lstD d st with
      | some ds => (match intsD ds, txts ds with
        | some ns, _ => alloc (.lst ((sortI ns).map .int)) st
        | none, some xs => need (decide (xs.length < 64)) (alloc (.lst ((sortT xs).map .str)) st)
        | none, none => .stuck)
      | none => .stuck) := h
    cases en : lstD d st with
    | none => rw [en] at h; exact h.elim
    | some ds =>
      rw [en] at h
      obtain ⟨a, vs, e1, h1, r⟩ := hd.lst hs en
      exact key e1 h1 r h
  case abs =>
    cases d with
    | int i => cases hd; exact call_abs pins s σ H _ us Q I rs ⟨i, rfl, fin_same hs (.int _) h⟩
    | _ => exact (show False from h).elim
  case max => exact (show False from h).elim
  case min => exact (show False from h).elim
  case sum =>
    have h : fin g μ H Q (match (lstD d st).bind intsD with
      | some is => .ok (.int is.sum, st)
      | none => .stuck) := h
    cases en : (lstD d st).bind intsD with
    | none => rw [en] at h; exact h.elim
    | some ns =>
      rw [en] at h
      obtain ⟨ds, e1, e2⟩ := Option.bind_eq_some_iff.mp en
      obtain ⟨a, vs, rfl, h1, r⟩ := hd.lst hs e1
      have ed := ints_map e2
      subst ed
      have ev := rep_ints r
      subst ev
      exact cr_sum hc pins s σ H _ us Q I rs ⟨a, ns, rfl, by rw [hK]; exact h1, fin_same hs (.int _) h⟩
end

/-! ### methods of built-in types -/
def bmId : Bm → String
  | .append => "list.append"
  | .extend => "list.extend"
  | .join => "str.join"
  | .split => "str.split"
  | .startswith => "str.startswith"
  | .partition => "str.partition"
/-- by values: the receiver, one argument -/
def rVM (g : GK) (f : D → D → Store → Res (D × Store)) : V → List V → Hp → VK → Prop := fun x xs H Q => ∃ y d e st μ, xs = [y] ∧ RepSt g μ H st ∧ Rep g μ H d x ∧ Rep g μ H e y ∧ fin g μ H Q (f d e st)
/-- xs.extend(a tuple) -/
theorem extend_tupW (l : Addr) (items : Array Value) (n : Nat) (b : Addr) (more : Array Value) (n2 : Nat) (dd : Option Addr) (sl : Array (Option Value)) (c0 : ¬(!items.isEmpty && Builtin.List.listTooLong (items.size + more.size)) = true) (c1 : items.size ≤ sizeLine) (c2 : items.size + more.size ≤ sizeLine + 1) :
    Meets (Builtin.«list.extend» ⟨[.ref l, .ref b], []⟩) (fun _ R s => s.heap.get? l = some { cls := .type "list", dict := none, data := .seq items n, slots := #[] } ∧ s.heap.get? b = some { cls := .type "tuple", dict := dd, data := .seq more n2, slots := sl } ∧
      R (.ok (.ret Value.none)) { s with heap := s.heap.update l (Obj.mapSeq fun x => x ++ more), toks := s.toks }) :=
  .of_wp fun prog w A R s h => by
    obtain ⟨hp, g, d, tk, os⟩ := s
    obtain ⟨hl, hb, h⟩ := h
    have k1 := AutoSeq1.idx_int
    have k2 := AutoSeq1.sub_tuple_tuple
    have k3 := AutoSeq1.sub_list_list
    have k4 := AutoSeq1.sub_tuple_list
    have k5 := AutoSeq1.sub_list_tuple
    have hz : (items ++ more).size ≤ sizeLine + 1 := by rw [Array.size_append]; exact c2
    wp_walk using (PySem.wpAny_updateSeq hl rfl (hz := c1) (_hz' := hz)), AutoSeq1.wpAny_loadPart' hl, AutoSeq1.wpAny_loadPart' hb
    exact ⟨_, rfl, h⟩
theorem extend_tup {X : Cx} {pins : List (Addr × Obj)} {s : Shared} {σ : L2.St} {H : Hp} {l b : Addr} {xs zs : List V} {v u : Value} {Q : VK} (I : Inv X pins σ H s) (rx : RelV (.ref l) v) (ry : RelV (.ref b) u) (hH : H l = some (.lst xs)) (hB : SqT X.K H b zs) (hz : xs.length + zs.length ≤ sizeLine)
    (q : Q .non (upd H l (.lst (xs ++ zs)))) : wpAny (model X.prog X.w) X.A (call (.builtin "list.extend") [v, u]) (EP X pins σ Q) X.xe s := by
  cases rx
  cases ry
  obtain ⟨z, its, n, r, hl, e⟩ := I.lstM hH
  obtain ⟨its2, r2, ⟨⟨cls, dd, data, sl⟩, ho, hc, n2, hd⟩, _⟩ := I.tuple hB
  simp only at hc hd
  subst hc hd
  have hl2 := r2.length
  have hsz : its.toArray.size + its2.toArray.size ≤ sizeLine := by rw [List.size_toArray, List.size_toArray]; omega
  have hlong : ¬ (!its.toArray.isEmpty && Builtin.List.listTooLong (its.toArray.size + its2.toArray.size)) = true := by
    rw [notLongL hsz, Bool.and_false]
    exact Bool.false_ne_true
  refine call_meets F.slot_list_extend ⟨_, e, rfl⟩ F.entry_list_extend (F.args_list_extend_2 _ _)
    (extend_tupW l its.toArray n b its2.toArray n2 dd sl hlong (by rw [List.size_toArray]; omega) (by omega)) ⟨e, ho, ?_⟩
  refine ⟨.non, _, I.lset (its' := its ++ its2) hH e (by simp) (r.append r2) ?_, rfl, q⟩
  rw [List.length_append]
  omega
theorem joinL_eq (sep : List Nat) : ∀ ys : List (List Nat), joinL sep ys = TL.joinL sep ys
  | [] => rfl
  | [x] => rfl
  | x :: y :: r => by
    have ih := joinL_eq sep (y :: r)
    simp only [joinL, ih, List.append_assoc]
    rfl
theorem txt_join (a : List Nat) (ys : List (List Nat)) : Txt.join (stOf a) (ys.map stOf) = stOf (joinL a ys) := by
  rw [TL.join_eq]
  refine TL.ext_tl ?_
  rw [TL.tl_join, joinL_eq, List.map_map]
  have e : ys.map (TL.tl ∘ stOf) = ys := by
    conv => rhs; rw [← List.map_id ys]
    exact List.map_congr_left fun x _ => rfl
  rw [e]
  rfl
theorem txt_split (a b : List Nat) (hb : b ≠ []) (h8 : b.all (· < 256) = true) : Txt.split (stOf a) (stOf b) = (TL.spl b 0 [] a).map stOf := by
  have e := TL.split_spl (stOf a) (stOf b) hb (TL.kind_ok (by
    show (b.toArray).all (· < 256) = true
    simpa using h8))
  refine TL.map_tl_inj ?_
  rw [e, List.map_map]
  conv => lhs; rw [← List.map_id (TL.spl _ _ _ _)]
  exact List.map_congr_left fun x _ => rfl
theorem spl_len (S : List Nat) : ∀ (l acc : List Nat) (k : Nat), ∀ x ∈ TL.spl S k acc l, x.length ≤ acc.length + l.length
  | [], acc, k, x, hx => by
    rw [TL.spl_nil] at hx
    rw [List.mem_singleton.mp hx]
    simp
  | c :: r, acc, 0, x, hx => by
    by_cases h : TL.pre S (c :: r) = true
    · rw [TL.spl_hit h] at hx
      rcases List.mem_cons.mp hx with e | hx
      · rw [e]; omega
      · have := spl_len S r [] _ x hx
        simp at this ⊢; omega
    · rw [TL.spl_miss (by simpa using h)] at hx
      have := spl_len S r _ _ x hx
      simp at this ⊢; omega
  | c :: r, acc, k + 1, x, hx => by
    have e : TL.spl S (k + 1) acc (c :: r) = TL.spl S k acc r := by
      rw [TL.spl_pass S (k + 1), TL.spl_pass S k]
      simp
    rw [e] at hx
    have := spl_len S r acc k x hx
    simp at this ⊢; omega
theorem txt_starts (a b : List Nat) (hb : b ≠ []) : Txt.startswith (stOf a) (stOf b) = TL.pre b a := by
  have h := TL.at_iff (x := stOf a) (y := stOf b) hb 0
  unfold Txt.startswith
  rw [Bool.eq_iff_iff, Bool.and_eq_true, decide_eq_true_eq]
  exact h
theorem sum_len (ys : List (List Nat)) : ((ys.map stOf).map (·.length)).sum = (ys.map (·.length)).sum := by
  rw [List.map_map]
  congr 1
theorem joinL_len (a : List Nat) : ∀ ys : List (List Nat), (joinL a ys).length ≤ (ys.map (·.length)).sum + ys.length * a.length
  | [] => Nat.zero_le _
  | [x] => by simp [joinL]
  | x :: y :: r => by
    have ih := joinL_len a (y :: r)
    simp only [joinL, List.length_append, List.map_cons, List.sum_cons, List.length_cons, Nat.add_mul, Nat.one_mul] at ih ⊢
    omega
theorem bm_ok {g : GK} {X : Cx} (hK : X.K = g.K) (b : Bm) : MtR X (bmId b) (rVM g (bmD b)) := by
  intro pins s σ H x xs v us Q I rx rs h
  obtain ⟨y, d, e, st, μ, rfl, hs, hd, he, h⟩ := h
  cases b
  case append =>
    cases d with
    | ref n =>
      have h : fin g μ H Q (match st[n]? with
        | some (.lst ds) => need (decide (ds.length < LN)) (.ok (.non, st.set n (.lst (ds ++ [e]))))
        | _ => .stuck) := h
      cases en : st[n]? with
      | none => rw [en] at h; exact h.elim
      | some c =>
        rw [en] at h
        cases c with
        | lst ds =>
          obtain ⟨c1, h⟩ := fin_need h
          obtain ⟨a, vs, rfl, e1, _, h1, r⟩ := hd.cell hs (listAt_some en)
          exact mt_append pins s σ H _ _ v us Q I rx rs ⟨a, vs, y, rfl, rfl, h1, by rw [r.length, ln_eq]; exact of_decide_eq_true c1, h μ _ _ (.write e1) (hs.write e1 (r.snoc he)) .non⟩
    | _ => exact (show False from h).elim
  case extend =>
    cases d with
    | ref n =>
      have h : fin g μ H Q (match st[n]?, extD e st with
        | some (.lst ds), some es => need (decide (ds.length + es.length ≤ LN)) (.ok (.non, st.set n (.lst (ds ++ es))))
        | _, _ => .stuck) := h
      cases en : st[n]? with
      | none => rw [en] at h; exact h.elim
      | some c =>
        cases em : extD e st with
        | none =>
          rw [en, em] at h
          cases c with
          | lst ds => exact h.elim
        | some es =>
          rw [en, em] at h
          cases c with
          | lst ds =>
            obtain ⟨c1, h⟩ := fin_need h
            obtain ⟨a, vs, rfl, e1, _, h1, r⟩ := hd.cell hs (listAt_some en)
            obtain ⟨u, rfl, ru⟩ := rs.one
            have q : ∀ {ws : List V}, RepL g μ H es ws → Q .non (upd H a (.lst (vs ++ ws))) := fun rw' => h μ _ _ (.write e1) (hs.write e1 (r.append rw')) .non
            have hz : ∀ {ws : List V}, RepL g μ H es ws → vs.length + ws.length ≤ sizeLine := fun rw' => by rw [r.length, rw'.length, ln_eq]; exact of_decide_eq_true c1
            cases e with
            | tup ts =>
              cases em
              obtain ⟨b, ws, rfl, h2, r2⟩ := he.tupL
              exact extend_tup I rx ru h1 (by rw [hK]; exact h2) (hz r2) (q r2)
            | ref m =>
              obtain ⟨b, ws, rfl, _, _, h2, r2⟩ := he.cell hs em
              exact mt_extend pins s σ H _ _ v _ Q I rx (.cons ru .nil) ⟨a, b, vs, ws, rfl, rfl, h1, h2, hz r2, q r2⟩
            | _ => cases em
    | _ => exact (show False from h).elim
  case join =>
    cases d with
    | str a =>
      cases hd
      have h : fin g μ H Q (match (seqD e st).bind txts with
        | some ys => need (decide ((ys.map (·.length)).sum + ys.length * a.length ≤ LN)) (.ok (.str (joinL a ys), st))
        | none => .stuck) := h
      cases en : (seqD e st).bind txts with
      | none => rw [en] at h; exact h.elim
      | some ys =>
        rw [en] at h
        obtain ⟨ds, e1, e2⟩ := Option.bind_eq_some_iff.mp en
        obtain ⟨c1, h⟩ := fin_need h
        have c1 := of_decide_eq_true c1
        obtain ⟨p, vs, rfl, h1, r⟩ := he.seq hs e1
        have ed := txts_map e2
        subst ed
        have ev := rep_txts r
        subst ev
        refine mt_join pins s σ H _ _ v us Q I rx rs ⟨stOf a, p, ys.map stOf, rfl, rfl, by rw [hK]; exact h1, ?_, ?_⟩
        · rw [sum_len, List.length_map]
          show _ + _ * (stOf a).length ≤ _
          rw [show (stOf a).length = a.length from str_len a]
          exact c1
        · rw [txt_join]
          exact fin_same hs (.str _ (Nat.le_trans (joinL_len a ys) c1)) h
    | _ => exact (show False from h).elim
  case split =>
    cases d with
    | str a =>
      cases hd with
      | str _ hz =>
      cases e with
      | str b =>
        cases he
        cases b with
        | nil => exact (show False from h).elim
        | cons c S =>
          obtain ⟨c1, h⟩ := fin_need h
          obtain ⟨c1, c2⟩ := Bool.and_eq_true_iff.mp c1
          have c1 := of_decide_eq_true c1
          have c2 := of_decide_eq_true c2
          have hc : (c :: S) ≠ [] := by simp
          have e3 : TL.spl (c :: S) 0 [] a = TL.spl (c :: S) 0 [] a := rfl
          refine mt_split pins s σ H _ _ v us Q I rx rs ⟨stOf a, stOf (c :: S), rfl, rfl, ?_, ?_, ?_⟩
          · rw [show (stOf (c :: S)).length = (c :: S).length from str_len _]; rfl
          · rw [show (stOf a).length = a.length from str_len _, ln_eq]; exact c1
          · rw [txt_split a _ hc c2]
            exact fin_alloc hs (repL_txts fun x hx => Nat.le_trans (spl_len _ a [] 0 x hx) (by simpa using hz)) h
      | _ => exact (show False from h).elim
    | _ => exact (show False from h).elim
  case startswith =>
    cases d with
    | str a =>
      cases hd
      cases e with
      | str b =>
        cases he
        obtain ⟨c1, h⟩ := fin_need h
        refine mt_startswith pins s σ H _ _ v us Q I rx rs ⟨stOf a, stOf b, rfl, rfl, ?_⟩
        rw [txt_starts a b (of_decide_eq_true c1)]
        exact fin_same hs (.bl _) h
      | _ => exact (show False from h).elim
    | _ => exact (show False from h).elim
  case partition => exact (show False from (by cases d <;> exact h)).elim

/-! ### isinstance, the parts of an f-string -/
def tyOk : List String := ["int", "bool", "str", "tuple", "list", "dict"]
theorem kit_is (t c : String) (ht : t = "NoneType" ∨ t = "bool" ∨ t = "int" ∨ t = "str" ∨ t = "tuple" ∨ t = "list") (hc : c ∈ tyOk) : kitB t c = some (isTy t c) := by
  have hc' : c = "int" ∨ c = "bool" ∨ c = "str" ∨ c = "tuple" ∨ c = "list" ∨ c = "dict" := by simpa [tyOk] using hc
  rcases ht with rfl | rfl | rfl | rfl | rfl | rfl <;> rcases hc' with rfl | rfl | rfl | rfl | rfl | rfl <;> decide +kernel
section
variable {g : GK} {μ : List Addr} {H : Hp} {st : Store}
theorem type_of {d : D} {x : V} {t : String} (hs : RepSt g μ H st) (hd : Rep g μ H d x) (e : typeD d st = some t) : TyX g.K H x (.type t) ∧ (t = "NoneType" ∨ t = "bool" ∨ t = "int" ∨ t = "str" ∨ t = "tuple" ∨ t = "list") := by
  cases d with
  | non => cases hd; cases e; exact ⟨.base .non, by simp⟩
  | bl k => cases hd; cases e; exact ⟨.base (.bl k), by simp⟩
  | int i => cases hd; cases e; exact ⟨.base (.int i), by simp⟩
  | str y => cases hd; cases e; exact ⟨.base (.str _), by simp⟩
  | tup ds =>
    obtain ⟨a, vs, rfl, h1, r⟩ := hd.tupL
    cases e
    refine ⟨?_, by simp⟩
    rcases h1 with (h1 | ⟨o, h1⟩) | ⟨o, its, n, h1, h2, _⟩
    · exact .base (.tup h1)
    · exact .fTuple h1
    · exact .kTuple h1 h2
  | frz ds =>
    obtain ⟨a, vs, rfl, h1, r, h2⟩ := hd.frzL
    cases e
    exact ⟨h2, by simp⟩
  | ref n =>
    obtain ⟨ds, el, rfl⟩ := Option.map_eq_some_iff.mp e
    obtain ⟨a, vs, rfl, _, _, h1, r⟩ := hd.cell hs el
    exact ⟨.base (.lst h1), by simp⟩
  | fn k => cases e
end
theorem kit_any {K : PySem.W.Frag} {t : String} (ht : t = "NoneType" ∨ t = "bool" ∨ t = "int" ∨ t = "str" ∨ t = "tuple" ∨ t = "list") : ∀ {ts : List String}, (∀ c ∈ ts, c ∈ tyOk) → PySem.W.kitAny K (.type t) (ts.map Value.type) = some (ts.any (isTy t))
  | [], _ => rfl
  | c :: ts, h => by
    have h1 := kit_is t c ht (h c List.mem_cons_self)
    have ih := kit_any (K := K) ht (ts := ts) fun c hc => h c (List.mem_cons_of_mem _ hc)
    refine kitAny_cons (b := isTy t c) (kit_ty h1) (fun e => ?_) (fun e => ?_)
    · rw [ih]
      simp [e]
    · simp [e]
theorem fmt_len {i : Int} (c : i.natAbs.log2 < 1920) : (numT i).length ≤ LN := by
  have := int_text_fits c
  have e2 : (numT i).length = (Str.ofString (toString i)).length := by rw [TL.len_tl] <;> rfl
  rw [e2, ← ln_eq]
  exact this
end Pw
end
section
set_option Elab.async false
set_option linter.all false
set_option maxRecDepth 100000
/-! PwE: the checker: is this form that of this piece of text (part 5 of the layer); the readings. -/
namespace Pw
open PySem PySem.Spec PyProof.Rows L2

/-! ### what is known where a piece of text stands -/
/-- N: the def's names by slot; sc: the scope that runs; own: the names that may be stored here; nm: the defs' names; gl: the module's constants; fr: the built-in names that stand -/
structure SC where
  N : List Str
  sc : Scope
  own : List Str
  nm : List Str
  gl : List (Str × D)
  fr : List Str
def visB (sc : Scope) (x : Str) : Bool := match sc.names.lookup x with
  | some .local => true
  | some .cell => true
  | some .free => true
  | _ => false
def locB (sc : Scope) (x : Str) : Bool := match sc.names.lookup x with
  | some .local => true
  | some .cell => true
  | _ => false
def glB (sc : Scope) (x : Str) : Bool := match sc.names.lookup x with
  | some .globalImplicit => true
  | _ => false
def nmB (x : Str) : Bool := !decide (x = ("__debug__" : Str)) && !decide (x = ("__classdict__" : Str)) && !decide (x = ("__name__" : Str))
/-- a built-in name, called -/
def SC.isB (c : SC) (x b : Str) : Bool := decide (x = b) && (glB c.sc x && (decide (x ∈ c.fr) && nmB x))
/-- a slot that may be stored -/
def SC.slot (c : SC) (i : Nat) (x : Str) : Bool := decide (c.N[i]? = some x) && (locB c.sc x && decide (x ∈ c.own))
def bfNm : Bf → Str
  | .len => "len"
  | .int => "int"
  | .str => "str"
  | .all => "all"
  | .any => "any"
  | .tuple => "tuple"
  | .list => "list"
  | .sorted => "sorted"
  | .abs => "abs"
  | .max => "max"
  | .min => "min"
  | .sum => "sum"
def bmNm : Bm → Str
  | .append => "append"
  | .extend => "extend"
  | .join => "join"
  | .split => "split"
  | .startswith => "startswith"
  | .partition => "partition"
def plainBase : Expr → Bool
  | .Call (.Name _ _) [] [] _ => false
  | _ => true
def notStar : Expr → Bool
  | .Starred _ _ => false
  | _ => true
def notSlice : Expr → Bool
  | .Slice _ _ _ _ => false
  | _ => true
def notSet : Expr → Bool
  | .Set _ _ _ => false
  | _ => true
/-- a test by its value -/
def plainT : Expr → Bool
  | .UnaryOp .Not _ _ => false
  | .BoolOp _ _ _ => false
  | .IfExp _ _ _ _ => false
  | .Compare _ _ _ _ => false
  | _ => true
def isComp : Expr → Bool
  | .ListComp _ _ _ _ => true
  | .SetComp _ _ _ _ => true
  | .DictComp _ _ _ _ _ => true
  | _ => false
def ownOf (N : List Str) (vs : List Nat) : List (Str × Nat) := vs.map fun i => (N.getD i Str.empty, i)
def gIn (vs : List Nat) : IG → Bool
  | .name i => decide (i ∈ vs)
  | .tup is => is.all fun i => decide (i ∈ vs)
/-- within a comprehension's block -/
def SC.blk (c : SC) (scope : Scope) : SC := { c with sc := relS scope c.sc, own := scope.names.filterMap fun y => match y.2 with
  | .local => some y.1
  | .cell => some y.1
  | _ => none }
def tyNm (n : String) : Str := Str.ofString n
def ckTys (c : SC) (ts : List String) : List Expr → Bool
  | [] => ts.isEmpty
  | .Name x _ :: r => (match ts with
    | t :: ts => decide (t ∈ tyOk) && (c.isB x (tyNm t) && ckTys c ts r)
    | [] => false)
  | _ :: _ => false
def ckIs (c : SC) (is : List Nat) : List Expr → Bool
  | [] => is.isEmpty
  | .Name x _ :: r => (match is with
    | i :: is => c.slot i x && ckIs c is r
    | [] => false)
  | _ :: _ => false
def ckG (c : SC) : IG → Expr → Bool
  | .name i, .Name x _ => c.slot i x
  | .tup is, .Tuple es _ _ => ckIs c is es
  | _, _ => false
def ckD : D → Const → Bool
  | .non, .none => true
  | .bl b, .bool b' => b == b'
  | .int i, .int j => decide (i = j)
  | .str x, .str y => decide (TL.tl y = x) && decide (x.length ≤ LN)
  | _, _ => false
mutual
def ckE (c : SC) : IE → Expr → Bool
  | .var i, e => (match e with
    | .Name x _ => decide (c.N[i]? = some x) && (visB c.sc x && nmB x)
    | _ => false)
  | .cst d, e => (match e with
    | .Constant k _ _ => ckD d k
    | _ => false)
  | .glo y d, e => (match e with
    | .Name x _ => decide (x = y) && (glB c.sc x && (decide (c.gl.lookup x = some d) && nmB x))
    | _ => false)
  | .op o a b, e => (match e with
    | .BinOp l p r _ => decide (p = opPy o) && (ckE c a l && ckE c b r)
    | _ => false)
  | .neg a, e => (match e with
    | .UnaryOp .USub x _ => ckE c a x
    | _ => false)
  | .cmp o a b, e => (match e with
    | .Compare l [p] [r] _ => decide (p = cmPy o) && (!behindInMarks p r && (ckE c a l && ckE c b r))
    | _ => false)
  | .chain o1 o2 a b d, e => (match e with
    | .Compare l [p, q] [r, t] _ => decide (p = cmPy o1) && (decide (q = cmPy o2) && (!lastMarks [p, q] [r, t] && (ckE c a l && (ckE c b r && ckE c d t))))
    | _ => false)
  | .and a r, e => (match e with
    | .BoolOp .And [x, y] _ => ckE c a x && ckE c r y
    | .BoolOp .And (x :: y :: z :: w) p => ckE c a x && ckE c r (.BoolOp .And (y :: z :: w) p)
    | _ => false)
  | .or a r, e => (match e with
    | .BoolOp .Or [x, y] _ => ckE c a x && ckE c r y
    | .BoolOp .Or (x :: y :: z :: w) p => ckE c a x && ckE c r (.BoolOp .Or (y :: z :: w) p)
    | _ => false)
  | .not a, e => (match e with
    | .UnaryOp .Not x _ => ckE c a x
    | _ => false)
  | .ite t a b, e => (match e with
    | .IfExp x y z _ => ckT c t x && (ckE c a y && ckE c b z)
    | _ => false)
  | .tup es, e => (match e with
    | .Tuple l _ _ => ckEs c es l
    | _ => false)
  | .lst es, e => (match e with
    | .List l _ => ckEs c es l
    | _ => false)
  | .sub a i, e => (match e with
    | .Subscript x y _ => notSlice y && (ckE c a x && ckE c i y)
    | _ => false)
  | .cut a lo hi, e => (match e with
    | .Subscript x (.Slice l h none _) _ => ckE c a x && (ckO c lo l && ckO c hi h)
    | _ => false)
  | .call f es, e => (match e with
    | .Call (.Name x _) (y :: ys) [] _ => decide (c.nm[f]? = some x) && (glB c.sc x && (nmB x && ckEs c es (y :: ys)))
    | _ => false)
  | .bf b a, e => (match e with
    | .Call (.Name x _) [y] [] _ => c.isB x (bfNm b) && ckE c a y
    | _ => false)
  | .bm b o a, e => (match e with
    | .Call (.Attribute x m p) [y] [] q => decide (m = bmNm b) && (plainBase x && ((p.endLine == q.line) && (ckE c o x && ckE c a y)))
    | _ => false)
  | .isi a ts, e => (match e with
    | .Call (.Name x _) [y, .Name t p] [] _ => c.isB x "isinstance" && (ckTys c ts [.Name t p] && ckE c a y)
    | .Call (.Name x _) [y, .Tuple l _ _] [] _ => c.isB x "isinstance" && (!decide (l.length = 0) && (decide (l.length ≤ 60) && (ckTys c ts l && ckE c a y)))
    | _ => false)
  | .lc vs g it cond elt, e => (match e with
    | .ListComp x [⟨tg, iter, ifs, 0⟩] scope _ => (blkC c.N c.sc scope (ownOf c.N vs) && (notSet iter && gIn vs g)) && (ckI c it iter && (ckG (c.blk scope) g tg && (ckC (c.blk scope) cond ifs && ckE (c.blk scope) elt x)))
    | _ => false)
  | .fst es, e => (match e with
    | .JoinedStr (x :: y :: r) _ => ckEs c es (x :: y :: r)
    | _ => false)
  | .fmt a, e => (match e with
    | .FormattedValue x k none _ => decide (k = -1) && ckE c a x
    | _ => false)
  | _, _ => false
def ckEs (c : SC) : IE → List Expr → Bool
  | .nil, l => (match l with
    | [] => true
    | _ => false)
  | .cons a r, l => (match l with
    | x :: xs => notStar x && (ckE c a x && ckEs c r xs)
    | _ => false)
  | _, _ => false
def ckO (c : SC) : IE → Option Expr → Bool
  | .nil, o => (match o with
    | none => true
    | _ => false)
  | .cons a .nil, o => (match o with
    | some x => ckE c a x
    | _ => false)
  | _, _ => false
def ckT (c : SC) : IE → Expr → Bool
  | .and a r, e => (match e with
    | .BoolOp .And [x, y] _ => ckT c a x && ckT c r y
    | .BoolOp .And (x :: y :: z :: w) p => ckT c a x && ckT c r (.BoolOp .And (y :: z :: w) p)
    | _ => false)
  | .or a r, e => (match e with
    | .BoolOp .Or [x, y] _ => ckT c a x && ckT c r y
    | .BoolOp .Or (x :: y :: z :: w) p => ckT c a x && ckT c r (.BoolOp .Or (y :: z :: w) p)
    | _ => false)
  | .not a, e => (match e with
    | .UnaryOp .Not x _ => ckT c a x
    | _ => false)
  | .cmp o a b, e => (match e with
    | .Compare l [p] [r] _ => decide (p = cmPy o) && (!behindInMarks p r && (ckE c a l && ckE c b r))
    | _ => false)
  | .chain o1 o2 a b d, e => (match e with
    | .Compare l [p, q] [r, t] _ => decide (p = cmPy o1) && (decide (q = cmPy o2) && (!lastMarks [p, q] [r, t] && (ckE c a l && (ckE c b r && ckE c d t))))
    | _ => false)
  | .tru a, e => ckE c a e && plainT e
  | _, _ => false
def ckC (c : SC) : IE → List Expr → Bool
  | .nil, l => (match l with
    | [] => true
    | _ => false)
  | .cons a .nil, l => (match l with
    | [x] => ckT c a x
    | _ => false)
  | _, _ => false
def ckI (c : SC) : IE → Expr → Bool
  | .rng a b, e => (match e with
    | .Call (.Name x _) [y] [] _ => a.isNil && (c.isB x "range" && ckE c b y)
    | .Call (.Name x _) [y, z] [] _ => !a.isNil && (c.isB x "range" && (ckE c a y && ckE c b z))
    | _ => false)
  | .wlk a, e => ckE c a e
  | _, _ => false
end
/-! ### statements -/
def notTup : Expr → Bool
  | .Tuple _ _ _ => false
  | _ => true
def isStr : Expr → Bool
  | .Constant (.str _) _ _ => true
  | _ => false
/-- a comprehension stored under a name: which road the store goes -/
def swOk (c : SC) (y : Str) (py : Pos) : Expr → Bool
  | .ListComp _ _ scope pos => (match c.sc.names.lookup y with
    | some .cell => true
    | some .local => py.line == pos.line && !(scope.names.any fun (n, k) => n == y && (k == .local || k == .cell))
    | _ => false)
  | e => !isComp e
mutual
def ckS (c : SC) : IS → Stmt → Bool
  | .set (.name i) e, s => (match s with
    | .Assign [.Name y py] v _ => c.slot i y && (ckE c e v && swOk c y py v)
    | _ => false)
  | .set (.tup is) e, s => (match s with
    | .Assign [.Tuple es n p] v _ => ckIs c is es && (ckE c e v && (notTup v && !isComp v))
    | _ => false)
  | .setSub o i e, s => (match s with
    | .Assign [.Subscript a b _] v _ => notSlice b && (ckE c o a && (ckE c i b && ckE c e v))
    | _ => false)
  | .aug i o e, s => (match s with
    | .AugAssign (.Name y _) op v _ => decide (op = opPy o) && (c.slot i y && ckE c e v)
    | _ => false)
  | .augSub o i p e, s => (match s with
    | .AugAssign (.Subscript a b _) op v _ => decide (op = opPy p) && (notSlice b && (ckE c o a && (ckE c i b && ckE c e v)))
    | _ => false)
  | .expr e, s => (match s with
    | .Expr v _ => ckE c e v && !isComp v
    | _ => false)
  | .doc, s => (match s with
    | .Expr v _ => isStr v
    | _ => false)
  | .ret e, s => (match s with
    | .Return (some v) _ => ckE c e v
    | _ => false)
  | .retN, s => (match s with
    | .Return none _ => true
    | _ => false)
  | .ifs t a b, s => (match s with
    | .If x l m _ => ckT c t x && (ckB c a l && ckB c b m)
    | _ => false)
  | .fors g it b, s => (match s with
    | .For tg iter body [] _ => notSet iter && (ckI c it iter && (ckG c g tg && ckB c b body))
    | _ => false)
  | .whiles t b, s => (match s with
    | .While x body [] _ => ckT c t x && ckB c b body
    | _ => false)
  | .brk, s => (match s with
    | .Break _ => true
    | _ => false)
  | .cont, s => (match s with
    | .Continue _ => true
    | _ => false)
  | .pass, s => (match s with
    | .Pass _ => true
    | _ => false)
  | .raise _ _, _ => true
  | .nil, _ => false
  | .seq _ _, _ => false
def ckB (c : SC) : IS → List Stmt → Bool
  | .nil, l => (match l with
    | [] => true
    | _ => false)
  | .seq s r, l => (match l with
    | x :: xs => ckS c s x && ckB c r xs
    | _ => false)
  | _, _ => false
end
end Pw
end
section
set_option Elab.async false
set_option linter.all false
set_option maxRecDepth 100000
/-! PwF: readings; what is plain of the text's own words (part 6 of the layer). -/
namespace Pw
open PySem PySem.Spec PyProof.Rows L2

/-! ### readings -/
/-- an exception stands for x: its class, its own dict's address -/
def ExRep (g : GK) (μ : List Addr) (H : Hp) (x : Exc) (cls : Value) (d : Option Addr) : Prop :=
  ∃ C, g.mg x.cls = some (.ref C) ∧ cls = .ref C ∧ ∀ nm v, x.arg = some (nm, v) → ∃ a u, d = some a ∧ H a = some (.xd [(nm, u)]) ∧ Rep g μ H v u
/-- what is wanted behind a value's making; W: of an exception, by the slots -/
def rdg (g : GK) (W : WX) {α : Type} (μ : List Addr) (H : Hp) (r : Res (α × Store)) (P : α × Store → List Addr → Hp → Prop) : Prop := match r with
  | .ok p => ∀ μ' H', Stp μ H μ' H' → RepSt g μ' H' p.2 → P p μ' H'
  | .exn x ρ st => ∀ μ' H' σ, Stp μ H μ' H' → RepSt g μ' H' st → RepR g μ' H' ρ σ → ∀ cls d, ExRep g μ' H' x cls d → W cls d σ H'
  | .stuck => False
section
variable {g : GK} {W : WX} {μ μ' : List Addr} {H H' : Hp} {α β : Type}
theorem rdg_step {r : Res (α × Store)} {P : α × Store → List Addr → Hp → Prop} (s : Stp μ H μ' H') (h : rdg g W μ H r P) : rdg g W μ' H' r P := by
  cases r with
  | ok p => exact fun μ2 H2 s2 hs => h μ2 H2 (s.trans s2) hs
  | exn x ρ st => exact fun μ2 H2 σ s2 hs hr => h μ2 H2 σ (s.trans s2) hs hr
  | stuck => exact h
theorem rdg_mono {r : Res (α × Store)} {P P' : α × Store → List Addr → Hp → Prop} (h : rdg g W μ H r P) (k : ∀ p μ' H', Stp μ H μ' H' → RepSt g μ' H' p.2 → P p μ' H' → P' p μ' H') : rdg g W μ H r P' := by
  cases r with
  | ok p => exact fun μ2 H2 s2 hs => k p μ2 H2 s2 hs (h μ2 H2 s2 hs)
  | exn x ρ st => exact h
  | stuck => exact h
theorem rdg_bind {r : Res (α × Store)} {f : α × Store → Res (β × Store)} {P : β × Store → List Addr → Hp → Prop} (h : rdg g W μ H (r.bind f) P) : rdg g W μ H r (fun p μ' H' => rdg g W μ' H' (f p) P) := by
  cases r with
  | ok p => exact fun μ2 H2 s2 _ => rdg_step s2 (show rdg g W μ H (f p) P from h)
  | exn x ρ st => exact h
  | stuck => exact h
/-- bind, then on -/
theorem rdg_and {r : Res (α × Store)} {f : α × Store → Res (β × Store)} {P : β × Store → List Addr → Hp → Prop} {P' : α × Store → List Addr → Hp → Prop} (h : rdg g W μ H (r.bind f) P)
    (k : ∀ p μ' H', Stp μ H μ' H' → RepSt g μ' H' p.2 → rdg g W μ' H' (f p) P → P' p μ' H') : rdg g W μ H r P' := rdg_mono (rdg_bind h) k
theorem rdg_ok {a : α} {st : Store} {P : α × Store → List Addr → Hp → Prop} (hs : RepSt g μ H st) (h : rdg g W μ H (.ok (a, st)) P) : P (a, st) μ H := h μ H .refl hs
theorem rdg_need {c : Bool} {r : Res (α × Store)} {P : α × Store → List Addr → Hp → Prop} (h : rdg g W μ H (need c r) P) : c = true ∧ rdg g W μ H r P := by
  unfold need at h
  by_cases e : c = true
  · rw [if_pos e] at h; exact ⟨e, h⟩
  · rw [if_neg e] at h; exact h.elim
/-- nothing is raised within: any wish will do -/
theorem rdg_noX {W' : WX} {r : Res (α × Store)} {P : α × Store → List Addr → Hp → Prop} (h : rdg g W μ H (noX r) P) : rdg g W' μ H r P := by
  cases r with
  | ok p => exact h
  | exn x ρ st => exact h.elim
  | stuck => exact h
end
/-- a value -/
abbrev VP (g : GK) (Q : VK) : D × Store → List Addr → Hp → Prop := fun p μ H => ∀ v, Rep g μ H p.1 v → Q v H
section
variable {g : GK} {W : WX} {μ : List Addr} {H : Hp} {Q : VK}
theorem rdg_gc {st : Store} {r : Res (D × Store)} (hs : RepSt g μ H st) (h : rdg g W μ H (gcR st r) (VP g Q)) : rdg g W μ H r (VP g Q) := by
  cases r with
  | ok p =>
    intro μ' H' s hs' v rv
    obtain ⟨μ2, k1, k2, k3⟩ := gc_ok hs hs' s rv
    exact (show rdg g W μ H (.ok (gc st p.1 p.2)) (VP g Q) from h) μ2 H' k2 k1 v k3
  | exn x ρ st => exact h
  | stuck => exact h
/-- the operators raise nothing -/
def NX (r : Res (D × Store)) : Prop := ∀ x ρ st, r ≠ .exn x ρ st
theorem fin_of {r : Res (D × Store)} (n : NX r) (h : rdg g W μ H r (VP g Q)) : fin g μ H Q r := by
  cases r with
  | ok p => exact fun μ2 H2 v s2 hs rv => h μ2 H2 s2 hs v rv
  | exn x ρ st => exact absurd rfl (n x ρ st)
  | stuck => exact h
end
theorem nx_ok (p : D × Store) : NX (.ok p) := fun _ _ _ e => by cases e
theorem nx_stuck : NX .stuck := fun _ _ _ e => by cases e
theorem nx_need {c : Bool} {r : Res (D × Store)} (h : NX r) : NX (need c r) := by
  unfold need
  split
  · exact h
  · exact nx_stuck
theorem nx_alloc (c : Cell) (st : Store) : NX (alloc c st) := nx_ok _
theorem nx_okD (o : Option D) (st : Store) : NX (okD o st) := by cases o <;> first | exact nx_ok _ | exact nx_stuck
theorem nx_okB (o : Option Bool) (f : Bool → Bool) (st : Store) : NX (okB o f st) := by cases o <;> first | exact nx_ok _ | exact nx_stuck
local macro_rules
  | `(tactic| trivial) => `(tactic| first | exact nx_ok _ | exact nx_stuck | exact nx_okD _ _ | exact nx_okB _ _ _ | exact nx_alloc _ _ | exact nx_need (nx_ok _) | exact nx_need (nx_alloc _ _) | exact nx_need (nx_need (nx_ok _)) | exact nx_need (nx_need (nx_alloc _ _)))
theorem nx_op2 (o : O2) (x y : D) (st : Store) : NX (op2 o x y st) := by
  unfold op2 mkStr mkTup mkLst
  repeat' split
  all_goals trivial
theorem nx_cmp2 (o : Cm) (x y : D) (st : Store) : NX (cmp2 o x y st) := by
  unfold cmp2
  split <;> trivial
theorem nx_subD (x y : D) (st : Store) : NX (subD x y st) := by
  unfold subD
  repeat' split
  all_goals trivial
theorem nx_cutD (x : D) (l h : Option Int) (st : Store) : NX (cutD x l h st) := by
  unfold cutD
  repeat' split
  all_goals trivial
theorem nx_bfD (b : Bf) (x : D) (st : Store) : NX (bfD b x st) := by
  unfold bfD
  repeat' split
  all_goals trivial
theorem nx_bmD (b : Bm) (o x : D) (st : Store) : NX (bmD b o x st) := by
  unfold bmD
  repeat' split
  all_goals trivial
theorem nx_fmtD (x : D) (st : Store) : NX (fmtD x st) := by
  unfold fmtD
  repeat' split
  all_goals trivial
section
variable (g : GK) (W : WX)
def tE (f : Rho → Store → Res (D × Store)) : TE := fun σ H Q => ∃ ρ st μ, RepSt g μ H st ∧ RepR g μ H ρ σ ∧ rdg g W μ H (f ρ st) (VP g Q)
def tT (f : Rho → Store → Res (Bool × Store)) : TT := fun σ H Q => ∃ ρ st μ, RepSt g μ H st ∧ RepR g μ H ρ σ ∧ rdg g W μ H (f ρ st) (fun p _ H' => Q p.1 H')
def tA (f : Rho → Store → Res (List D × Store)) : TA := fun σ H Q => ∃ ρ st μ, RepSt g μ H st ∧ RepR g μ H ρ σ ∧ rdg g W μ H (f ρ st) (fun p μ' H' => ∀ vs, RepL g μ' H' p.1 vs → Q vs H')
def tO (f : Rho → Store → Res (Option Int × Store)) : TO := fun σ H Q => ∃ ρ st μ, RepSt g μ H st ∧ RepR g μ H ρ σ ∧ rdg g W μ H (f ρ st) (fun p _ H' => Q p.1 H')
end
theorem pe_imp {X : Cx} {e : Expr} {t t' : TE} (h : PE X e t') (k : ∀ σ H Q, t σ H Q → t' σ H Q) : PE X e t := ⟨fun pins s σ H Q I q => h.run pins s σ H Q I (k σ H Q q)⟩
theorem pt_imp {X : Cx} {e : Expr} {t t' : TT} (h : PT X e t') (k : ∀ σ H Q, t σ H Q → t' σ H Q) : PT X e t := ⟨fun pins s σ H Q I q => h.run pins s σ H Q I (k σ H Q q)⟩
theorem pw_imp {X : Cx} {e : Expr} {t t' : TT} (h : PW X e t') (k : ∀ σ H Q, t σ H Q → t' σ H Q) : PW X e t := ⟨fun w pins s σ H Q I q => h.run w pins s σ H Q I (k σ H Q q)⟩
theorem pa_imp {X : Cx} {e : List Expr} {t t' : TA} (h : PA X e t') (k : ∀ σ H Q, t σ H Q → t' σ H Q) : PA X e t := ⟨fun w pins s σ H Q I q => h.run w pins s σ H Q I (k σ H Q q)⟩
theorem po_imp {X : Cx} {e : Option Expr} {t t' : TO} (h : PO X e t') (k : ∀ σ H Q, t σ H Q → t' σ H Q) : PO X e t := ⟨fun pins s σ H Q I q => h.run pins s σ H Q I (k σ H Q q)⟩
theorem pi_imp {X : Cx} {tg e : Expr} {t t' : TI} (h : PI X tg e t') (k : ∀ σ H Q, t σ H Q → t' σ H Q) : PI X tg e t := ⟨fun pins s σ H Q I q => h.run pins s σ H Q I (k σ H Q q)⟩
theorem ps_imp {X : Cx} {e : Stmt} {t t' : TS} (h : PS X e t') (k : ∀ D σ H, t D σ H → t' D σ H) : PS X e t := ⟨fun pins s σ H D I q => h.run pins s σ H D I (k D σ H q)⟩
theorem pss_imp {X : Cx} {e : List Stmt} {t t' : TS} (h : PSs X e t') (k : ∀ D σ H, t D σ H → t' D σ H) : PSs X e t := ⟨fun pins s σ H D I q => h.run pins s σ H D I (k D σ H q)⟩
theorem pts_imp {X : Cx} {e : List Expr} {t t' : TT} (h : PTs X e t') (k : ∀ σ H Q, t σ H Q → t' σ H Q) : PTs X e t := ⟨fun pins s σ H Q I q => h.run pins s σ H Q I (k σ H Q q)⟩

/-! ### the text's own words -/
theorem star_cons {e : Expr} {es : List Expr} {env : Env} (h : notStar e = true) : starEach (e :: es) env = (false, eval e env) :: starEach es env := by
  cases e <;> first | rfl | (exact Bool.noConfusion h)
theorem plain_all {env : Env} {pos : Pos} : ∀ {es : List Expr}, (∀ e ∈ es, notStar e = true) → (backTo pos (starEach es env)).any (·.1) = false
  | [], _ => rfl
  | e :: es, h => by
    rw [star_cons (h e List.mem_cons_self)]
    show (false || (backTo pos (starEach es env)).any (·.1)) = false
    rw [plain_all fun e he => h e (List.mem_cons_of_mem _ he)]
    rfl
theorem plainIx_of {b : Expr} (h : notSlice b = true) : PlainIx b := by
  intro o i
  cases b <;> first | rfl | (exact Bool.noConfusion h)
theorem attr_of {o : Expr} {a : Str} {env : Env} (h : plainBase o = true) : attributeBase o a env (eval o env) = eval o env := by
  cases o with
  | Call f args kws pos =>
    cases f with
    | Name x p =>
      cases args with
      | nil =>
        cases kws with
        | nil => exact Bool.noConfusion h
        | cons => rfl
      | cons => rfl
    | _ => rfl
  | _ => rfl
theorem true_of {e : Expr} {env : Env} (h : plainT e = true) : ∀ whole, isTrue e env whole = (do let v ← whole; standAt e.pos; holding [v] (truthy v)) := by
  intro whole
  cases e with
  | UnaryOp op x p => cases op <;> first | rfl | (exact Bool.noConfusion h)
  | BoolOp op l p => exact Bool.noConfusion h
  | IfExp a b c p => exact Bool.noConfusion h
  | Compare a b c p => exact Bool.noConfusion h
  | _ => rfl
theorem fold_of {e : Expr} {env : Env} (h : notSet e = true) : ∀ x, foldedSetIterable e env x = pure x := by
  intro x
  cases e <;> first | rfl | (exact Bool.noConfusion h)
theorem ne_of_ck {x y : Str} (h : (!decide (x = y)) = true) : (x == y) = false := by
  have : x ≠ y := of_decide_eq_false (by simpa using h)
  exact beq_eq_false_iff_ne.mpr this
theorem vis_of {sc : Scope} {x : Str} (h : visB sc x = true) : Vis sc x := by
  unfold visB at h
  split at h
  · rename_i e; exact .inl e
  · rename_i e; exact .inr (.inl e)
  · rename_i e; exact .inr (.inr e)
  · cases h
theorem loc_of {sc : Scope} {x : Str} (h : locB sc x = true) : Loc sc x := by
  unfold locB at h
  split at h
  · rename_i e; exact .inl e
  · rename_i e; exact .inr e
  · cases h
theorem gl_of {sc : Scope} {x : Str} (h : glB sc x = true) : sc.names.lookup x = some .globalImplicit := by
  unfold glB at h
  split at h
  · rename_i e; exact e
  · cases h
theorem nm_of {x : Str} (h : nmB x = true) : (x == ("__debug__" : Str)) = false ∧ (x == ("__classdict__" : Str)) = false ∧ x ≠ "__name__" := by
  unfold nmB at h
  simp only [Bool.and_eq_true, Bool.not_eq_true', decide_eq_false_iff_not] at h
  exact ⟨beq_eq_false_iff_ne.mpr h.1.1, beq_eq_false_iff_ne.mpr h.1.2, h.2⟩
/-- a test by its value -/
theorem pt_tru {X : Cx} {e : Expr} {t : TE} {r : V → Hp → (Bool → Hp → Prop) → Prop} (h : PE X e t) (hr : TruR X r) (he : ∀ whole, isTrue e X.env whole = (do let v ← whole; standAt e.pos; holding [v] (truthy v))) : PT X e (fun σ H Q => t σ H fun x H1 => r x H1 Q) := by
  refine ⟨fun pins s σ H Q I hw => ?_⟩
  exact isTrue_plain (thn (h.run pins s σ H _ I hw) fun v s1 ⟨x, H1, I1, r1, q1⟩ => hr pins s1 σ H1 x v Q I1 r1 q1) (he _)
end Pw
end
section
set_option Elab.async false
set_option linter.all false
set_option maxRecDepth 100000
set_option maxHeartbeats 2000000
/-! PwG: what the evaluator says of an expression is so (part 7 of the layer). -/
namespace Pw
open PySem PySem.Spec PyProof.Rows L2

/-- what a def with the number i promises: k calls deep -/
def spF (g : GK) (T : Tab) (k i : Nat) : Sp := fun vs H Q E => ∃ ds st μ, RepSt g μ H st ∧ RepL g μ H ds vs ∧ rdg g (fun cls d _ H' => E cls d H') μ H (reRho [] (run T k i ds st)) (VP g Q)
/-- the context is that of c, k calls are left -/
structure XOk (g : GK) (T : Tab) (k : Nat) (c : SC) (X : Cx) : Prop where
  K : X.K = g.K
  N : X.N = c.N
  nd : c.N.Nodup
  sc : X.env.scope = c.sc
  kind : X.env.scope.kind = .function
  calm : X.calm = true
  own : ∀ x ∈ c.own, X.fn x = true ∨ X.env.scope.names.lookup x = some .local
  room : Room k X.A
  gl : ∀ x d, c.gl.lookup x = some d → ∃ u v, X.mg x = some u ∧ RelV v u ∧ ∀ μ H, Rep g μ H d v
  fr : ∀ x ∈ c.fr, X.mg x = none
  defs : ∀ i x, c.nm[i]? = some x → ∃ f fd ps, X.mg x = some (.ref f) ∧ PySem.W.keepIn X.K (.ref f) = true ∧ Binds X.K fd ps [] ∧ FnOk X.prog X.w X.K X.mg X.base (L2.CX X.prog X.w) k f fd ps (spF g T k i)
section
variable {g : GK} {T : Tab} {k : Nat} {c : SC} {X : Cx}
theorem XOk.un (x : XOk g T k c X) : X.A.units + 150 < cLine := by have := x.room.un; omega
theorem XOk.slotN (x : XOk g T k c X) {i : Nat} {y : Str} (h : c.slot i y = true) : X.N[i]? = some y ∧ Loc X.env.scope y ∧ (X.fn y = true ∨ X.env.scope.names.lookup y = some .local) := by
  unfold SC.slot at h
  simp only [Bool.and_eq_true, decide_eq_true_eq] at h
  exact ⟨by rw [x.N]; exact h.1, by rw [x.sc]; exact loc_of h.2.1, x.own y h.2.2⟩
theorem XOk.isB (x : XOk g T k c X) {y b : Str} (h : c.isB y b = true) : y = b ∧ Gl X y ∧ X.mg y = none ∧ (y == ("__debug__" : Str)) = false ∧ y ≠ "__name__" := by
  unfold SC.isB at h
  simp only [Bool.and_eq_true, decide_eq_true_eq] at h
  have n := nm_of h.2.2.2
  refine ⟨h.1, ?_, x.fr y h.2.2.1, n.1, n.2.2⟩
  show X.env.scope.names.lookup y = some .globalImplicit
  rw [x.sc]
  exact gl_of h.2.1
theorem XOk.glob (x : XOk g T k c X) {y : Str} (h : glB c.sc y = true) : Gl X y := by
  show X.env.scope.names.lookup y = some .globalImplicit
  rw [x.sc]
  exact gl_of h
/-- within a comprehension's block -/
theorem XOk.blk (x : XOk g T k c X) {scope : Scope} {own : List (Str × Nat)} (ok : BlkOk X.N X.env.scope scope own) (s : Shared) (H : Hp) (C : Addr) (cl : List (Str × Addr)) (fp : List Addr) : XOk g T k (c.blk scope) (X.blk s H scope (compEnvC scope cl C X.env) fp) := by
  have hsc : (X.blk s H scope (compEnvC scope cl C X.env) fp).env.scope = relS scope X.env.scope := rfl
  refine ⟨x.K, x.N, x.nd, ?_, ok.kind, x.calm, fun y hy => ?_, x.room, x.gl, x.fr, x.defs⟩
  · rw [hsc, x.sc]; rfl
  · obtain ⟨p, hp, e⟩ := List.mem_filterMap.mp hy
    obtain ⟨n, kd⟩ := p
    have hl := ok.uniq _ hp
    cases kd with
    | «local» =>
      cases e
      refine .inr ?_
      rw [hsc]
      exact lookup_relS_keep (by decide) hl
    | cell =>
      cases e
      refine .inl ?_
      show (scope.names.lookup n == some .cell) = true
      rw [show scope.names.lookup n = some .cell from hl]
      rfl
    | _ => cases e
end

/-! ### calls of built-in names -/
theorem pe_callV {X : Cx} {f : Value} {x : Str} {p pos : Pos} {e : Expr} {es : List Expr} {t : TA} {r : List V → Hp → VK → Prop} (hf : (∃ id, f = .builtin id) ∨ ∃ n, f = .type n) (hc : CallR X f r) (hg : Gl X x) (hm : X.mg x = none) (hv : bootBuiltins x = some f) (ha : PA X (e :: es) t)
    (hn : x ≠ "__name__") (hdb : (x == ("__debug__" : Str)) = false) (he : ∀ y ∈ e :: es, notStar y = true) : PE X (.Call (.Name x p) (e :: es) [] pos) (tCB r t) := by
  rcases hf with ⟨id, rfl⟩ | ⟨n, rfl⟩
  · exact pe_callB hc hg hm hv ha hn hdb (star_cons (he e List.mem_cons_self)) (plain_all fun y hy => he y (List.mem_cons_of_mem _ hy))
  · exact pe_callTy hc hg hm hv ha hn hdb (star_cons (he e List.mem_cons_self)) (plain_all fun y hy => he y (List.mem_cons_of_mem _ hy))
theorem bf_boot (b : Bf) : bootBuiltins (bfNm b) = some (bfId b) := by cases b <;> decide +kernel
theorem bf_kind (b : Bf) : (∃ id, bfId b = .builtin id) ∨ ∃ n, bfId b = .type n := by cases b <;> first | exact .inl ⟨_, rfl⟩ | exact .inr ⟨_, rfl⟩
theorem ty_boot {t : String} (h : t ∈ tyOk) : bootBuiltins (tyNm t) = some (.type t) := by
  have h' : t = "int" ∨ t = "bool" ∨ t = "str" ∨ t = "tuple" ∨ t = "list" ∨ t = "dict" := by simpa [tyOk] using h
  rcases h' with rfl | rfl | rfl | rfl | rfl | rfl <;> decide +kernel

/-- what a truth's reading says -/
abbrev TrQ (g : GK) (Q : Bool → Hp → Prop) : VK := fun x H => ∃ d st μ b, RepSt g μ H st ∧ Rep g μ H d x ∧ truth d st = some b ∧ Q b H

/-! ### what is walked -/
structure Wk (g : GK) (J : It) (it : Pw.Itr) (μ₀ : List Addr) (H₀ : Hp) : Prop where
  go : ∀ (i : Nat) (d : D) (μ : List Addr) (H : Hp) (st : Store), it.items[i]? = some d → Stp μ₀ H₀ μ H → RepSt g μ H st → it.stands st = true → J.go i H ∧ ∀ x H', J.yld i H x H' → Stp μ H μ H' ∧ RepSt g μ H' st ∧ Rep g μ H' d x
  stop : ∀ (μ : List Addr) (H : Hp) (st : Store), Stp μ₀ H₀ μ H → RepSt g μ H st → it.stands st = true → J.stop it.items.length H
section
variable {g : GK} {μ : List Addr} {H : Hp} {st : Store}
theorem Wk.step {J : It} {it : Pw.Itr} {μ' : List Addr} {H' : Hp} (w : Wk g J it μ H) (s : Stp μ H μ' H') : Wk g J it μ' H' :=
  ⟨fun i d μ2 H2 st e s2 hs k => w.go i d μ2 H2 st e (s.trans s2) hs k, fun μ2 H2 st s2 hs k => w.stop μ2 H2 st (s.trans s2) hs k⟩
theorem wk_tup {a : Addr} {ds : List D} {vs : List V} (hs : RepSt g μ H st) (h : SqT g.K H a vs) (r : RepL g μ H ds vs) : Wk g (Itt g.K a) (.fix ds) μ H := by
  have keep : ∀ {μ' H'}, Stp μ H μ' H' → SqT g.K H' a vs := fun s => by
    rcases h with h | h
    · exact .inl ((s.car hs).tup _ _ h)
    · exact .inr h
  refine ⟨fun i d μ' H' st' e s hs' _ => ?_, fun μ' H' st' s hs' _ => ⟨vs, keep s, by rw [r.length]; exact Nat.le_refl _⟩⟩
  obtain ⟨v, e1, e2⟩ := (r.step s hs).get (show ds[i]? = some d from e)
  refine ⟨⟨vs, v, keep s, e1⟩, fun x H2 y => ?_⟩
  obtain ⟨rfl, y⟩ := y
  have := y vs (keep s)
  rw [e1] at this
  cases this
  exact ⟨.refl, hs', e2⟩
theorem wk_frz {a : Addr} {ds : List D} {vs : List V} (hs : RepSt g μ H st) (h : (∃ o, H a = some (.frz o (.lst vs))) ∨ ∃ (o : Obj) (its : Array Value) (n : Nat), g.K.lookup a = some o ∧ o.cls = .type "list" ∧ o.dict = none ∧ o.data = .seq its n ∧ its.size ≤ sizeLine ∧ Vals vs its.toList) (r : RepL g μ H ds vs) : Wk g (Itl g.K a) (.fix ds) μ H := by
  have keep : ∀ {μ' H'}, Stp μ H μ' H' → SqL g.K H' a vs := fun s => by
    rcases h with ⟨o, h⟩ | h
    · exact .inl (.inr ⟨o, (s.car hs).frz _ _ _ h⟩)
    · exact .inr h
  refine ⟨fun i d μ' H' st' e s hs' _ => ?_, fun μ' H' st' s hs' _ => ⟨vs, keep s, by rw [r.length]; exact Nat.le_refl _⟩⟩
  obtain ⟨v, e1, e2⟩ := (r.step s hs).get (show ds[i]? = some d from e)
  refine ⟨⟨vs, v, keep s, e1⟩, fun x H2 y => ?_⟩
  obtain ⟨rfl, y⟩ := y
  have := y vs (keep s)
  rw [e1] at this
  cases this
  exact ⟨.refl, hs', e2⟩
theorem wk_cell {n : Nat} {a : Addr} {ds : List D} (hs : RepSt g μ H st) (h : μ[n]? = some a) : Wk g (Itl g.K a) (.cell n ds) μ H := by
  have at' : ∀ {μ' H' st'}, Stp μ H μ' H' → RepSt g μ' H' st' → (Pw.Itr.cell n ds).stands st' = true → ∃ vs, SqL g.K H' a vs ∧ RepL g μ' H' ds vs := fun {μ' H' st'} s hs' k => by
    have k : listAt st' n = some ds := of_decide_eq_true k
    obtain ⟨a', vs, e, e1, e2, e3, r⟩ := Rep.cell hs' (.ref (s.ref n a h)) k
    cases e
    exact ⟨vs, SqL.of e3, r⟩
  refine ⟨fun i d μ' H' st' e s hs' k => ?_, fun μ' H' st' s hs' k => ?_⟩
  · obtain ⟨vs, q, r⟩ := at' s hs' k
    obtain ⟨v, e1, e2⟩ := r.get (show ds[i]? = some d from e)
    refine ⟨⟨vs, v, q, e1⟩, fun x H2 y => ?_⟩
    obtain ⟨rfl, y⟩ := y
    have := y vs q
    rw [e1] at this
    cases this
    exact ⟨.refl, hs', e2⟩
  · obtain ⟨vs, q, r⟩ := at' s hs' k
    exact ⟨vs, q, by rw [r.length]; exact Nat.le_refl _⟩
theorem wk_range (lo : Int) (hi : Int) : Wk g (L2.Itr lo (hi - lo).toNat) (.fix (rangeL lo hi)) μ H := by
  refine ⟨fun i d μ' H' st' e s hs' _ => ?_, fun μ' H' st' s hs' _ => ?_⟩
  · have e : (rangeL lo hi)[i]? = some d := e
    unfold rangeL at e
    rw [List.getElem?_map] at e
    cases q : (List.range (hi - lo).toNat)[i]? with
    | none => rw [q] at e; cases e
    | some j =>
      rw [q] at e
      have hi' := (List.getElem?_eq_some_iff.mp q)
      obtain ⟨h1, h2⟩ := hi'
      simp only [List.length_range] at h1
      simp only [List.getElem_range] at h2
      subst h2
      cases e
      refine ⟨h1, fun x H2 y => ?_⟩
      obtain ⟨rfl, rfl⟩ := y
      exact ⟨.refl, hs', .int _⟩
  · show (hi - lo).toNat ≤ (rangeL lo hi).length
    simp [rangeL]
theorem wk_str (x : List Nat) : Wk g (Its (stOf x)) (.fix (x.map fun c => .str [c])) μ H := by
  refine ⟨fun i d μ' H' st' e s hs' _ => ?_, fun μ' H' st' s hs' _ => ?_⟩
  · have e : (x.map fun c => D.str [c])[i]? = some d := e
    rw [List.getElem?_map] at e
    cases q : x[i]? with
    | none => rw [q] at e; cases e
    | some ch =>
      rw [q] at e
      cases e
      have q' : (stOf x).cps[i]? = some ch := by
        show x.toArray[i]? = some ch
        simpa using q
      have hsz : i < (stOf x).cps.size := by
        have := (List.getElem?_eq_some_iff.mp q).1
        show i < x.toArray.size
        simpa using this
      refine ⟨hsz, fun v H2 y => ?_⟩
      obtain ⟨rfl, c2, e2, rfl⟩ := y
      rw [q'] at e2
      cases e2
      exact ⟨.refl, hs', .str [_] (by show 1 ≤ LN; decide)⟩
  · show (stOf x).cps.size ≤ _
    have : (stOf x).cps.size = x.length := by show x.toArray.size = _; simp
    rw [this]
    simp [Pw.Itr.items]
end
def tI (g : GK) (W : WX) (f : Rho → Store → Res (Pw.Itr × Store)) : TI := fun σ H R => ∃ ρ st μ, RepSt g μ H st ∧ RepR g μ H ρ σ ∧ rdg g W μ H (f ρ st) (fun p μ' H' => ∀ J, Wk g J p.1 μ' H' → R J H')
/-- a list, a tuple, a text, walked -/
def iAny (K : PySem.W.Frag) (te : TE) : TI := fun σ H R => te σ H fun x H1 => (∃ a, x = .ref a ∧ (∃ xs, SqL K H1 a xs) ∧ R (Itl K a) H1) ∨ (∃ a, x = .ref a ∧ (∃ xs, SqT K H1 a xs) ∧ R (Itt K a) H1) ∨ ∃ x', x = .str x' ∧ R (Its x') H1
theorem pi_any {X : Cx} {tg e : Expr} {te : TE} (he : PE X e te) : PI X tg e (iAny X.K te) := by
  refine ⟨fun pins s σ H R I h => ?_⟩
  refine thn (he.run pins s σ H _ I h) fun v s1 ⟨x, H1, I1, r1, q1⟩ => ?_
  rcases q1 with ⟨a, e, ⟨xs, hq⟩, q⟩ | ⟨a, e, ⟨xs, hq⟩, q⟩ | ⟨y, e, q⟩
  · subst e
    cases r1
    obtain ⟨its, rv, p, hz⟩ := I1.list hq
    refine wpAny_pyIter_list p.isList ?_
    refine ⟨s1.heap.objs.size, [s1.heap.objs.size], _, _, H1, rfl, I1.kept (t' := s1.toks) fun b o e => Heap.get?_push_of_some _ e, turn_list a _, ⟨_, Heap.get?_push_size _ rfl, rfl, rfl⟩, fun b hb => ?_, q⟩
    have e : b = s1.heap.objs.size := by simpa using hb
    subst e
    exact I1.fpOk (Nat.le_refl _) (I1.hok.fresh (Nat.le_refl _))
  · subst e
    cases r1
    obtain ⟨its, rv, p, hz⟩ := I1.tuple hq
    refine wpAny_pyIter_tuple (show s1.heap.IsTuple a its.toArray from p) ?_
    refine ⟨s1.heap.objs.size, [s1.heap.objs.size], _, _, H1, rfl, I1.kept (t' := s1.toks) fun b o e => Heap.get?_push_of_some _ e, turn_tuple a _, ⟨_, Heap.get?_push_size _ rfl, rfl, rfl⟩, fun b hb => ?_, q⟩
    have e : b = s1.heap.objs.size := by simpa using hb
    subst e
    exact I1.fpOk (Nat.le_refl _) (I1.hok.fresh (Nat.le_refl _))
  · subst e
    obtain ⟨t, rfl⟩ := r1
    cases ha : y.cps.all (· < 128)
    · exact wpAny_pyIter_wide ha (pi_one (tk := s1.toks) I1 _ (turn_str _ y t "str_iterator" (.inr rfl)) ⟨_, Heap.get?_push_size _ rfl, rfl, rfl⟩ q)
    · exact wpAny_pyIter_ascii ha (pi_one (tk := s1.toks) I1 _ (turn_str _ y t "str_ascii_iterator" (.inl rfl)) ⟨_, Heap.get?_push_size _ rfl, rfl, rfl⟩ q)
theorem walk_any {g : GK} {μ : List Addr} {H : Hp} {st : Store} {d : D} {v : V} {it : Pw.Itr} (hs : RepSt g μ H st) (r : Rep g μ H d v) (e : walkD d st = some it) {R : It → Hp → Prop} (h : ∀ J, Wk g J it μ H → R J H) :
    (∃ a, v = .ref a ∧ (∃ xs, SqL g.K H a xs) ∧ R (Itl g.K a) H) ∨ (∃ a, v = .ref a ∧ (∃ xs, SqT g.K H a xs) ∧ R (Itt g.K a) H) ∨ ∃ x', v = .str x' ∧ R (Its x') H := by
  cases d with
  | tup ds =>
    cases e
    obtain ⟨a, vs, rfl, h1, r1⟩ := r.tupL
    exact .inr (.inl ⟨a, rfl, ⟨vs, h1⟩, h _ (wk_tup hs h1 r1)⟩)
  | frz ds =>
    cases e
    cases r with
    | frz h1 r1 => exact .inl ⟨_, rfl, ⟨_, .inl (.inr ⟨_, h1⟩)⟩, h _ (wk_frz hs (.inl ⟨_, h1⟩) r1)⟩
    | frk h1 h2 h3 h4 h5 h6 r1 => exact .inl ⟨_, rfl, ⟨_, .inr ⟨_, _, _, h1, h2, h3, h4, h5, h6⟩⟩, h _ (wk_frz hs (.inr ⟨_, _, _, h1, h2, h3, h4, h5, h6⟩) r1)⟩
  | str x =>
    cases e
    cases r
    exact .inr (.inr ⟨_, rfl, h _ (wk_str x)⟩)
  | ref n =>
    obtain ⟨ds, el, rfl⟩ := Option.map_eq_some_iff.mp e
    obtain ⟨a, vs, rfl, e1, _, h1, r1⟩ := r.cell hs el
    exact .inl ⟨a, rfl, ⟨vs, SqL.of h1⟩, h _ (wk_cell hs e1)⟩
  | _ => cases e
end Pw
end
section
set_option Elab.async false
set_option linter.all false
set_option maxRecDepth 100000
set_option maxHeartbeats 2000000
/-! PwH: targets, comprehensions (part 8 of the layer). -/
namespace Pw
open PySem PySem.Spec PyProof.Rows L2

/-! ### slots forgotten -/
theorem wipe_in {σ : L2.St} {i : Nat} : ∀ {vs : List Nat}, i ∈ vs → i < σ.length → (wipe σ vs)[i]? = some none
  | [], h, _ => absurd h (by simp)
  | v :: vs, h, hl => by
    unfold wipe
    by_cases e : v = i
    · subst e
      rw [List.getElem?_set_self (by rw [wipe_length]; exact hl)]
    · rw [List.getElem?_set_ne e]
      rcases List.mem_cons.mp h with z | z
      · exact absurd z.symm e
      · exact wipe_in z hl
theorem wipe_ext {σ τ : L2.St} {vs : List Nat} (hl : σ.length = τ.length) (h : ∀ i, i ∉ vs → σ[i]? = τ[i]?) : wipe σ vs = wipe τ vs := by
  apply List.ext_getElem?
  intro i
  by_cases m : i ∈ vs
  · by_cases b : i < σ.length
    · rw [wipe_in m b, wipe_in m (hl ▸ b)]
    · rw [List.getElem?_eq_none (by rw [wipe_length]; omega), List.getElem?_eq_none (by rw [wipe_length]; omega)]
  · rw [wipe_out m, wipe_out m, h i m]
theorem wipe_idem (σ : L2.St) (vs : List Nat) : wipe (wipe σ vs) vs = wipe σ vs := wipe_ext (wipe_length σ vs) fun i m => wipe_out m
theorem wipe_set {σ : L2.St} {i : Nat} {o : Option V} {vs : List Nat} (h : i ∈ vs) : wipe (σ.set i o) vs = wipe σ vs := wipe_ext (by simp) fun j m => by
  rw [List.getElem?_set_ne]
  exact fun e => m (e ▸ h)

/-! ### targets -/
def setAllV : List Nat → List V → L2.St → Option L2.St
  | [], [], σ => some σ
  | i :: is, v :: vs, σ => setAllV is vs (σ.set i (some v))
  | _, _, _ => none
theorem setAll_len : ∀ {is : List Nat} {ds : List D} {ρ ρ' : Rho}, setAll is ds ρ = some ρ' → ds.length = is.length
  | [], [], _, _, _ => rfl
  | [], _ :: _, _, _, h => by cases h
  | _ :: _, [], _, _, h => by cases h
  | i :: is, d :: ds, ρ, ρ', h => by
    have := setAll_len (is := is) (ds := ds) (ρ := ρ.set i (some d)) (ρ' := ρ') h
    simp [this]
theorem setAll_rep {g : GK} {μ : List Addr} {H : Hp} : ∀ {is : List Nat} {ds : List D} {vs : List V} {ρ ρ' : Rho} {σ : L2.St}, RepL g μ H ds vs → RepR g μ H ρ σ → setAll is ds ρ = some ρ' →
    ∃ σ', setAllV is vs σ = some σ' ∧ RepR g μ H ρ' σ' ∧ ∀ ws : List Nat, (∀ i ∈ is, i ∈ ws) → wipe σ' ws = wipe σ ws
  | [], [], _, ρ, ρ', σ, r, hr, h => by
    cases r
    cases h
    exact ⟨σ, rfl, hr, fun _ _ => rfl⟩
  | [], _ :: _, _, _, _, _, _, _, h => by cases h
  | _ :: _, [], _, _, _, _, _, _, h => by cases h
  | i :: is, d :: ds, _, ρ, ρ', σ, r, hr, h => by
    cases r with
    | cons r1 r2 =>
      rename_i v vs
      obtain ⟨σ', e, k1, k2⟩ := setAll_rep (is := is) (σ := σ.set i (some v)) r2 (hr.set r1) h
      refine ⟨σ', e, k1, fun ws hw => ?_⟩
      rw [k2 ws fun j hj => hw j (List.mem_cons_of_mem _ hj)]
      exact wipe_set (hw i List.mem_cons_self)
/-- a target's reading -/
def tG (g : GK) (G : IG) : TG := fun v σ H Q => ∃ d ρ st μ ρ', RepSt g μ H st ∧ RepR g μ H ρ σ ∧ Rep g μ H d v ∧ bindG G d ρ = some ρ' ∧ ∀ σ', RepR g μ H ρ' σ' → (∀ vs, gIn vs G = true → wipe σ' vs = wipe σ vs) → Q σ' H
def gAll (is : List Nat) : TGs := fun vs σ H Q => ∃ σ', setAllV is vs σ = some σ' ∧ Q σ' H
theorem pgs_imp {X : Cx} {ts : List Expr} {t t' : TGs} (h : PGs X ts t') (k : ∀ vs σ H Q, t vs σ H Q → t' vs σ H Q) : PGs X ts t := ⟨fun pins s σ H vs us Q I r q => h.run pins s σ H vs us Q I r (k vs σ H Q q)⟩
theorem pg_imp {X : Cx} {ts : Expr} {t t' : TG} (h : PG X ts t') (k : ∀ vs σ H Q, t vs σ H Q → t' vs σ H Q) : PG X ts t := ⟨fun pins s σ H vs us Q I r q => h.run pins s σ H vs us Q I r (k vs σ H Q q)⟩
section
variable {g : GK} {T : Tab} {k : Nat} {c : SC} {X : Cx}
theorem names_ok (x : XOk g T k c X) : ∀ (is : List Nat) (es : List Expr), ckIs c is es = true → PGs X es (gAll is) ∧ (assignEach es X.env).length = is.length ∧ (assignEach es X.env).findIdx? (·.1) = none
  | is, [], h => by
    cases is with
    | nil => 
      refine ⟨pgs_imp pgs_nil fun vs σ H Q ⟨σ', e, q⟩ => ?_, rfl, rfl⟩
      cases vs with
      | nil => cases e; exact ⟨rfl, q⟩
      | cons => cases e
    | cons i is => cases h
  | is, e :: es, h => by
    cases e with
    | Name y p =>
      cases is with
      | nil => cases h
      | cons i is =>
        have h' : (c.slot i y && ckIs c is es) = true := h
        obtain ⟨h1, h2⟩ := Bool.and_eq_true_iff.mp h'
        obtain ⟨hN, hl, hf⟩ := x.slotN h1
        obtain ⟨p1, p2, p3⟩ := names_ok x is es h2
        refine ⟨pgs_imp (pgs_cons (pg_name (x.N ▸ x.nd) hN hl hf) p1 rfl) fun vs σ H Q ⟨σ', e, q⟩ => ?_, ?_, ?_⟩
        · cases vs with
          | nil => cases e
          | cons v vs => exact ⟨v, vs, rfl, σ', e, q⟩
        · show (assignEach es X.env).length + 1 = is.length + 1
          rw [p2]
        · show List.findIdx? (·.1) ((false, assign (.Name y p) X.env) :: assignEach es X.env) = none
          rw [List.findIdx?_cons, p3]
          rfl
    | _ => simp [ckIs] at h
theorem target_ok (x : XOk g T k c X) {G : IG} {tg : Expr} (h : ckG c G tg = true) : PG X tg (tG g G) := by
  cases G with
  | name i =>
    cases tg with
    | Name y p =>
      obtain ⟨hN, hl, hf⟩ := x.slotN (show c.slot i y = true from h)
      refine pg_imp (pg_name (x.N ▸ x.nd) hN hl hf) fun v σ H Q ⟨d, ρ, st, μ, ρ', hs, hr, r, e, q⟩ => ?_
      cases e
      exact q _ (hr.set r) fun vs hv => wipe_set (of_decide_eq_true hv)
    | _ => cases h
  | tup is =>
    cases tg with
    | Tuple es n p =>
      obtain ⟨p1, p2, p3⟩ := names_ok x is es (show ckIs c is es = true from h)
      refine pg_imp (pg_tup x.calm p1 p2 p3) fun v σ H Q ⟨d, ρ, st, μ, ρ', hs, hr, r, e, q⟩ => ?_
      cases d with
      | tup ds =>
        obtain ⟨a, vs, rfl, h1, r1⟩ := r.tupL
        obtain ⟨σ', e2, k1, k2⟩ := setAll_rep r1 hr e
        refine ⟨a, vs, rfl, by rw [x.K]; exact h1, by rw [r1.length]; exact setAll_len e, σ', e2, q σ' k1 fun ws hw => k2 ws fun i hi => ?_⟩
        exact of_decide_eq_true (List.all_eq_true.mp hw i hi)
      | _ => cases e
    | _ => cases h
end

/-! ### a list of its own, tracked, no cell as yet -/
section
variable {g : GK} {μ μ' : List Addr} {H H' : Hp} {st : Store}
theorem car_other {p : Addr} {xs ys : List V} (e : H p = some (.lst xs)) (n : Nat) : Car g μ μ n H (upd H p (.lst ys)) := by
  have ne : ∀ {a : Addr} {o : HO}, H a = some o → (∀ zs, o ≠ .lst zs) → upd H p (.lst ys) a = some o := fun {a o} h k => by
    have : a ≠ p := fun z => by
      rw [z, e] at h
      cases h
      exact k _ rfl
    rw [upd_ne this]; exact h
  refine ⟨fun _ _ _ e => e, fun a zs h => ?_, fun a o zs h => ne h fun _ z => by cases z⟩
  rcases h with h | ⟨o, h⟩
  · exact .inl (ne h fun _ z => by cases z)
  · exact .inr ⟨o, ne h fun _ z => by cases z⟩
theorem RepSt.other {p : Addr} {xs ys : List V} (h : RepSt g μ H st) (m : p ∉ μ) (e : H p = some (.lst xs)) : RepSt g μ (upd H p (.lst ys)) st := by
  refine ⟨h.len, h.nd, fun n a c e1 e2 => ?_⟩
  have q := h.cell n a c e1 e2
  have ne : a ≠ p := fun z => m (z ▸ List.mem_of_getElem? e1)
  cases c with
  | lst ds =>
    obtain ⟨vs, e4, r⟩ := q
    exact ⟨vs, by rw [upd_ne ne]; exact e4, RepL.car (car_other e μ.length) ds (RepL.bnd ds r) r⟩
theorem RepSt.adopt {p : Addr} {ds : List D} {vs : List V} (h : RepSt g μ H st) (m : p ∉ μ) (e : H p = some (.lst vs)) (r : RepL g μ H ds vs) : RepSt g (μ ++ [p]) H (st ++ [.lst ds]) := by
  have cr : Car g μ (μ ++ [p]) μ.length H H := ⟨fun k a hk e => by rw [List.getElem?_append_left hk]; exact e, fun _ _ e => e, fun _ _ _ e => e⟩
  refine ⟨by simp [h.len], ?_, fun n a c e1 e2 => ?_⟩
  · rw [List.nodup_append]
    refine ⟨h.nd, by simp, fun x hx y hy z => ?_⟩
    rw [List.mem_singleton.mp hy] at z
    exact m (z ▸ hx)
  · by_cases hn : n < μ.length
    · rw [List.getElem?_append_left hn] at e1
      rw [List.getElem?_append_left (h.len ▸ hn)] at e2
      have q := h.cell n a c e1 e2
      cases c with
      | lst es =>
        obtain ⟨ws, e4, r'⟩ := q
        exact ⟨ws, e4, RepL.car cr es (RepL.bnd es r') r'⟩
    · have hm := (List.getElem?_eq_some_iff.mp e1).1
      have hnn : n = μ.length := by simp at hm; omega
      subst hnn
      rw [List.getElem?_append_right (Nat.le_refl _)] at e1
      rw [List.getElem?_append_right (by rw [h.len]; exact Nat.le_refl _)] at e2
      simp at e1
      rw [h.len] at e2
      simp at e2
      subst e1 e2
      exact ⟨vs, e, RepL.car cr ds (RepL.bnd ds r) r⟩
theorem Stp.out (s : Stp μ H μ' H') {p : Addr} {o : HO} (m : p ∉ μ) (e : H p = some o) : p ∉ μ' ∧ H' p = some o := by
  refine ⟨fun z => ?_, s.keep p o m e⟩
  rw [s.new p z m] at e
  cases e
/-- .. changed: still a step from where it was not -/
theorem Stp.other {p : Addr} {o : HO} (s : Stp μ H μ' H') (e : H p = none) : Stp μ H μ' (upd H' p o) :=
  ⟨s.ref, s.new, fun a o' m h => by rw [upd_ne (ne_of_none h e)]; exact s.keep a o' m h⟩
end

/-! ### a comprehension -/
theorem loopC_nx {it : Pw.Itr} {G : IG} {fc : Rho → Store → Res (Bool × Store)} {fe : Rho → Store → Res (D × Store)} : ∀ (ds : List D) (ρ : Rho) (st : Store) (x : Exc) (ρ' : Rho) (st' : Store), loopC it G fc fe ds ρ st ≠ .exn x ρ' st'
  | [], ρ, st, x, ρ', st', h => by
    unfold loopC need at h
    split at h <;> cases h
  | d :: ds, ρ, st, x, ρ', st', h => by
    unfold loopC need at h
    split at h
    · split at h
      · cases h
      · rename_i ρ1 _
        cases e1 : noX (fc ρ1 st) with
        | exn y ρ2 st2 => unfold noX at e1; split at e1 <;> first | cases e1 | (rename_i z; exact z _ _ _ e1)
        | stuck => rw [e1] at h; cases h
        | ok p =>
          rw [e1] at h
          dsimp only [Res.bind_ok] at h
          split at h
          · cases e2 : noX (gcR p.2 (fe ρ1 p.2)) with
            | exn y ρ2 st2 => unfold noX at e2; split at e2 <;> first | cases e2 | (rename_i z; exact z _ _ _ e2)
            | stuck => rw [e2] at h; cases h
            | ok q =>
              rw [e2] at h
              dsimp only [Res.bind_ok] at h
              cases e3 : loopC it G fc fe ds ρ q.2 with
              | exn y ρ2 st2 => exact loopC_nx ds ρ q.2 y ρ2 st2 e3
              | stuck => rw [e3] at h; cases h
              | ok r => rw [e3] at h; cases h
          · exact loopC_nx ds ρ p.2 x ρ' st' h
    · cases h
theorem noX_ok {α : Type} {r : Res α} {a : α} (h : noX r = .ok a) : r = .ok a := by
  unfold noX at h
  split at h
  · cases h
  · exact h
theorem need_is {α : Type} {b : Bool} {r : Res α} {a : α} (h : need b r = .ok a) : b = true ∧ r = .ok a := by
  unfold need at h
  split at h
  · rename_i e; exact ⟨e, h⟩
  · cases h
theorem bind_is {α β : Type} {r : Res α} {f : α → Res β} {b : β} (h : r.bind f = .ok b) : ∃ a, r = .ok a ∧ f a = .ok b := by
  cases r with
  | ok a => exact ⟨a, rfl, h⟩
  | exn => cases h
  | stuck => cases h
theorem lc_ok {g : GK} {W : WX} {fi : Rho → Store → Res (Pw.Itr × Store)} {G : IG} {fc : Rho → Store → Res (Bool × Store)} {fe : Rho → Store → Res (D × Store)} {vs : List Nat} (hG : gIn vs G = true) {σ : L2.St} {H : Hp} {Q : VK}
    (h : tE g W (fun ρ st => (fi ρ st).bind fun p => (loopC p.1 G fc fe p.1.items (wipeR ρ vs) p.2).bind fun q => mkLst q.1 q.2) σ H Q) :
    tLc (tI g W fi) (tG g G) (tT g (fun _ _ _ _ => False) fc) (tE g (fun _ _ _ _ => False) fe) vs σ H Q := by
  obtain ⟨ρ, st, μ, hs, hr, h⟩ := h
  refine ⟨ρ, st, μ, hs, hr, rdg_and h fun p μ1 H1 s1 hs1 h1 => ?_⟩
  intro J wk A hA
  -- the list as a whole
  cases eL : loopC p.1 G fc fe p.1.items (wipeR ρ vs) p.2 with
  | exn x ρ' st' => exact absurd eL (loopC_nx _ _ _ _ _ _)
  | stuck => rw [eL] at h1; exact h1.elim
  | ok qf =>
    rw [eL] at h1
    obtain ⟨hz, h1⟩ := rdg_need (show rdg g W μ1 H1 (need (decide (qf.1.length ≤ LN)) (alloc (.lst qf.1) qf.2)) (VP g Q) from h1)
    have hz : qf.1.length ≤ LN := of_decide_eq_true hz
    have hAm : A ∉ μ1 := hs1.fresh hA
    have hr1 : RepR g μ1 H1 (wipeR ρ vs) (wipe σ vs) := (hr.step s1 hs).wipe vs
    refine ⟨fun i m H => m = p.1.items.length - i ∧ i ≤ p.1.items.length ∧ ∃ st μ acc accV rest, Stp μ1 H1 μ H ∧ A ∉ μ ∧ H A = some (.lst accV) ∧ RepL g μ H acc accV ∧ RepSt g μ H st ∧ loopC p.1 G fc fe (p.1.items.drop i) (wipeR ρ vs) st = .ok (rest, qf.2) ∧ acc ++ rest = qf.1, ⟨_, rfl, Nat.zero_le _, p.2, μ1, [], [], qf.1, .laid hA, hAm, upd_same, .nil, hs1.laid hA, eL, rfl⟩, ?_⟩
    rintro i m H2 ⟨rfl, hi, st2, μ2, acc, accV, rest, s2, n2, e2, r2, hs2, k2, kL⟩
    by_cases hlt : i < p.1.items.length
    · right
      have hd : p.1.items.drop i = p.1.items[i] :: p.1.items.drop (i + 1) := List.drop_eq_getElem_cons hlt
      rw [hd] at k2
      unfold loopC at k2
      obtain ⟨hst, k2⟩ := need_is k2
      obtain ⟨g1, g2⟩ := wk.go i p.1.items[i] μ2 H2 st2 (by simp [hlt]) s2 hs2 hst
      refine ⟨g1, fun H' => ∃ st μ acc accV rest, Stp μ1 H1 μ H' ∧ A ∉ μ ∧ H' A = some (.lst accV) ∧ RepL g μ H' acc accV ∧ RepSt g μ H' st ∧ loopC p.1 G fc fe (p.1.items.drop (i + 1)) (wipeR ρ vs) st = .ok (rest, qf.2) ∧ acc ++ rest = qf.1, fun H' n => ⟨_, by omega, rfl, hlt, n⟩, fun x H3 y => ?_⟩
      obtain ⟨s3, hs3, rx⟩ := g2 x H3 y
      obtain ⟨n3, e3⟩ := s3.out n2 e2
      split at k2
      · cases k2
      · rename_i ρ1 hb
        refine ⟨p.1.items[i], wipeR ρ vs, st2, μ2, ρ1, hs3, hr1.step (s2.trans s3) hs1, rx, hb, fun σ2 hr2 hw => ⟨by rw [hw vs hG, wipe_idem], ?_⟩⟩
        obtain ⟨pb, eb, k2⟩ := bind_is k2
        have eb := noX_ok eb
        refine ⟨ρ1, st2, μ2, hs3, hr2, ?_⟩
        rw [eb]
        intro μ4 H4 s4 hs4
        obtain ⟨n4, e4⟩ := s4.out n3 e3
        cases hbb : pb.1 with
        | false =>
          rw [hbb] at k2
          rw [if_neg Bool.false_ne_true]
          exact ⟨pb.2, μ4, acc, accV, rest, (s2.trans s3).trans s4, n4, e4, (r2.step s3 hs2).step s4 hs3, hs4, k2, kL⟩
        | true =>
          rw [hbb] at k2
          rw [if_pos rfl]

          rw [if_pos rfl] at k2
          obtain ⟨qe, ee, k2⟩ := bind_is k2
          have ee := noX_ok ee
          obtain ⟨qe', ee', eg⟩ := bind_is ee
          obtain ⟨rr, er, k2⟩ := bind_is k2
          
          have eg : gc pb.2 qe'.1 qe'.2 = qe := Res.ok.inj eg
          have k2 : (qe.1 :: rr.1, rr.2) = (rest, qf.2) := Res.ok.inj k2
          have k2a : rest = qe.1 :: rr.1 := (Prod.mk.inj k2).1.symm
          have k2b : rr.2 = qf.2 := (Prod.mk.inj k2).2
          refine ⟨ρ1, pb.2, μ4, hs4, hr2.step s4 hs3, ?_⟩
          rw [ee']
          intro μ5 H5 s5 hs5 v rv
          obtain ⟨n5, e5⟩ := s5.out n4 e4
          obtain ⟨μ6, hs6, s6, r6⟩ := gc_ok hs4 hs5 s5 rv
          rw [eg] at hs6 r6
          obtain ⟨n6, e6⟩ := s6.out n4 e4
          have rA : RepL g μ6 H5 (acc ++ [qe.1]) (accV ++ [v]) := (((r2.step s3 hs2).step s4 hs3).step s6 hs4).snoc r6
          refine ⟨accV, e5, ?_, qe.2, μ6, acc ++ [qe.1], accV ++ [v], rr.1, (((s2.trans s3).trans s4).trans s6).other hA, n6, upd_same, RepL.car (car_other e6 μ6.length) _ (RepL.bnd _ rA) rA, hs6.other n6 e6, by rw [er, ← k2b], by rw [← kL, k2a]; simp⟩
          rw [r2.length, ln_eq]
          have : (acc ++ rest).length ≤ LN := by rw [kL]; exact hz
          rw [k2a] at this
          simp at this
          omega
    · left
      have e : i = p.1.items.length := by omega
      subst e
      rw [List.drop_length] at k2
      unfold loopC at k2
      obtain ⟨hst, k2⟩ := need_is k2
      refine ⟨wk.stop μ2 H2 st2 s2 hs2 hst, ?_⟩
      have k2 : (([] : List D), st2) = (rest, qf.2) := Res.ok.inj k2
      have k2a : rest = [] := (Prod.mk.inj k2).1.symm
      have k2b : st2 = qf.2 := (Prod.mk.inj k2).2
      subst k2a
      rw [List.append_nil] at kL
      subst kL
      have hs7 := hs2.adopt n2 e2 r2
      rw [k2b] at hs7
      refine (show rdg g W μ1 H1 (.ok (D.ref qf.2.length, qf.2 ++ [.lst qf.1])) (VP g Q) from h1) (μ2 ++ [A]) H2 ?_ hs7 _ (.ref ?_)
      · refine ⟨fun k a e => ?_, fun a m n => ?_, s2.keep⟩
        · have := s2.ref k a e
          rw [List.getElem?_append_left (List.getElem?_eq_some_iff.mp this).1]; exact this
        · rcases List.mem_append.mp m with m | m
          · exact s2.new a m n
          · rw [List.mem_singleton.mp m]; exact hA
      · rw [← k2b, ← hs2.len, List.getElem?_append_right (Nat.le_refl _)]
        simp
end Pw
end
section
set_option Elab.async false
set_option linter.all false
set_option maxRecDepth 100000
set_option maxHeartbeats 4000000
/-! PwI: what the evaluator says of an expression is so (part 9 of the layer). -/
namespace Pw
open PySem PySem.Spec PyProof.Rows L2

theorem ck_star {c : SC} {i : IE} {e : Expr} (h : ckE c i e = true) : notStar e = true := by
  cases e with
  | Starred a p => cases i <;> simp [ckE] at h
  | _ => rfl
theorem ckEs_star {c : SC} : ∀ {i : IE} {l : List Expr}, ckEs c i l = true → ∀ e ∈ l, notStar e = true
  | _, [], _, e, he => absurd he (by simp)
  | .cons a r, x :: xs, h, e, he => by
    simp only [ckEs, Bool.and_eq_true] at h
    rcases List.mem_cons.mp he with rfl | he
    · exact h.1
    · exact ckEs_star h.2.2 e he
  | .nil, x :: xs, h, _, _ => by simp [ckEs] at h
  | .var _, x :: xs, h, _, _ => by simp [ckEs] at h
  | .cst _, x :: xs, h, _, _ => by simp [ckEs] at h
  | .glo _ _, x :: xs, h, _, _ => by simp [ckEs] at h
  | .op _ _ _, x :: xs, h, _, _ => by simp [ckEs] at h
  | .neg _, x :: xs, h, _, _ => by simp [ckEs] at h
  | .cmp _ _ _, x :: xs, h, _, _ => by simp [ckEs] at h
  | .chain _ _ _ _ _, x :: xs, h, _, _ => by simp [ckEs] at h
  | .and _ _, x :: xs, h, _, _ => by simp [ckEs] at h
  | .or _ _, x :: xs, h, _, _ => by simp [ckEs] at h
  | .not _, x :: xs, h, _, _ => by simp [ckEs] at h
  | .ite _ _ _, x :: xs, h, _, _ => by simp [ckEs] at h
  | .tup _, x :: xs, h, _, _ => by simp [ckEs] at h
  | .lst _, x :: xs, h, _, _ => by simp [ckEs] at h
  | .sub _ _, x :: xs, h, _, _ => by simp [ckEs] at h
  | .cut _ _ _, x :: xs, h, _, _ => by simp [ckEs] at h
  | .call _ _, x :: xs, h, _, _ => by simp [ckEs] at h
  | .bf _ _, x :: xs, h, _, _ => by simp [ckEs] at h
  | .bm _ _ _, x :: xs, h, _, _ => by simp [ckEs] at h
  | .isi _ _, x :: xs, h, _, _ => by simp [ckEs] at h
  | .lc _ _ _ _ _, x :: xs, h, _, _ => by simp [ckEs] at h
  | .fst _, x :: xs, h, _, _ => by simp [ckEs] at h
  | .fmt _, x :: xs, h, _, _ => by simp [ckEs] at h
  | .tru _, x :: xs, h, _, _ => by simp [ckEs] at h
  | .wlk _, x :: xs, h, _, _ => by simp [ckEs] at h
  | .rng _ _, x :: xs, h, _, _ => by simp [ckEs] at h
  | .enm _, x :: xs, h, _, _ => by simp [ckEs] at h
  | .rvs _, x :: xs, h, _, _ => by simp [ckEs] at h
theorem own_map (N : List Str) (vs : List Nat) : (ownOf N vs).map (·.2) = vs := by
  unfold ownOf
  rw [List.map_map]
  exact List.map_id vs
theorem takesF {X : Cx} : Takes X (fun _ _ _ _ => False) := fun _ _ x => by
  obtain ⟨_, _, _, _, _, _, _, _, _, _, _, _, _, _, _, _, z⟩ := x
  exact z.elim
/-- one name as a class -/
theorem ckTys_one {c : SC} {ts : List String} {x : Str} {p : Pos} (h : ckTys c ts [.Name x p] = true) : ∃ t, ts = [t] ∧ t ∈ tyOk ∧ c.isB x (tyNm t) = true := by
  cases ts with
  | nil => cases h
  | cons t ts =>
    simp only [ckTys, Bool.and_eq_true, decide_eq_true_eq, List.isEmpty_iff] at h
    exact ⟨t, by rw [h.2.2], h.1, h.2.1⟩
/-- names of classes as a tuple's items -/
theorem tys_ok {g : GK} {T : Tab} {k : Nat} {c : SC} {X : Cx} (x : XOk g T k c X) : ∀ {l : List Expr} {ts : List String}, ckTys c ts l = true → PA X l (fun _ H Q => Q (ts.map V.ty) H) ∧ (∀ t ∈ ts, t ∈ tyOk) ∧ ∀ e ∈ l, notStar e = true
  | [], ts, h => by
    cases ts with
    | nil => exact ⟨pa_imp pa_nil fun σ H Q q => q, by simp, by simp⟩
    | cons => cases h
  | e :: r, ts, h => by
    cases e with
    | Name y p =>
      cases ts with
      | nil => cases h
      | cons t ts =>
        simp only [ckTys, Bool.and_eq_true, decide_eq_true_eq] at h
        obtain ⟨h1, h2, h3⟩ := h
        obtain ⟨e1, hg, hm, hd, hn⟩ := x.isB h2
        obtain ⟨p1, p2, p3⟩ := tys_ok x h3
        refine ⟨pa_imp (pa_cons (pe_bltn (v := .ty t) hg hm (by rw [e1]; exact ty_boot h1) rfl hn hd) p1 rfl) fun σ H Q q => q, fun t' ht => ?_, fun e he => ?_⟩
        · rcases List.mem_cons.mp ht with rfl | ht
          · exact h1
          · exact p2 t' ht
        · rcases List.mem_cons.mp he with rfl | he
          · rfl
          · exact p3 e he
    | _ => simp [ckTys] at h
theorem cls_all : ∀ ts : List String, Paired ClsV (ts.map V.ty) (ts.map Value.type)
  | [] => .nil
  | t :: ts => .cons (.ty t) (cls_all ts)
theorem ckTys_len {c : SC} : ∀ {l : List Expr} {ts : List String}, ckTys c ts l = true → ts.length = l.length
  | [], ts, h => by
    cases ts with
    | nil => rfl
    | cons => cases h
  | e :: r, ts, h => by
    cases e with
    | Name y p =>
      cases ts with
      | nil => cases h
      | cons t ts =>
        simp only [ckTys, Bool.and_eq_true] at h
        simp [ckTys_len h.2.2]
    | _ => simp [ckTys] at h
theorem asB_is {g : GK} {W : WX} {μ : List Addr} {H : Hp} {p : D × Store} {P : Bool × Store → List Addr → Hp → Prop} (h : rdg g W μ H (asB p) P) : ∃ k, p.1 = .bl k ∧ rdg g W μ H (.ok (k, p.2)) P := by
  unfold asB at h
  split at h
  · rename_i k e; exact ⟨k, e, h⟩
  · exact h.elim
/-- a test by a comparison -/
theorem asB_ok {g : GK} {W : WX} {μ : List Addr} {H : Hp} {st : Store} {r : Res (D × Store)} {Q : Bool → Hp → Prop} (hs : RepSt g μ H st) (h : rdg g W μ H ((gcR st r).bind asB) (fun p _ H' => Q p.1 H')) :
    rdg g W μ H r (VP g fun x H' => ∃ k, x = .bl k ∧ Q k H') := by
  refine rdg_gc hs (rdg_and h fun p μ1 H1 s1 hs1 h1 v rv => ?_)
  obtain ⟨k, e, h2⟩ := asB_is h1
  rw [e] at rv
  cases rv
  exact ⟨k, rfl, rdg_ok hs1 h2⟩
section
variable {g : GK} {W : WX} {f1 f2 : Rho → Store → Res (D × Store)} {σ : L2.St} {H : Hp} {Q : VK}
/-- two operands, an operator -/
theorem tOp_ok {o : D → D → Store → Res (D × Store)} (n : ∀ x y st, NX (o x y st)) {ρ : Rho} {st : Store} {μ : List Addr} (hs : RepSt g μ H st) (hr : RepR g μ H ρ σ) (h : rdg g W μ H ((f1 ρ st).bind fun p => (f2 ρ p.2).bind fun q => o p.1 q.1 q.2) (VP g Q)) :
    tOp (rV2 g o) (tE g W f1) (tE g W f2) σ H Q := by
  refine ⟨ρ, st, μ, hs, hr, rdg_and h fun p μ1 H1 s1 hs1 h1 x rx => ?_⟩
  refine ⟨ρ, p.2, μ1, hs1, hr.step s1 hs, rdg_and h1 fun q μ2 H2 s2 hs2 h2 y ry => ?_⟩
  exact ⟨p.1, q.1, q.2, μ2, hs2, rx.step s2 hs1, ry, fin_of (n _ _ _) h2⟩
/-- a chain -/
theorem chain_ok {o1 o2 : Cm} {f3 : Rho → Store → Res (D × Store)} {ρ : Rho} {st : Store} {μ : List Addr} (hs : RepSt g μ H st) (hr : RepR g μ H ρ σ)
    (h : rdg g W μ H ((f1 ρ st).bind fun p => (f2 ρ p.2).bind fun q => (cmp2 o1 p.1 q.1 q.2).bind fun t => (match t.1 with
    | .bl true => (f3 ρ t.2).bind fun r => cmp2 o2 q.1 r.1 r.2
    | .bl false => .ok (.bl false, t.2)
    | _ => .stuck)) (VP g Q)) : tChain (rV2 g (cmp2 o1)) (rV2 g (cmp2 o2)) (tE g W f1) (tE g W f2) (tE g W f3) σ H Q := by
  refine ⟨ρ, st, μ, hs, hr, rdg_and h fun p μ1 H1 s1 hs1 h1 x rx => ?_⟩
  refine ⟨ρ, p.2, μ1, hs1, hr.step s1 hs, rdg_and h1 fun q μ2 H2 s2 hs2 h2 y ry => ?_⟩
  refine ⟨p.1, q.1, q.2, μ2, hs2, rx.step s2 hs1, ry, ?_⟩
  refine fin_of (nx_cmp2 _ _ _ _) (rdg_and h2 fun t μ3 H3 s3 hs3 h3 z rz => ?_)
  split at h3
  · rename_i e
    rw [e] at rz
    cases rz
    refine ⟨true, rfl, ?_⟩
    rw [if_pos rfl]
    refine ⟨ρ, t.2, μ3, hs3, ((hr.step s1 hs).step s2 hs1).step s3 hs2, rdg_and h3 fun r μ4 H4 s4 hs4 h4 w rw' => ?_⟩
    exact ⟨q.1, r.1, r.2, μ4, hs4, (ry.step s3 hs2).step s4 hs3, rw', fin_of (nx_cmp2 _ _ _ _) h4⟩
  · rename_i e
    rw [e] at rz
    cases rz
    refine ⟨false, rfl, ?_⟩
    rw [if_neg Bool.false_ne_true]
    exact rdg_ok hs3 h3 _ (.bl false)
  · exact h3.elim
end
theorem rep_str {g : GK} {μ : List Addr} {H : Hp} {y : Str} (h : (TL.tl y).length ≤ LN) : Rep g μ H (.str (TL.tl y)) (.str y) := by
  have := Rep.str (g := g) (μ := μ) (H := H) (TL.tl y) h
  rw [show (⟨(TL.tl y).toArray⟩ : Str) = y from stOf_tl y] at this
  exact this
theorem boot_range' : bootBuiltins "range" = some (.type "range") := by decide +kernel
theorem boot_isi : bootBuiltins "isinstance" = some (.builtin "isinstance") := by decide +kernel

mutual
theorem sE {g : GK} {T : Tab} {k : Nat} : ∀ (i : IE) {c : SC} {X : Cx} {W : WX} {e : Expr}, ckE c i e = true → XOk g T k c X → Takes X W → PE X e (tE g W (ev (run T k) i))
  | .var i, c, X, W, e, h, x, tk => by
    unfold ckE at h
    split at h
    · rename_i y p
      simp only [Bool.and_eq_true, decide_eq_true_eq] at h
      obtain ⟨h1, h2, h3⟩ := h
      have n := nm_of h3
      refine pe_imp (pe_var (i := i) (by rw [x.N]; exact h1) (by rw [x.sc]; exact vis_of h2) n.1 n.2.1) fun σ H Q ⟨ρ, st, μ, hs, hr, q⟩ => ?_
      unfold ev at q
      split at q
      · rename_i d e1
        obtain ⟨v, e2, r⟩ := hr.2 i d e1
        exact ⟨v, e2, rdg_ok hs q v r⟩
      · exact q.elim
    · cases h
  | .cst d, c, X, W, e, h, x, tk => by
    unfold ckE at h
    split at h
    · rename_i kc j p
      cases d with
      | non =>
        cases kc with
        | none => exact pe_imp pe_non fun σ H Q ⟨ρ, st, μ, hs, hr, q⟩ => rdg_ok hs (show rdg g W μ H (.ok (D.non, st)) (VP g Q) from q) _ .non
        | _ => cases h
      | bl b =>
        cases kc with
        | bool b' =>
          have hb : b = b' := by simpa [ckD] using h
          subst hb
          exact pe_imp pe_bl fun σ H Q ⟨ρ, st, μ, hs, hr, q⟩ => rdg_ok hs (show rdg g W μ H (.ok (D.bl b, st)) (VP g Q) from q) _ (.bl b)
        | _ => cases h
      | int n =>
        cases kc with
        | int n' =>
          have hb : n = n' := by simpa [ckD] using h
          subst hb
          exact pe_imp pe_int fun σ H Q ⟨ρ, st, μ, hs, hr, q⟩ => rdg_ok hs (show rdg g W μ H (.ok (D.int n, st)) (VP g Q) from q) _ (.int n)
        | _ => cases h
      | str y =>
        cases kc with
        | str y' =>
          have hb : TL.tl y' = y ∧ y.length ≤ LN := by simpa [ckD] using h
          obtain ⟨rfl, hl⟩ := hb
          exact pe_imp pe_str fun σ H Q ⟨ρ, st, μ, hs, hr, q⟩ => rdg_ok hs (show rdg g W μ H (.ok (D.str _, st)) (VP g Q) from q) _ (rep_str hl)
        | _ => cases h
      | _ => cases kc <;> cases h
    · cases h
  | .glo y d, c, X, W, e, h, x, tk => by
    unfold ckE at h
    split at h
    · rename_i z p
      simp only [Bool.and_eq_true, decide_eq_true_eq] at h
      obtain ⟨rfl, h2, h3, h4⟩ := h
      have n := nm_of h4
      obtain ⟨u, v, hm, r, rp⟩ := x.gl _ _ h3
      exact pe_imp (pe_glob (x.glob h2) hm r n.1) fun σ H Q ⟨ρ, st, μ, hs, hr, q⟩ => rdg_ok hs (show rdg g W μ H (.ok (d, st)) (VP g Q) from q) v (rp _ _)
    · cases h
  | .op o a b, c, X, W, e, h, x, tk => by
    unfold ckE at h
    split at h
    · rename_i l p r pos
      simp only [Bool.and_eq_true, decide_eq_true_eq] at h
      obtain ⟨rfl, h2, h3⟩ := h
      refine pe_imp (pe_op (op2_ok x.K o) (sE a h2 x tk) (sE b h3 x tk)) fun σ H Q ⟨ρ, st, μ, hs, hr, q⟩ => ?_
      unfold ev at q
      exact tOp_ok (fun _ _ _ => nx_op2 _ _ _ _) hs hr q
    · cases h
  | .neg a, c, X, W, e, h, x, tk => by
    unfold ckE at h
    split at h
    · rename_i y pos
      refine pe_imp (pe_un un_neg (sE a h x tk)) fun σ H Q ⟨ρ, st, μ, hs, hr, q⟩ => ?_
      unfold ev at q
      refine ⟨ρ, st, μ, hs, hr, rdg_and q fun p μ1 H1 s1 hs1 h1 v rv => ?_⟩
      split at h1
      · rename_i j e1
        rw [e1] at rv
        cases rv
        exact ⟨j, rfl, rdg_ok hs1 h1 _ (.int _)⟩
      · exact h1.elim
    · cases h
  | .cmp o a b, c, X, W, e, h, x, tk => by
    unfold ckE at h
    split at h
    · rename_i l p r pos
      simp only [Bool.and_eq_true, decide_eq_true_eq, Bool.not_eq_true'] at h
      obtain ⟨rfl, h2, h3, h4⟩ := h
      refine pe_imp (pe_cmpR (cmp2_ok x.K x.un o) (sE a h3 x tk) (sE b h4 x tk) h2) fun σ H Q ⟨ρ, st, μ, hs, hr, q⟩ => ?_
      unfold ev at q
      exact tOp_ok (fun _ _ _ => nx_cmp2 _ _ _ _) hs hr q
    · cases h
  | .chain o1 o2 a b d, c, X, W, e, h, x, tk => by
    unfold ckE at h
    split at h
    · rename_i l p q' r t pos
      simp only [Bool.and_eq_true, decide_eq_true_eq, Bool.not_eq_true'] at h
      obtain ⟨rfl, rfl, h2, h3, h4, h5⟩ := h
      refine pe_imp (pe_chain (cmp2_ok x.K x.un o1) (cmp2_ok x.K x.un o2) (sE a h3 x tk) (sE b h4 x tk) (sE d h5 x tk) h2) fun σ H Q ⟨ρ, st, μ, hs, hr, q⟩ => ?_
      unfold ev at q
      exact chain_ok hs hr q
    · cases h
  | .and a b, c, X, W, e, h, x, tk => by
    unfold ckE at h
    have rd : ∀ σ H Q, tE g W (ev (run T k) (.and a b)) σ H Q → tAndV (tE g W (ev (run T k) a)) (tE g W (ev (run T k) b)) σ H Q := fun σ H Q ⟨ρ, st, μ, hs, hr, q⟩ => by
      unfold ev at q
      refine ⟨ρ, st, μ, hs, hr, rdg_and q fun p μ1 H1 s1 hs1 h1 v rv => ?_⟩
      split at h1
      · rename_i e1
        rw [e1] at rv
        cases rv
        exact ⟨true, rfl, by rw [if_pos rfl]; exact ⟨ρ, p.2, μ1, hs1, hr.step s1 hs, h1⟩⟩
      · rename_i e1
        rw [e1] at rv
        cases rv
        exact ⟨false, rfl, by rw [if_neg Bool.false_ne_true]; exact rdg_ok hs1 h1 _ (.bl false)⟩
      · exact h1.elim
    split at h
    · simp only [Bool.and_eq_true] at h
      exact pe_imp (pe_and (sE a h.1 x tk) (pe_one (sE b h.2 x tk))) rd
    · simp only [Bool.and_eq_true] at h
      exact pe_imp (pe_and (sE a h.1 x tk) (sE b h.2 x tk)) rd
    · cases h
  | .or a b, c, X, W, e, h, x, tk => by
    unfold ckE at h
    have rd : ∀ σ H Q, tE g W (ev (run T k) (.or a b)) σ H Q → tOrV (tE g W (ev (run T k) a)) (tE g W (ev (run T k) b)) σ H Q := fun σ H Q ⟨ρ, st, μ, hs, hr, q⟩ => by
      unfold ev at q
      refine ⟨ρ, st, μ, hs, hr, rdg_and q fun p μ1 H1 s1 hs1 h1 v rv => ?_⟩
      split at h1
      · rename_i e1
        rw [e1] at rv
        cases rv
        exact ⟨true, rfl, by rw [if_pos rfl]; exact rdg_ok hs1 h1 _ (.bl true)⟩
      · rename_i e1
        rw [e1] at rv
        cases rv
        exact ⟨false, rfl, by rw [if_neg Bool.false_ne_true]; exact ⟨ρ, p.2, μ1, hs1, hr.step s1 hs, h1⟩⟩
      · exact h1.elim
    split at h
    · simp only [Bool.and_eq_true] at h
      exact pe_imp (pe_or (sE a h.1 x tk) (pe_one (sE b h.2 x tk))) rd
    · simp only [Bool.and_eq_true] at h
      exact pe_imp (pe_or (sE a h.1 x tk) (sE b h.2 x tk)) rd
    · cases h
  | .not a, c, X, W, e, h, x, tk => by
    unfold ckE at h
    split at h
    · refine pe_imp (pe_not (sE a h x tk)) fun σ H Q ⟨ρ, st, μ, hs, hr, q⟩ => ?_
      unfold ev at q
      refine ⟨ρ, st, μ, hs, hr, rdg_and q fun p μ1 H1 s1 hs1 h1 v rv => ?_⟩
      split at h1
      · rename_i b e1
        rw [e1] at rv
        cases rv
        exact ⟨b, rfl, rdg_ok hs1 h1 _ (.bl _)⟩
      · exact h1.elim
    · cases h
  | .ite t a b, c, X, W, e, h, x, tk => by
    unfold ckE at h
    split at h
    · simp only [Bool.and_eq_true] at h
      obtain ⟨h1, h2, h3⟩ := h
      refine pe_imp (pe_ifExp (sT t h1 x tk).1 (sE a h2 x tk) (sE b h3 x tk)) fun σ H Q ⟨ρ, st, μ, hs, hr, q⟩ => ?_
      unfold ev at q
      refine ⟨ρ, st, μ, hs, hr, rdg_and q fun p μ1 H1 s1 hs1 h1 => ?_⟩
      split at h1
      · rename_i e1
        rw [if_pos e1]
        exact ⟨ρ, p.2, μ1, hs1, hr.step s1 hs, h1⟩
      · rename_i e1
        rw [if_neg e1]
        exact ⟨ρ, p.2, μ1, hs1, hr.step s1 hs, h1⟩
    · cases h
  | .tup es, c, X, W, e, h, x, tk => by
    unfold ckE at h
    split at h
    · refine pe_imp (pe_tup (sEs es h x tk)) fun σ H Q ⟨ρ, st, μ, hs, hr, q⟩ => ?_
      unfold ev at q
      exact ⟨ρ, st, μ, hs, hr, rdg_and q fun p μ1 H1 s1 hs1 h1 vs rv => fin_tup hs1 rv (fin_of (nx_need (nx_ok _)) h1)⟩
    · cases h
  | .lst es, c, X, W, e, h, x, tk => by
    unfold ckE at h
    split at h
    · refine pe_imp (pe_lst (sEs es h x tk)) fun σ H Q ⟨ρ, st, μ, hs, hr, q⟩ => ?_
      unfold ev at q
      exact ⟨ρ, st, μ, hs, hr, rdg_and q fun p μ1 H1 s1 hs1 h1 vs rv => fin_lst hs1 rv (fin_of (nx_need (nx_alloc _ _)) h1)⟩
    · cases h
  | .sub a b, c, X, W, e, h, x, tk => by
    unfold ckE at h
    split at h
    · simp only [Bool.and_eq_true] at h
      obtain ⟨h1, h2, h3⟩ := h
      refine pe_imp (pe_ix (sub_ok x.K) (sE a h2 x tk) (sE b h3 x tk) (plainIx_of h1)) fun σ H Q ⟨ρ, st, μ, hs, hr, q⟩ => ?_
      unfold ev at q
      exact tOp_ok (fun _ _ _ => nx_subD _ _ _) hs hr (rdg_gc hs q)
    · cases h
  | .cut a lo hi, c, X, W, e, h, x, tk => by
    unfold ckE at h
    split at h
    · simp only [Bool.and_eq_true] at h
      obtain ⟨h1, h2, h3⟩ := h
      refine pe_imp (pe_slice (cut_ok x.K) (sE a h1 x tk) (sO lo h2 x tk) (sO hi h3 x tk)) fun σ H Q ⟨ρ, st, μ, hs, hr, q⟩ => ?_
      unfold ev at q
      refine ⟨ρ, st, μ, hs, hr, rdg_and (rdg_gc hs q) fun p μ1 H1 s1 hs1 h1 v rv => ?_⟩
      refine ⟨ρ, p.2, μ1, hs1, hr.step s1 hs, rdg_and h1 fun l μ2 H2 s2 hs2 h2 => ?_⟩
      refine ⟨ρ, l.2, μ2, hs2, (hr.step s1 hs).step s2 hs1, rdg_and h2 fun u μ3 H3 s3 hs3 h3 => ?_⟩
      exact ⟨p.1, u.2, μ3, hs3, (rv.step s2 hs1).step s3 hs2, fin_of (nx_cutD _ _ _ _) h3⟩
    · cases h
  | .call f es, c, X, W, e, h, x, tk => by
    unfold ckE at h
    split at h
    · rename_i y p z zs pos
      simp only [Bool.and_eq_true, decide_eq_true_eq] at h
      obtain ⟨h1, h2, h3, h4⟩ := h
      have n := nm_of h3
      obtain ⟨fA, fd, ps, hm, hk, hb, F⟩ := x.defs f _ h1
      have hst := ckEs_star h4
      refine pe_imp (pe_callS (E := WE W) F x.room (x.glob h2) hm hk hb (fun σ => passAt tk σ) (sEs es h4 x tk) n.1 (star_cons (hst z List.mem_cons_self)) (plain_all fun w hw => hst w (List.mem_cons_of_mem _ hw))) fun σ H Q ⟨ρ, st, μ, hs, hr, q⟩ => ?_
      unfold ev at q
      refine ⟨ρ, st, μ, hs, hr, rdg_and q fun p μ1 H1 s1 hs1 h1 vs rv => ⟨p.1, p.2, μ1, hs1, rv, ?_⟩⟩
      cases er : run T k f p.1 p.2 with
      | ok w => rw [er] at h1; exact h1
      | stuck => rw [er] at h1; exact h1
      | exn y ρ2 st2 =>
        rw [er] at h1
        intro μ2 H2 σ2 s2 hs2 _ cls d hx
        exact h1 μ2 H2 σ s2 hs2 ((hr.step s1 hs).step s2 hs1) cls d hx
    · cases h
  | .bf b a, c, X, W, e, h, x, tk => by
    unfold ckE at h
    split at h
    · rename_i y p z pos
      simp only [Bool.and_eq_true] at h
      obtain ⟨e1, hg, hm, hd, hn⟩ := x.isB h.1
      have hst : ∀ w ∈ [z], notStar w = true := fun w hw => by
        rw [List.mem_singleton.mp hw]; exact ck_star h.2
      refine pe_imp (pe_callV (bf_kind b) (bf_ok x.K x.calm b) hg hm (by rw [e1]; exact bf_boot b) (pa_cons (sE a h.2 x tk) pa_nil (star_cons (ck_star h.2))) hn hd hst) fun σ H Q ⟨ρ, st, μ, hs, hr, q⟩ => ?_
      unfold ev at q
      refine ⟨ρ, st, μ, hs, hr, rdg_and (rdg_gc hs q) fun p μ1 H1 s1 hs1 h1 v rv => ?_⟩
      exact ⟨v, p.1, p.2, μ1, rfl, hs1, rv, fin_of (nx_bfD _ _ _) h1⟩
    · cases h
  | .bm b o a, c, X, W, e, h, x, tk => by
    unfold ckE at h
    split at h
    · rename_i y m p z pos
      simp only [Bool.and_eq_true, decide_eq_true_eq] at h
      obtain ⟨rfl, h2, h3, h4, h5⟩ := h
      have hst : ∀ w ∈ [z], notStar w = true := fun w hw => by
        rw [List.mem_singleton.mp hw]; exact ck_star h5
      have pso := sE o h4 x tk
      have psa := sE a h5 x tk
      have lst : ∀ {id : String} {nme : Str} (slot : Slot "list" nme id) (hty : typeOf (.builtin id) = pure (.type "method_descriptor")), id = bmId b → nme = bmNm b → (∀ d st, bmTy b d st = true → ∃ n ds, d = .ref n ∧ listAt st n = some ds) →
          PE X (.Call (.Attribute y (bmNm b) p) [z] [] pos) (tE g W (ev (run T k) (.bm b o a))) := fun {id nme} slot hty e1 e2 e3 => by
        subst e1 e2
        refine pe_imp (pe_bm PySem.F.plainAttrs_list slot hty (bm_ok x.K b) pso (pa_cons psa pa_nil (star_cons (ck_star h5))) (attr_of h2) ?_ h3 (star_cons (ck_star h5)) (plain_all (by simp))) fun σ H Q ⟨ρ, st, μ, hs, hr, q⟩ => ?_
        · rw [star_cons (ck_star h5)]; rfl
        · unfold ev at q
          refine ⟨ρ, st, μ, hs, hr, rdg_and (rdg_gc hs q) fun p μ1 H1 s1 hs1 h1 v rv => ?_⟩
          obtain ⟨ht, h1⟩ := rdg_need h1
          obtain ⟨n, ds, e4, e5⟩ := e3 _ _ ht
          have rv' := rv
          rw [e4] at rv'
          obtain ⟨A, vs, rfl, _, _, hA, _⟩ := rv'.cell hs1 e5
          refine ⟨.inl ⟨rfl, vs, SqL.of hA⟩, ρ, p.2, μ1, hs1, hr.step s1 hs, rdg_and h1 fun q μ2 H2 s2 hs2 h2 w rw' => ?_⟩
          exact ⟨w, p.1, q.1, q.2, μ2, rfl, hs2, rv.step s2 hs1, rw', fin_of (nx_bmD _ _ _ _) h2⟩
      have txt : ∀ {id : String} {nme : Str} (slot : Slot "str" nme id) (hty : typeOf (.builtin id) = pure (.type "method_descriptor")), id = bmId b → nme = bmNm b → (∀ d st, bmTy b d st = true → ∃ x, d = .str x) →
          PE X (.Call (.Attribute y (bmNm b) p) [z] [] pos) (tE g W (ev (run T k) (.bm b o a))) := fun {id nme} slot hty e1 e2 e3 => by
        subst e1 e2
        refine pe_imp (pe_m1 slot hty (bm_ok x.K b) pso psa (star_cons (ck_star h5)) (attr_of h2) h3) fun σ H Q ⟨ρ, st, μ, hs, hr, q⟩ => ?_
        unfold ev at q
        refine ⟨ρ, st, μ, hs, hr, rdg_and (rdg_gc hs q) fun p μ1 H1 s1 hs1 h1 v rv => ?_⟩
        obtain ⟨ht, h1⟩ := rdg_need h1
        obtain ⟨n, e4⟩ := e3 _ _ ht
        have rv' := rv
        rw [e4] at rv'
        cases rv'
        refine ⟨⟨_, rfl⟩, ρ, p.2, μ1, hs1, hr.step s1 hs, rdg_and h1 fun q μ2 H2 s2 hs2 h2 w rw' => ?_⟩
        exact ⟨w, p.1, q.1, q.2, μ2, rfl, hs2, rv.step s2 hs1, rw', fin_of (nx_bmD _ _ _ _) h2⟩
      cases b with
      | append => exact lst PySem.F.slot_list_append PySem.F.type_list_append rfl rfl (fun d st ht => by
          cases d with
          | ref n =>
            obtain ⟨ds, e⟩ := Option.isSome_iff_exists.mp (show (listAt st n).isSome = true from ht)
            exact ⟨n, ds, rfl, e⟩
          | _ => cases ht)
      | extend => exact lst PySem.F.slot_list_extend PySem.F.type_list_extend rfl rfl (fun d st ht => by
          cases d with
          | ref n =>
            obtain ⟨ds, e⟩ := Option.isSome_iff_exists.mp (show (listAt st n).isSome = true from ht)
            exact ⟨n, ds, rfl, e⟩
          | _ => cases ht)
      | join => exact txt PySem.F.slot_str_join PySem.F.type_str_join rfl rfl (fun d st ht => by cases d <;> first | exact ⟨_, rfl⟩ | cases ht)
      | split => exact txt PySem.F.slot_str_split PySem.F.type_str_split rfl rfl (fun d st ht => by cases d <;> first | exact ⟨_, rfl⟩ | cases ht)
      | startswith => exact txt PySem.F.slot_str_startswith PySem.F.type_str_startswith rfl rfl (fun d st ht => by cases d <;> first | exact ⟨_, rfl⟩ | cases ht)
      | partition => exact txt PySem.F.slot_str_partition PySem.F.type_str_partition rfl rfl (fun d st ht => by cases d <;> first | exact ⟨_, rfl⟩ | cases ht)
    · cases h
  | .isi a ts, c, X, W, e, h, x, tk => by
    unfold ckE at h
    split at h
    · rename_i y p z t p2 pos
      simp only [Bool.and_eq_true] at h
      obtain ⟨h1, h2, h3⟩ := h
      obtain ⟨e1, hg, hm, hd, hn⟩ := x.isB h1
      obtain ⟨t0, rfl, ht0, hb⟩ := ckTys_one h2
      obtain ⟨p1, _, p3⟩ := tys_ok x h2
      have hst : ∀ w ∈ [z, .Name t p2], notStar w = true := fun w hw => by
        rcases List.mem_cons.mp hw with rfl | hw
        · exact ck_star h3
        · exact p3 w hw
      refine pe_imp (pe_callV (.inl ⟨_, rfl⟩) call_isi hg hm (by rw [e1]; exact boot_isi) (pa_cons (sE a h3 x tk) p1 (star_cons (ck_star h3))) hn hd hst) fun σ H Q ⟨ρ, st, μ, hs, hr, q⟩ => ?_
      unfold ev at q
      refine ⟨ρ, st, μ, hs, hr, rdg_and q fun p μ1 H1 s1 hs1 h1 v rv => ?_⟩
      split at h1
      · rename_i t e2
        obtain ⟨ty, hty⟩ := type_of hs1 rv e2
        rw [← x.K] at ty
        refine ⟨v, .ty t0, .type t, .type t0, isTy t t0, rfl, .ty _, ty, kit_ty (kit_is t t0 hty ht0), ?_⟩
        have := rdg_ok hs1 h1 _ (.bl _)
        simpa using this
      · exact h1.elim
    · rename_i y p z l n p2 pos
      simp only [Bool.and_eq_true] at h
      obtain ⟨h1, h2, h3, h4, h5⟩ := h
      obtain ⟨e1, hg, hm, hd, hn⟩ := x.isB h1
      obtain ⟨p1, p2', p3⟩ := tys_ok x h4
      have hst : ∀ w ∈ [z, .Tuple l n p2], notStar w = true := fun w hw => by
        rcases List.mem_cons.mp hw with rfl | hw
        · exact ck_star h5
        · rw [List.mem_singleton.mp hw]; rfl
      refine pe_imp (pe_callV (.inl ⟨_, rfl⟩) call_isiT hg hm (by rw [e1]; exact boot_isi) (pa_cons (sE a h5 x tk) (pa_cons (pe_tup p1) pa_nil rfl) (star_cons (ck_star h5))) hn hd hst) fun σ H Q ⟨ρ, st, μ, hs, hr, q⟩ => ?_
      unfold ev at q
      refine ⟨ρ, st, μ, hs, hr, rdg_and q fun p μ1 H1 s1 hs1 h1 v rv => ?_⟩
      split at h1
      · rename_i t e2
        refine ⟨?_, fun A hA => ?_⟩
        · have hl : ts.length ≤ 60 := by
            have := ckTys_len h4
            rw [this]; exact of_decide_eq_true h3
          rw [List.length_map, ln_eq]
          exact Nat.le_trans hl (by decide)
        · have sA : Stp μ1 H1 μ1 (upd H1 A (.tup (ts.map V.ty))) := .laid hA
          have hs2 : RepSt g μ1 (upd H1 A (.tup (ts.map V.ty))) p.2 := hs1.laid hA
          obtain ⟨ty, hty⟩ := type_of hs2 (rv.step sA hs1) e2
          rw [← x.K] at ty
          refine ⟨v, A, ts.map V.ty, .type t, ts.map Value.type, ts.any (isTy t), rfl, upd_same, cls_all ts, ty, kit_any hty p2', ?_⟩
          exact h1 μ1 _ sA hs2 _ (.bl _)
      · exact h1.elim
    · cases h
  | .lc vs G it cond elt, c, X, W, e, h, x, tk => by
    unfold ckE at h
    split at h
    · rename_i y tg iter ifs scope pos
      simp only [Bool.and_eq_true] at h
      obtain ⟨⟨h1, h2, h3⟩, h4, h5, h6, h7⟩ := h
      have ok : BlkOk X.N X.env.scope scope (ownOf c.N vs) := blkOk_by (by rw [x.N, x.sc]; exact h1)
      refine pe_imp (pe_lc x.calm (x.N ▸ x.nd) (sI it h4 x tk tg) ok (fun s H C cl fp => target_ok (x.blk ok s H C cl fp) h5) (fun s H C cl fp => sC cond h6 (x.blk ok s H C cl fp) takesF) (fun s H C cl fp => sE elt h7 (x.blk ok s H C cl fp) takesF) (fold_of h2)) fun σ H Q ⟨ρ, st, μ, hs, hr, q⟩ => ?_
      rw [own_map]
      unfold ev at q
      exact lc_ok h3 ⟨ρ, st, μ, hs, hr, q⟩
    · cases h
  | .fst es, c, X, W, e, h, x, tk => by
    unfold ckE at h
    split at h
    · obtain ⟨ts, pj, k1⟩ := sF es h x tk
      refine pe_imp (pe_joined pj) fun σ H Q ⟨ρ, st, μ, hs, hr, q⟩ => ?_
      unfold ev at q
      exact k1 [] σ H Q (Nat.zero_le _) ⟨ρ, st, μ, hs, hr, q⟩
    · cases h
  | .fmt a, c, X, W, e, h, x, tk => by
    unfold ckE at h
    split at h
    · simp only [Bool.and_eq_true, decide_eq_true_eq] at h
      obtain ⟨rfl, h2⟩ := h
      refine pe_imp (pe_fmt (sE a h2 x tk)) fun σ H Q ⟨ρ, st, μ, hs, hr, q⟩ => ?_
      unfold ev at q
      refine ⟨ρ, st, μ, hs, hr, rdg_and q fun p μ1 H1 s1 hs1 h1 v rv => ?_⟩
      unfold fmtD at h1
      split at h1
      · rename_i y e1
        rw [e1] at rv
        cases rv
        rename_i hl
        refine .inl ⟨_, rfl, by rw [ln_eq]; simpa [Str.length] using hl, rdg_ok hs1 h1 _ (.str _ hl)⟩
      · rename_i j e1
        rw [e1] at rv
        cases rv
        obtain ⟨h2, h3⟩ := rdg_need h1
        have h2 := of_decide_eq_true h2
        refine .inr ⟨j, rfl, h2, ?_⟩
        have := rdg_ok hs1 h3 _ (.str (numT j) (fmt_len h2))
        have e3 : (⟨(numT j).toArray⟩ : Str) = Str.ofString (toString j) := stOf_tl _
        rw [e3] at this
        exact this
      · exact h1.elim
    · cases h
  | .rng a b, c, X, W, e, h, x, tk => by simp [ckE] at h
  | .wlk a, c, X, W, e, h, x, tk => by simp [ckE] at h
  | .enm a, c, X, W, e, h, x, tk => by simp [ckE] at h
  | .rvs a, c, X, W, e, h, x, tk => by simp [ckE] at h
  | .tru a, c, X, W, e, h, x, tk => by simp [ckE] at h
  | .nil, c, X, W, e, h, x, tk => by simp [ckE] at h
  | .cons a r, c, X, W, e, h, x, tk => by simp [ckE] at h
theorem sEs {g : GK} {T : Tab} {k : Nat} : ∀ (i : IE) {c : SC} {X : Cx} {W : WX} {l : List Expr}, ckEs c i l = true → XOk g T k c X → Takes X W → PA X l (tA g W (evs (run T k) i))
  | .nil, c, X, W, l, h, x, tk => by
    unfold ckEs at h
    split at h
    · exact pa_imp pa_nil fun σ H Q ⟨ρ, st, μ, hs, hr, q⟩ => rdg_ok hs (show rdg g W μ H (.ok (([] : List D), st)) _ from q) [] .nil
    · cases h
  | .cons a r, c, X, W, l, h, x, tk => by
    unfold ckEs at h
    split at h
    · simp only [Bool.and_eq_true] at h
      obtain ⟨h1, h2, h3⟩ := h
      refine pa_imp (pa_cons (sE a h2 x tk) (sEs r h3 x tk) (star_cons h1)) fun σ H Q ⟨ρ, st, μ, hs, hr, q⟩ => ?_
      unfold evs at q
      refine ⟨ρ, st, μ, hs, hr, rdg_and q fun p μ1 H1 s1 hs1 h1 v rv => ?_⟩
      refine ⟨ρ, p.2, μ1, hs1, hr.step s1 hs, rdg_and h1 fun q μ2 H2 s2 hs2 h2 vs rvs => ?_⟩
      exact rdg_ok hs2 h2 (v :: vs) (.cons (rv.step s2 hs1) rvs)
    · cases h
  | .var _, c, X, W, l, h, x, tk => by simp [ckEs] at h
  | .cst _, c, X, W, l, h, x, tk => by simp [ckEs] at h
  | .glo _ _, c, X, W, l, h, x, tk => by simp [ckEs] at h
  | .op _ _ _, c, X, W, l, h, x, tk => by simp [ckEs] at h
  | .neg _, c, X, W, l, h, x, tk => by simp [ckEs] at h
  | .cmp _ _ _, c, X, W, l, h, x, tk => by simp [ckEs] at h
  | .chain _ _ _ _ _, c, X, W, l, h, x, tk => by simp [ckEs] at h
  | .and _ _, c, X, W, l, h, x, tk => by simp [ckEs] at h
  | .or _ _, c, X, W, l, h, x, tk => by simp [ckEs] at h
  | .not _, c, X, W, l, h, x, tk => by simp [ckEs] at h
  | .ite _ _ _, c, X, W, l, h, x, tk => by simp [ckEs] at h
  | .tup _, c, X, W, l, h, x, tk => by simp [ckEs] at h
  | .lst _, c, X, W, l, h, x, tk => by simp [ckEs] at h
  | .sub _ _, c, X, W, l, h, x, tk => by simp [ckEs] at h
  | .cut _ _ _, c, X, W, l, h, x, tk => by simp [ckEs] at h
  | .call _ _, c, X, W, l, h, x, tk => by simp [ckEs] at h
  | .bf _ _, c, X, W, l, h, x, tk => by simp [ckEs] at h
  | .bm _ _ _, c, X, W, l, h, x, tk => by simp [ckEs] at h
  | .isi _ _, c, X, W, l, h, x, tk => by simp [ckEs] at h
  | .lc _ _ _ _ _, c, X, W, l, h, x, tk => by simp [ckEs] at h
  | .fst _, c, X, W, l, h, x, tk => by simp [ckEs] at h
  | .fmt _, c, X, W, l, h, x, tk => by simp [ckEs] at h
  | .tru _, c, X, W, l, h, x, tk => by simp [ckEs] at h
  | .wlk _, c, X, W, l, h, x, tk => by simp [ckEs] at h
  | .rng _ _, c, X, W, l, h, x, tk => by simp [ckEs] at h
  | .enm _, c, X, W, l, h, x, tk => by simp [ckEs] at h
  | .rvs _, c, X, W, l, h, x, tk => by simp [ckEs] at h
theorem sF {g : GK} {T : Tab} {k : Nat} : ∀ (i : IE) {c : SC} {X : Cx} {W : WX} {l : List Expr}, ckEs c i l = true → XOk g T k c X → Takes X W →
    ∃ ts, PJ X l ts ∧ ∀ (acc : List Nat) (σ : L2.St) (H : Hp) (Q : VK), acc.length ≤ LN → tE g W (evf (run T k) i acc) σ H Q → tJs ts (stOf acc) σ H (fun out H1 => Q (.str out) H1)
  | .nil, c, X, W, l, h, x, tk => by
    unfold ckEs at h
    split at h
    · refine ⟨[], .nil, fun acc σ H Q hl ⟨ρ, st, μ, hs, hr, q⟩ => ?_⟩
      exact rdg_ok hs (show rdg g W μ H (.ok (D.str acc, st)) (VP g Q) from q) _ (.str acc hl)
    · cases h
  | .cons a r, c, X, W, l, h, x, tk => by
    unfold ckEs at h
    split at h
    · simp only [Bool.and_eq_true] at h
      obtain ⟨h1, h2, h3⟩ := h
      obtain ⟨ts, pj, k1⟩ := sF r h3 x tk
      refine ⟨_, .cons (sE a h2 x tk) pj, fun acc σ H Q hl ⟨ρ, st, μ, hs, hr, q⟩ => ?_⟩
      unfold evf at q
      refine ⟨ρ, st, μ, hs, hr, rdg_and q fun p μ1 H1 s1 hs1 h1 v rv => ?_⟩
      split at h1
      · rename_i y e1
        rw [e1] at rv
        cases rv
        obtain ⟨h2, h3⟩ := rdg_need h1
        have h2 := of_decide_eq_true h2
        have e2 : stOf acc ++ (⟨y.toArray⟩ : Str) = stOf (acc ++ y) := str_app acc y
        refine ⟨_, rfl, ?_, ?_⟩
        · rw [e2, ln_eq]
          have : (stOf (acc ++ y)).length = (acc ++ y).length := str_len _
          rw [this, List.length_append]
          exact h2
        · rw [e2]
          exact k1 (acc ++ y) σ H1 Q (by rw [List.length_append]; exact h2) ⟨ρ, p.2, μ1, hs1, hr.step s1 hs, h3⟩
      · exact h1.elim
    · cases h
  | .var _, c, X, W, l, h, x, tk => by simp [ckEs] at h
  | .cst _, c, X, W, l, h, x, tk => by simp [ckEs] at h
  | .glo _ _, c, X, W, l, h, x, tk => by simp [ckEs] at h
  | .op _ _ _, c, X, W, l, h, x, tk => by simp [ckEs] at h
  | .neg _, c, X, W, l, h, x, tk => by simp [ckEs] at h
  | .cmp _ _ _, c, X, W, l, h, x, tk => by simp [ckEs] at h
  | .chain _ _ _ _ _, c, X, W, l, h, x, tk => by simp [ckEs] at h
  | .and _ _, c, X, W, l, h, x, tk => by simp [ckEs] at h
  | .or _ _, c, X, W, l, h, x, tk => by simp [ckEs] at h
  | .not _, c, X, W, l, h, x, tk => by simp [ckEs] at h
  | .ite _ _ _, c, X, W, l, h, x, tk => by simp [ckEs] at h
  | .tup _, c, X, W, l, h, x, tk => by simp [ckEs] at h
  | .lst _, c, X, W, l, h, x, tk => by simp [ckEs] at h
  | .sub _ _, c, X, W, l, h, x, tk => by simp [ckEs] at h
  | .cut _ _ _, c, X, W, l, h, x, tk => by simp [ckEs] at h
  | .call _ _, c, X, W, l, h, x, tk => by simp [ckEs] at h
  | .bf _ _, c, X, W, l, h, x, tk => by simp [ckEs] at h
  | .bm _ _ _, c, X, W, l, h, x, tk => by simp [ckEs] at h
  | .isi _ _, c, X, W, l, h, x, tk => by simp [ckEs] at h
  | .lc _ _ _ _ _, c, X, W, l, h, x, tk => by simp [ckEs] at h
  | .fst _, c, X, W, l, h, x, tk => by simp [ckEs] at h
  | .fmt _, c, X, W, l, h, x, tk => by simp [ckEs] at h
  | .tru _, c, X, W, l, h, x, tk => by simp [ckEs] at h
  | .wlk _, c, X, W, l, h, x, tk => by simp [ckEs] at h
  | .rng _ _, c, X, W, l, h, x, tk => by simp [ckEs] at h
  | .enm _, c, X, W, l, h, x, tk => by simp [ckEs] at h
  | .rvs _, c, X, W, l, h, x, tk => by simp [ckEs] at h
theorem sO {g : GK} {T : Tab} {k : Nat} : ∀ (i : IE) {c : SC} {X : Cx} {W : WX} {o : Option Expr}, ckO c i o = true → XOk g T k c X → Takes X W → PO X o (tO g W (evo (run T k) i))
  | .nil, c, X, W, o, h, x, tk => by
    unfold ckO at h
    split at h
    · exact po_imp po_none fun σ H Q ⟨ρ, st, μ, hs, hr, q⟩ => rdg_ok hs (show rdg g W μ H (.ok ((none : Option Int), st)) _ from q)
    · cases h
  | .cons a r, c, X, W, o, h, x, tk => by
    cases r with
    | nil =>
      unfold ckO at h
      split at h
      · refine po_imp (po_some (sE a h x tk)) fun σ H Q ⟨ρ, st, μ, hs, hr, q⟩ => ?_
        unfold evo at q
        refine ⟨ρ, st, μ, hs, hr, rdg_and q fun p μ1 H1 s1 hs1 h1 v rv => ?_⟩
        split at h1
        · rename_i j e1
          rw [e1] at rv
          cases rv
          exact ⟨j, rfl, rdg_ok hs1 h1⟩
        · exact h1.elim
      · cases h
    | _ => simp [ckO] at h
  | .var _, c, X, W, l, h, x, tk => by simp [ckO] at h
  | .cst _, c, X, W, l, h, x, tk => by simp [ckO] at h
  | .glo _ _, c, X, W, l, h, x, tk => by simp [ckO] at h
  | .op _ _ _, c, X, W, l, h, x, tk => by simp [ckO] at h
  | .neg _, c, X, W, l, h, x, tk => by simp [ckO] at h
  | .cmp _ _ _, c, X, W, l, h, x, tk => by simp [ckO] at h
  | .chain _ _ _ _ _, c, X, W, l, h, x, tk => by simp [ckO] at h
  | .and _ _, c, X, W, l, h, x, tk => by simp [ckO] at h
  | .or _ _, c, X, W, l, h, x, tk => by simp [ckO] at h
  | .not _, c, X, W, l, h, x, tk => by simp [ckO] at h
  | .ite _ _ _, c, X, W, l, h, x, tk => by simp [ckO] at h
  | .tup _, c, X, W, l, h, x, tk => by simp [ckO] at h
  | .lst _, c, X, W, l, h, x, tk => by simp [ckO] at h
  | .sub _ _, c, X, W, l, h, x, tk => by simp [ckO] at h
  | .cut _ _ _, c, X, W, l, h, x, tk => by simp [ckO] at h
  | .call _ _, c, X, W, l, h, x, tk => by simp [ckO] at h
  | .bf _ _, c, X, W, l, h, x, tk => by simp [ckO] at h
  | .bm _ _ _, c, X, W, l, h, x, tk => by simp [ckO] at h
  | .isi _ _, c, X, W, l, h, x, tk => by simp [ckO] at h
  | .lc _ _ _ _ _, c, X, W, l, h, x, tk => by simp [ckO] at h
  | .fst _, c, X, W, l, h, x, tk => by simp [ckO] at h
  | .fmt _, c, X, W, l, h, x, tk => by simp [ckO] at h
  | .tru _, c, X, W, l, h, x, tk => by simp [ckO] at h
  | .wlk _, c, X, W, l, h, x, tk => by simp [ckO] at h
  | .rng _ _, c, X, W, l, h, x, tk => by simp [ckO] at h
  | .enm _, c, X, W, l, h, x, tk => by simp [ckO] at h
  | .rvs _, c, X, W, l, h, x, tk => by simp [ckO] at h
theorem sT {g : GK} {T : Tab} {k : Nat} : ∀ (i : IE) {c : SC} {X : Cx} {W : WX} {e : Expr}, ckT c i e = true → XOk g T k c X → Takes X W → PT X e (tT g W (evt (run T k) i)) ∧ ((∃ op l p, e = .BoolOp op l p) → PW X e (tT g W (evt (run T k) i)))
  | .and a b, c, X, W, e, h, x, tk => by
    unfold ckT at h
    have rd : ∀ σ H Q, tT g W (evt (run T k) (.and a b)) σ H Q → tAnd (tT g W (evt (run T k) a)) (tT g W (evt (run T k) b)) σ H Q := fun σ H Q ⟨ρ, st, μ, hs, hr, q⟩ => by
      unfold evt at q
      refine ⟨ρ, st, μ, hs, hr, rdg_and q fun p μ1 H1 s1 hs1 h1 => ?_⟩
      split at h1
      · rename_i e1
        rw [if_pos e1]
        exact ⟨ρ, p.2, μ1, hs1, hr.step s1 hs, h1⟩
      · rename_i e1
        rw [if_neg e1]
        exact rdg_ok hs1 h1
    have go : PW X e (tT g W (evt (run T k) (.and a b))) → PT X e (tT g W (evt (run T k) (.and a b))) ∧ ((∃ op l p, e = .BoolOp op l p) → PW X e (tT g W (evt (run T k) (.and a b)))) := fun r => ⟨r.pt, fun _ => r⟩
    split at h
    · simp only [Bool.and_eq_true] at h
      exact go (pw_imp (pw_and (sT a h.1 x tk).1 (pw_and1 (sT b h.2 x tk).1)) rd)
    · simp only [Bool.and_eq_true] at h
      exact go (pw_imp (pw_and (sT a h.1 x tk).1 ((sT b h.2 x tk).2 ⟨_, _, _, rfl⟩)) rd)
    · cases h
  | .or a b, c, X, W, e, h, x, tk => by
    unfold ckT at h
    have rd : ∀ σ H Q, tT g W (evt (run T k) (.or a b)) σ H Q → L2.tOr (tT g W (evt (run T k) a)) (tT g W (evt (run T k) b)) σ H Q := fun σ H Q ⟨ρ, st, μ, hs, hr, q⟩ => by
      unfold evt at q
      refine ⟨ρ, st, μ, hs, hr, rdg_and q fun p μ1 H1 s1 hs1 h1 => ?_⟩
      split at h1
      · rename_i e1
        rw [if_pos e1]
        exact rdg_ok hs1 h1
      · rename_i e1
        rw [if_neg e1]
        exact ⟨ρ, p.2, μ1, hs1, hr.step s1 hs, h1⟩
    have go : PW X e (tT g W (evt (run T k) (.or a b))) → PT X e (tT g W (evt (run T k) (.or a b))) ∧ ((∃ op l p, e = .BoolOp op l p) → PW X e (tT g W (evt (run T k) (.or a b)))) := fun r => ⟨r.pt, fun _ => r⟩
    split at h
    · simp only [Bool.and_eq_true] at h
      exact go (pw_imp (pw_or (sT a h.1 x tk).1 (pw_or1 (sT b h.2 x tk).1)) rd)
    · simp only [Bool.and_eq_true] at h
      exact go (pw_imp (pw_or (sT a h.1 x tk).1 ((sT b h.2 x tk).2 ⟨_, _, _, rfl⟩)) rd)
    · cases h
  | .not a, c, X, W, e, h, x, tk => by
    unfold ckT at h
    split at h
    · refine ⟨pt_imp (pt_not (sT a h x tk).1) fun σ H Q ⟨ρ, st, μ, hs, hr, q⟩ => ?_, fun ⟨_, _, _, z⟩ => by cases z⟩
      unfold evt at q
      exact ⟨ρ, st, μ, hs, hr, rdg_and q fun p μ1 H1 s1 hs1 h1 => rdg_ok hs1 h1⟩
    · cases h
  | .cmp o a b, c, X, W, e, h, x, tk => by
    unfold ckT at h
    split at h
    · rename_i l p r pos
      simp only [Bool.and_eq_true, decide_eq_true_eq, Bool.not_eq_true'] at h
      obtain ⟨rfl, h2, h3, h4⟩ := h
      refine ⟨pt_imp (pt_cmpR (cmp2_ok x.K x.un o) (sE a h3 x tk) (sE b h4 x tk) h2) fun σ H Q ⟨ρ, st, μ, hs, hr, q⟩ => ?_, fun ⟨_, _, _, z⟩ => by cases z⟩
      unfold evt at q
      exact tOp_ok (fun _ _ _ => nx_cmp2 _ _ _ _) hs hr (asB_ok hs q)
    · cases h
  | .chain o1 o2 a b d, c, X, W, e, h, x, tk => by
    unfold ckT at h
    split at h
    · rename_i l p q' r t pos
      simp only [Bool.and_eq_true, decide_eq_true_eq, Bool.not_eq_true'] at h
      obtain ⟨rfl, rfl, h2, h3, h4, h5⟩ := h
      refine ⟨pt_imp (pt_chain (cmp2_ok x.K x.un o1) (cmp2_ok x.K x.un o2) (sE a h3 x tk) (sE b h4 x tk) (sE d h5 x tk) h2) fun σ H Q ⟨ρ, st, μ, hs, hr, q⟩ => ?_, fun ⟨_, _, _, z⟩ => by cases z⟩
      unfold evt at q
      exact chain_ok hs hr (asB_ok hs q)
    · cases h
  | .tru a, c, X, W, e, h, x, tk => by
    unfold ckT at h
    simp only [Bool.and_eq_true] at h
    refine ⟨pt_imp (pt_tru (sE a h.1 x tk) (truth_ok x.K) (true_of h.2)) fun σ H Q ⟨ρ, st, μ, hs, hr, q⟩ => ?_, fun ⟨_, _, _, z⟩ => by subst z; cases h.2⟩
    unfold evt at q
    refine ⟨ρ, st, μ, hs, hr, rdg_gc hs (rdg_and q fun p μ1 H1 s1 hs1 h1 v rv => ?_)⟩
    split at h1
    · rename_i b e1
      exact ⟨p.1, p.2, μ1, b, hs1, rv, e1, rdg_ok hs1 h1⟩
    · exact h1.elim
  | .var _, c, X, W, l, h, x, tk => by simp [ckT] at h
  | .cst _, c, X, W, l, h, x, tk => by simp [ckT] at h
  | .glo _ _, c, X, W, l, h, x, tk => by simp [ckT] at h
  | .op _ _ _, c, X, W, l, h, x, tk => by simp [ckT] at h
  | .neg _, c, X, W, l, h, x, tk => by simp [ckT] at h
  | .ite _ _ _, c, X, W, l, h, x, tk => by simp [ckT] at h
  | .tup _, c, X, W, l, h, x, tk => by simp [ckT] at h
  | .lst _, c, X, W, l, h, x, tk => by simp [ckT] at h
  | .sub _ _, c, X, W, l, h, x, tk => by simp [ckT] at h
  | .cut _ _ _, c, X, W, l, h, x, tk => by simp [ckT] at h
  | .call _ _, c, X, W, l, h, x, tk => by simp [ckT] at h
  | .bf _ _, c, X, W, l, h, x, tk => by simp [ckT] at h
  | .bm _ _ _, c, X, W, l, h, x, tk => by simp [ckT] at h
  | .isi _ _, c, X, W, l, h, x, tk => by simp [ckT] at h
  | .lc _ _ _ _ _, c, X, W, l, h, x, tk => by simp [ckT] at h
  | .fst _, c, X, W, l, h, x, tk => by simp [ckT] at h
  | .fmt _, c, X, W, l, h, x, tk => by simp [ckT] at h
  | .wlk _, c, X, W, l, h, x, tk => by simp [ckT] at h
  | .rng _ _, c, X, W, l, h, x, tk => by simp [ckT] at h
  | .enm _, c, X, W, l, h, x, tk => by simp [ckT] at h
  | .rvs _, c, X, W, l, h, x, tk => by simp [ckT] at h
  | .nil, c, X, W, l, h, x, tk => by simp [ckT] at h
  | .cons _ _, c, X, W, l, h, x, tk => by simp [ckT] at h
theorem sC {g : GK} {T : Tab} {k : Nat} : ∀ (i : IE) {c : SC} {X : Cx} {W : WX} {l : List Expr}, ckC c i l = true → XOk g T k c X → Takes X W → PTs X l (tT g W (evc (run T k) i))
  | .nil, c, X, W, l, h, x, tk => by
    unfold ckC at h
    split at h
    · exact pts_imp pts_nil fun σ H Q ⟨ρ, st, μ, hs, hr, q⟩ => rdg_ok hs (show rdg g W μ H (.ok (true, st)) _ from q)
    · cases h
  | .cons a r, c, X, W, l, h, x, tk => by
    cases r with
    | nil =>
      unfold ckC at h
      split at h
      · exact pts_imp (pts_one (sT a h x tk).1) fun σ H Q q => by
          obtain ⟨ρ, st, μ, hs, hr, q⟩ := q
          unfold evc at q
          exact ⟨ρ, st, μ, hs, hr, q⟩
      · cases h
    | _ => simp [ckC] at h
  | .var _, c, X, W, l, h, x, tk => by simp [ckC] at h
  | .cst _, c, X, W, l, h, x, tk => by simp [ckC] at h
  | .glo _ _, c, X, W, l, h, x, tk => by simp [ckC] at h
  | .op _ _ _, c, X, W, l, h, x, tk => by simp [ckC] at h
  | .neg _, c, X, W, l, h, x, tk => by simp [ckC] at h
  | .cmp _ _ _, c, X, W, l, h, x, tk => by simp [ckC] at h
  | .chain _ _ _ _ _, c, X, W, l, h, x, tk => by simp [ckC] at h
  | .and _ _, c, X, W, l, h, x, tk => by simp [ckC] at h
  | .or _ _, c, X, W, l, h, x, tk => by simp [ckC] at h
  | .not _, c, X, W, l, h, x, tk => by simp [ckC] at h
  | .ite _ _ _, c, X, W, l, h, x, tk => by simp [ckC] at h
  | .tup _, c, X, W, l, h, x, tk => by simp [ckC] at h
  | .lst _, c, X, W, l, h, x, tk => by simp [ckC] at h
  | .sub _ _, c, X, W, l, h, x, tk => by simp [ckC] at h
  | .cut _ _ _, c, X, W, l, h, x, tk => by simp [ckC] at h
  | .call _ _, c, X, W, l, h, x, tk => by simp [ckC] at h
  | .bf _ _, c, X, W, l, h, x, tk => by simp [ckC] at h
  | .bm _ _ _, c, X, W, l, h, x, tk => by simp [ckC] at h
  | .isi _ _, c, X, W, l, h, x, tk => by simp [ckC] at h
  | .lc _ _ _ _ _, c, X, W, l, h, x, tk => by simp [ckC] at h
  | .fst _, c, X, W, l, h, x, tk => by simp [ckC] at h
  | .fmt _, c, X, W, l, h, x, tk => by simp [ckC] at h
  | .tru _, c, X, W, l, h, x, tk => by simp [ckC] at h
  | .wlk _, c, X, W, l, h, x, tk => by simp [ckC] at h
  | .rng _ _, c, X, W, l, h, x, tk => by simp [ckC] at h
  | .enm _, c, X, W, l, h, x, tk => by simp [ckC] at h
  | .rvs _, c, X, W, l, h, x, tk => by simp [ckC] at h
theorem sI {g : GK} {T : Tab} {k : Nat} : ∀ (i : IE) {c : SC} {X : Cx} {W : WX} {e : Expr}, ckI c i e = true → XOk g T k c X → Takes X W → ∀ tg, PI X tg e (tI g W (evi (run T k) i))
  | .rng a b, c, X, W, e, h, x, tk, tg => by
    unfold ckI at h
    split at h
    · rename_i y p z pos
      simp only [Bool.and_eq_true] at h
      obtain ⟨h1, h2, h3⟩ := h
      obtain ⟨e1, hg, hm, hd, hn⟩ := x.isB h2
      subst e1
      refine pi_imp (pi_range1 hg hm (pa_cons (sE b h3 x tk) pa_nil (star_cons (ck_star h3))) (star_cons (ck_star h3))) fun σ H R ⟨ρ, st, μ, hs, hr, q⟩ => ?_
      unfold evi at q
      rw [if_pos h1] at q
      refine ⟨ρ, st, μ, hs, hr, rdg_and q fun p μ1 H1 s1 hs1 h1 v rv => ?_⟩
      split at h1
      · rename_i j e2
        rw [e2] at rv
        cases rv
        obtain ⟨h4, h5⟩ := rdg_need h1
        have h4 := of_decide_eq_true h4
        refine ⟨j, rfl, h4.2.2.1, h4.2.2.2, ?_⟩
        have := rdg_ok hs1 h5 (L2.Itr 0 (j - 0).toNat) (wk_range 0 j)
        rw [Int.sub_zero] at this
        exact this
      · exact h1.elim
    · rename_i y p z z2 pos
      simp only [Bool.and_eq_true, Bool.not_eq_true'] at h
      obtain ⟨h1, h2, h3, h4⟩ := h
      obtain ⟨e1, hg, hm, hd, hn⟩ := x.isB h2
      subst e1
      refine pi_imp (pi_range2 hg hm (pa_cons (sE a h3 x tk) (pa_cons (sE b h4 x tk) pa_nil (star_cons (ck_star h4))) (star_cons (ck_star h3))) (by rw [star_cons (ck_star h3), star_cons (ck_star h4)]; rfl) (star_cons (ck_star h4))) fun σ H R ⟨ρ, st, μ, hs, hr, q⟩ => ?_
      unfold evi at q
      rw [if_neg (by rw [h1]; exact Bool.false_ne_true)] at q
      refine ⟨ρ, st, μ, hs, hr, rdg_and q fun p μ1 H1 s1 hs1 h1 v rv => ?_⟩
      refine ⟨ρ, p.2, μ1, hs1, hr.step s1 hs, rdg_and h1 fun q μ2 H2 s2 hs2 h2 w rw' => ?_⟩
      split at h2
      · rename_i i j e2 e3
        rw [e2] at rv
        rw [e3] at rw'
        cases rv
        cases rw'
        obtain ⟨h4, h5⟩ := rdg_need h2
        have h4 := of_decide_eq_true h4
        exact ⟨i, j, rfl, h4, rdg_ok hs2 h5 (L2.Itr i (j - i).toNat) (wk_range i j)⟩
      · exact h2.elim
    · cases h
  | .wlk a, c, X, W, e, h, x, tk, tg => by
    unfold ckI at h
    refine pi_imp (pi_any (sE a h x tk)) fun σ H R ⟨ρ, st, μ, hs, hr, q⟩ => ?_
    unfold evi at q
    refine ⟨ρ, st, μ, hs, hr, rdg_and q fun p μ1 H1 s1 hs1 h1 v rv => ?_⟩
    split at h1
    · rename_i i e1
      rw [x.K]
      exact walk_any hs1 rv e1 (rdg_ok hs1 h1)
    · exact h1.elim
  | .var _, c, X, W, l, h, x, tk, tg => by simp [ckI] at h
  | .cst _, c, X, W, l, h, x, tk, tg => by simp [ckI] at h
  | .glo _ _, c, X, W, l, h, x, tk, tg => by simp [ckI] at h
  | .op _ _ _, c, X, W, l, h, x, tk, tg => by simp [ckI] at h
  | .neg _, c, X, W, l, h, x, tk, tg => by simp [ckI] at h
  | .cmp _ _ _, c, X, W, l, h, x, tk, tg => by simp [ckI] at h
  | .chain _ _ _ _ _, c, X, W, l, h, x, tk, tg => by simp [ckI] at h
  | .and _ _, c, X, W, l, h, x, tk, tg => by simp [ckI] at h
  | .or _ _, c, X, W, l, h, x, tk, tg => by simp [ckI] at h
  | .not _, c, X, W, l, h, x, tk, tg => by simp [ckI] at h
  | .ite _ _ _, c, X, W, l, h, x, tk, tg => by simp [ckI] at h
  | .tup _, c, X, W, l, h, x, tk, tg => by simp [ckI] at h
  | .lst _, c, X, W, l, h, x, tk, tg => by simp [ckI] at h
  | .sub _ _, c, X, W, l, h, x, tk, tg => by simp [ckI] at h
  | .cut _ _ _, c, X, W, l, h, x, tk, tg => by simp [ckI] at h
  | .call _ _, c, X, W, l, h, x, tk, tg => by simp [ckI] at h
  | .bf _ _, c, X, W, l, h, x, tk, tg => by simp [ckI] at h
  | .bm _ _ _, c, X, W, l, h, x, tk, tg => by simp [ckI] at h
  | .isi _ _, c, X, W, l, h, x, tk, tg => by simp [ckI] at h
  | .lc _ _ _ _ _, c, X, W, l, h, x, tk, tg => by simp [ckI] at h
  | .fst _, c, X, W, l, h, x, tk, tg => by simp [ckI] at h
  | .fmt _, c, X, W, l, h, x, tk, tg => by simp [ckI] at h
  | .tru _, c, X, W, l, h, x, tk, tg => by simp [ckI] at h
  | .enm _, c, X, W, l, h, x, tk, tg => by simp [ckI] at h
  | .rvs _, c, X, W, l, h, x, tk, tg => by simp [ckI] at h
  | .nil, c, X, W, l, h, x, tk, tg => by simp [ckI] at h
  | .cons _ _, c, X, W, l, h, x, tk, tg => by simp [ckI] at h
end
end Pw
end
section
set_option Elab.async false
set_option linter.all false
set_option maxRecDepth 100000
set_option maxHeartbeats 4000000
/-! PwJ: statements (part 10 of the layer). -/
namespace Pw
open PySem PySem.Spec PyProof.Rows L2

/-! ### readings -/
def outD (g : GK) (μ : List Addr) (H : Hp) (σ : L2.St) (D : Ends) : Out → Prop
  | .nx => D.nx σ H
  | .ret d => ∀ v, Rep g μ H d v → D.rt v H
  | .brk => D.bk σ H
  | .cont => D.ct σ H
def rdS (g : GK) (W : WX) (μ : List Addr) (H : Hp) (r : SR) (D : Ends) : Prop := match r with
  | .ok p => ∀ μ' H' σ, Stp μ H μ' H' → RepSt g μ' H' p.2.2 → RepR g μ' H' p.2.1 σ → outD g μ' H' σ D p.1
  | .exn x ρ st => ∀ μ' H' σ, Stp μ H μ' H' → RepSt g μ' H' st → RepR g μ' H' ρ σ → ∀ cls d, ExRep g μ' H' x cls d → W cls d σ H'
  | .stuck => False
def tS (g : GK) (W : WX) (f : Rho → Store → SR) : TS := fun D σ H => ∃ ρ st μ, RepSt g μ H st ∧ RepR g μ H ρ σ ∧ rdS g W μ H (f ρ st) D
section
variable {g : GK} {W : WX} {μ μ' : List Addr} {H H' : Hp} {α : Type} {D : Ends}
theorem rdS_step {r : SR} (s : Stp μ H μ' H') (h : rdS g W μ H r D) : rdS g W μ' H' r D := by
  cases r with
  | ok p => exact fun μ2 H2 σ s2 hs hr => h μ2 H2 σ (s.trans s2) hs hr
  | exn x ρ st => exact fun μ2 H2 σ s2 hs hr => h μ2 H2 σ (s.trans s2) hs hr
  | stuck => exact h
theorem rdS_bind {r : Res (α × Store)} {f : α × Store → SR} {P : α × Store → List Addr → Hp → Prop} (h : rdS g W μ H (r.bind f) D) (k : ∀ p μ' H', Stp μ H μ' H' → RepSt g μ' H' p.2 → rdS g W μ' H' (f p) D → P p μ' H') : rdg g W μ H r P := by
  cases r with
  | ok p => exact fun μ2 H2 s2 hs => k p μ2 H2 s2 hs (rdS_step s2 (show rdS g W μ H (f p) D from h))
  | exn x ρ st => exact h
  | stuck => exact h
/-- a statement, then others -/
theorem rdS_seq {r : SR} {f : Out × Rho × Store → SR} {D' : Ends} (h : rdS g W μ H (r.bind f) D) (k : ∀ p μ' H' σ, Stp μ H μ' H' → RepSt g μ' H' p.2.2 → RepR g μ' H' p.2.1 σ → rdS g W μ' H' (f p) D → outD g μ' H' σ D' p.1) : rdS g W μ H r D' := by
  cases r with
  | ok p => exact fun μ2 H2 σ s2 hs hr => k p μ2 H2 σ s2 hs hr (rdS_step s2 (show rdS g W μ H (f p) D from h))
  | exn x ρ st => exact h
  | stuck => exact h
theorem rdS_ok {o : Out} {ρ : Rho} {st : Store} {σ : L2.St} (hs : RepSt g μ H st) (hr : RepR g μ H ρ σ) (h : rdS g W μ H (.ok (o, ρ, st)) D) : outD g μ H σ D o := h μ H σ .refl hs hr
/-- .. by another wish of the same kind -/
theorem rdS_need {c : Bool} {r : SR} (h : rdS g W μ H (need c r) D) : c = true ∧ rdS g W μ H r D := by
  unfold need at h
  by_cases e : c = true
  · rw [if_pos e] at h; exact ⟨e, h⟩
  · rw [if_neg e] at h; exact h.elim
end

/-! ### loops -/
theorem for_ok {g : GK} {W : WX} {fi : Rho → Store → Res (Pw.Itr × Store)} {G : IG} {body : Rho → Store → SR} {D : Ends} {σ : L2.St} {H : Hp}
    (h : tS g W (fun ρ st => (fi ρ st).bind fun p => loopF p.1 G body p.1.items ρ p.2) D σ H) : tFor (tI g W fi) (tG g G) (tS g W body) D σ H := by
  obtain ⟨ρ, st, μ, hs, hr, h⟩ := h
  refine ⟨ρ, st, μ, hs, hr, rdS_bind h fun p μ1 H1 s1 hs1 h1 => ?_⟩
  intro J wk
  refine ⟨fun i m σ H => m = p.1.items.length - i ∧ i ≤ p.1.items.length ∧ ∃ ρ st μ, Stp μ1 H1 μ H ∧ RepSt g μ H st ∧ RepR g μ H ρ σ ∧ rdS g W μ H (loopF p.1 G body (p.1.items.drop i) ρ st) D, ⟨_, rfl, Nat.zero_le _, ρ, p.2, μ1, .refl, hs1, hr.step s1 hs, h1⟩, ?_⟩
  rintro i m σ H2 ⟨rfl, hi, ρ2, st2, μ2, s2, hs2, hr2, k2⟩
  by_cases hlt : i < p.1.items.length
  · right
    have hd : p.1.items.drop i = p.1.items[i] :: p.1.items.drop (i + 1) := List.drop_eq_getElem_cons hlt
    rw [hd] at k2
    unfold loopF at k2
    obtain ⟨hst, k2⟩ := rdS_need k2
    obtain ⟨g1, g2⟩ := wk.go i p.1.items[i] μ2 H2 st2 (by simp [hlt]) s2 hs2 hst
    refine ⟨g1, fun σ' H' => ∃ ρ st μ, Stp μ1 H1 μ H' ∧ RepSt g μ H' st ∧ RepR g μ H' ρ σ' ∧ rdS g W μ H' (loopF p.1 G body (p.1.items.drop (i + 1)) ρ st) D, fun σ' H' n => ⟨_, by omega, rfl, hlt, n⟩, fun x H3 y => ?_⟩
    obtain ⟨s3, hs3, rx⟩ := g2 x H3 y
    split at k2
    · exact k2.elim
    · rename_i ρ3 hb
      refine ⟨p.1.items[i], ρ2, st2, μ2, ρ3, hs3, hr2.step s3 hs2, rx, hb, fun σ4 hr4 _ => ⟨ρ3, st2, μ2, hs3, hr4, ?_⟩⟩
      refine rdS_seq (rdS_step s3 k2) fun q μ5 H5 σ5 s5 hs5 hr5 h5 => ?_
      obtain ⟨o, ρ5, st5⟩ := q
      cases o with
      | nx => exact ⟨ρ5, st5, μ5, (s2.trans s3).trans s5, hs5, hr5, h5⟩
      | cont => exact ⟨ρ5, st5, μ5, (s2.trans s3).trans s5, hs5, hr5, h5⟩
      | brk => exact rdS_ok (W := W) (D := D) (o := .nx) (ρ := ρ5) (st := st5) hs5 hr5 h5
      | ret d => exact rdS_ok (W := W) (D := D) (o := .ret d) (ρ := ρ5) (st := st5) hs5 hr5 h5
  · left
    have e : i = p.1.items.length := by omega
    subst e
    rw [List.drop_length] at k2
    unfold loopF at k2
    obtain ⟨hst, k2⟩ := rdS_need k2
    exact ⟨wk.stop μ2 H2 st2 s2 hs2 hst, rdS_ok hs2 hr2 k2⟩
theorem while_ok {g : GK} {W : WX} {test : Rho → Store → Res (Bool × Store)} {body : Rho → Store → SR} {D : Ends} {σ : L2.St} {H : Hp}
    (h : tS g W (fun ρ st => fixR (whileStep test body) (ρ, st)) D σ H) : tWhile (tT g W test) (tS g W body) D σ H := by
  obtain ⟨ρ, st, μ, hs, hr, h⟩ := h
  have h : rdS g W μ H (fixR (whileStep test body) (ρ, st)) D := h
  refine ⟨fun m σ H => ∃ ρ st μ r, RepSt g μ H st ∧ RepR g μ H ρ σ ∧ iterN (whileStep test body) m (ρ, st) = some r ∧ rdS g W μ H r D, ?_, ?_⟩
  · rcases fixR_cases (whileStep test body) (ρ, st) with e | ⟨n, e⟩
    · rw [e] at h; exact h.elim
    · exact ⟨n, ρ, st, μ, _, hs, hr, e, h⟩
  · rintro m σ H ⟨ρ, st, μ, r, hs, hr, e, h⟩
    cases m with
    | zero => cases e
    | succ m =>
      unfold iterN at e
      refine ⟨ρ, st, μ, hs, hr, ?_⟩
      cases et : test ρ st with
      | stuck =>
        have e1 : whileStep test body (ρ, st) = .stuck := by unfold whileStep; rw [show test (ρ, st).1 (ρ, st).2 = .stuck from et]; rfl
        rw [e1] at e
        cases e
        exact h.elim
      | exn x ρ' st' =>
        have e1 : whileStep test body (ρ, st) = .exn x ρ' st' := by unfold whileStep; rw [show test (ρ, st).1 (ρ, st).2 = .exn x ρ' st' from et]; rfl
        rw [e1] at e
        cases e
        exact h
      | ok p =>
        intro μ1 H1 s1 hs1
        cases hb : p.1 with
        | false =>
          have e1 : whileStep test body (ρ, st) = .ok (.inr (.nx, ρ, p.2)) := by
            unfold whileStep
            rw [show test (ρ, st).1 (ρ, st).2 = .ok p from et]
            show (if p.1 = true then _ else _) = _
            rw [hb]
            rfl
          rw [e1] at e
          cases e
          rw [if_neg Bool.false_ne_true]
          exact rdS_ok hs1 (hr.step s1 hs) (rdS_step s1 h)
        | true =>
          rw [if_pos rfl]
          have e1 : whileStep test body (ρ, st) = (body ρ p.2).bind fun q => (match q.1 with
            | .nx => .ok (.inl (q.2.1, q.2.2))
            | .cont => .ok (.inl (q.2.1, q.2.2))
            | .brk => .ok (.inr (.nx, q.2.1, q.2.2))
            | .ret d => .ok (.inr (.ret d, q.2.1, q.2.2))) := by
            unfold whileStep
            rw [show test (ρ, st).1 (ρ, st).2 = .ok p from et]
            show (if p.1 = true then _ else _) = _
            rw [hb]
            rfl
          refine ⟨fun σ' H' => ∃ ρ st μ r, RepSt g μ H' st ∧ RepR g μ H' ρ σ' ∧ iterN (whileStep test body) m (ρ, st) = some r ∧ rdS g W μ H' r D, fun σ' H' n => ⟨m, by omega, n⟩, ρ, p.2, μ1, hs1, hr.step s1 hs, ?_⟩
          cases eb : body ρ p.2 with
          | stuck =>
            rw [e1, eb] at e
            cases e
            exact h.elim
          | exn x ρ' st' =>
            rw [e1, eb] at e
            cases e
            exact rdS_step s1 h
          | ok q =>
            obtain ⟨o, ρ2, st2⟩ := q
            rw [e1, eb] at e
            intro μ2 H2 σ2 s2 hs2 hr2
            have h2 := rdS_step (s1.trans s2) h
            cases o with
            | nx => exact ⟨ρ2, st2, μ2, r, hs2, hr2, e, h2⟩
            | cont => exact ⟨ρ2, st2, μ2, r, hs2, hr2, e, h2⟩
            | brk =>
              cases e
              exact rdS_ok (W := W) (D := D) (o := .nx) (ρ := ρ2) (st := st2) hs2 hr2 h2
            | ret d =>
              cases e
              exact rdS_ok (W := W) (D := D) (o := .ret d) (ρ := ρ2) (st := st2) hs2 hr2 h2

/-! ### stores -/
theorem sw_plain {e : Expr} {t : Option Expr} {l : Nat} {env : Env} (h : isComp e = false) : swapsWith e t l env = pure false := by
  cases e <;> first | rfl | cases h
theorem sw_sub {e a b : Expr} {p : Pos} {l : Nat} {env : Env} : swapsWith e (some (.Subscript a b p)) l env = pure false := by
  cases e <;> rfl
theorem sw_cell {e : Expr} {y : Str} {py : Pos} {l : Nat} {env : Env} (h : env.kindOf y = some .cell) : swapsWith e (some (.Name y py)) l env = pure false := by
  have hf : (env.blockKind == ScopeKind.function && env.kindOf y == some NameKind.local) = false := by rw [h]; cases (env.blockKind == ScopeKind.function) <;> rfl
  cases e <;> first
    | rfl
    | (simp only [swapsWith, hf]; rfl)
theorem ss_name {y : Str} {p : Pos} {e : Expr} {env : Env} : swappedStores [.Name y p] e env = pure none := by
  cases e <;> rfl
theorem ss_sub {a b : Expr} {p : Pos} {e : Expr} {env : Env} : swappedStores [.Subscript a b p] e env = pure none := by
  cases e <;> rfl
theorem ss_tup {es : List Expr} {k : Nat} {p : Pos} {e : Expr} {env : Env} (h : notTup e = true) : swappedStores [.Tuple es k p] e env = pure none := by
  cases e <;> first | rfl | cases h
theorem asg_sub {a b : Expr} {p : Pos} {env : Env} (h : notSlice b = true) : ∀ v, assign (.Subscript a b p) env v = (do
      let ov ← holding [v] (eval a env)
      let iv ← holding [v, ov] (eval b env)
      standAt p
      holding [v, ov, iv] (setItem ov iv v)
      release [v, ov, iv] []) := by
  intro v
  cases b <;> first | rfl | cases h
theorem augStore_of {i : Expr} (h : notSlice i = true) : ∀ ov iv new, augStore i ov iv new = (do holding [new, ov, iv] (setItem ov iv new); release [new, ov, iv] []; pure .next) := by
  intro ov iv new
  cases i <;> first | rfl | cases h
/-- xs[i], by values -/
theorem get_list {X : Cx} : PGet X (rIxL X.K) := by
  intro pins s σ H x y v u Q I rx ry h
  obtain ⟨p, xs, i, z, rfl, rfl, hq, he, q⟩ := h
  cases rx
  obtain ⟨t, rfl⟩ := ry
  obtain ⟨its, r, pl, hz⟩ := I.list hq
  obtain ⟨j, h1, h2, h3, h4, h5⟩ := atI_get he
  obtain ⟨w, ew, rw'⟩ := r.get h2
  have hl := r.length
  have hn := line63
  have fin : EP X pins σ Q w s := ⟨z, H, I, rw', q⟩
  by_cases h0 : 0 ≤ i
  · have hj : i.toNat = j := by
      rw [seqIndex_of h0 h5] at h1
      exact Option.some.inj h1
    exact wpAny_getItem_list pl.isList h0 (by omega) (by rw [hj]; simpa using ew) fin
  · have hj : (i + (its.toArray.size : Int)).toNat = j := by
      rw [seqIndex_neg (by omega) h4] at h1
      rw [List.size_toArray, ← hl]
      exact Option.some.inj h1
    exact wpAny_getItem_list_neg pl.isList (by omega) (by rw [List.size_toArray] <;> omega) (by omega) (by rw [hj]; simpa using ew) fin
section
variable {g : GK} {μ : List Addr} {H : Hp} {st st' : Store}
theorem setItem_rep {o i d : D} {x y v : V} (hs : RepSt g μ H st) (ro : Rep g μ H o x) (ri : Rep g μ H i y) (rv : Rep g μ H d v) (e : setItemD o i d st = some st') {Q : Hp → Prop} (h : ∀ H', Stp μ H μ H' → RepSt g μ H' st' → Q H') : rSetL x y v H Q := by
  unfold setItemD at e
  split at e
  · rename_i n j
    split at e
    · rename_i ds e1
      cases ri
      obtain ⟨a, vs, rfl, e2, _, e3, r⟩ := ro.cell hs (listAt_some e1)
      obtain ⟨m, e4, e5⟩ := Option.map_eq_some_iff.mp e
      subst e5
      refine ⟨a, vs, j, m, rfl, rfl, e3, by rw [r.length]; exact e4, h _ (.write e2) (hs.write e2 (r.set m rv))⟩
    · cases e
  · cases e
theorem getL_rep {o i d : D} {x y : V} (hs : RepSt g μ H st) (ro : Rep g μ H o x) (ri : Rep g μ H i y) (e : getL o i st = some d) {Q : VK} (h : ∀ v, Rep g μ H d v → Q v H) : rIxL g.K x y H Q := by
  unfold getL at e
  split at e
  · rename_i n k
    obtain ⟨ds, e1, e2⟩ := Option.bind_eq_some_iff.mp e
    cases ri
    obtain ⟨a, vs, rfl, _, _, e3, r⟩ := ro.cell hs e1
    obtain ⟨v, e4, e5⟩ := atI_rep r e2
    exact ⟨a, vs, k, v, rfl, rfl, SqL.of e3, e4, h v e5⟩
  · cases e
end
/-- ints: + and - -/
theorem ip_aug {X : Cx} (o : O2) : PIp X (opPy o) (fun x y H Q => ∃ a b z, x = .int a ∧ y = .int b ∧ augOp o a b = some z ∧ Q (.int z) H) := by
  cases o with
  | add =>
    intro pins s σ H x y v u Q I r1 r2 h
    obtain ⟨a, b, z, e1, e2, e3, q⟩ := h
    cases e3
    exact ip_add pins s σ H x y v u Q I r1 r2 ⟨a, b, e1, e2, q⟩
  | sub =>
    intro pins s σ H x y v u Q I r1 r2 h
    obtain ⟨a, b, z, e1, e2, e3, q⟩ := h
    cases e3
    exact ip_sub pins s σ H x y v u Q I r1 r2 ⟨a, b, e1, e2, q⟩
  | _ =>
    intro pins s σ H x y v u Q I r1 r2 h
    obtain ⟨a, b, z, e1, e2, e3, q⟩ := h
    cases e3

/-! ### statements -/
abbrev Own (X : Cx) : Prop := PassesOwn (model X.prog X.w) X.A X.env X.xe
mutual
theorem sS {g : GK} {T : Tab} {k : Nat} : ∀ (i : IS) {c : SC} {X : Cx} {W : WX} {s : Stmt}, ckS c i s = true → XOk g T k c X → Takes X W → Own X → PS X s (tS g W (ex (run T k) i))
  | .set (.name i) e, c, X, W, s, h, x, tk, ow => by
    unfold ckS at h
    split at h
    · rename_i y py v pos
      simp only [Bool.and_eq_true] at h
      obtain ⟨h1, h2, h3⟩ := h
      obtain ⟨hN, hl, hf⟩ := x.slotN h1
      have rd : ∀ D σ H, tS g W (ex (run T k) (.set (.name i) e)) D σ H → tAsg (tE g W (ev (run T k) e)) (gName i) D σ H := fun D σ H ⟨ρ, st, μ, hs, hr, q⟩ => by
        unfold ex at q
        refine ⟨ρ, st, μ, hs, hr, rdg_gc hs (rdS_bind q fun p μ1 H1 s1 hs1 h1 v rv => ?_)⟩
        exact rdS_ok hs1 ((hr.step s1 hs).set rv) (show rdS g W μ1 H1 (.ok (.nx, ρ.set i (some p.1), p.2)) D from h1)
      have plain : swapsWith v (some (.Name y py)) pos.line X.env = pure false → PS X (.Assign [.Name y py] v pos) (tS g W (ex (run T k) (.set (.name i) e))) := fun hsw =>
        ps_imp (ps_set (x.N ▸ x.nd) hN hl (sE e h2 x tk) hsw hf) rd
      cases hc : isComp v with
      | false => exact plain (sw_plain hc)
      | true =>
        cases v with
        | ListComp elt gs scope p =>
          have h3' : (match c.sc.names.lookup y with
            | some .cell => true
            | some .local => py.line == p.line && !(scope.names.any fun (n, k) => n == y && (k == .local || k == .cell))
            | _ => false) = true := h3
          split at h3'
          · rename_i e1
            exact plain (sw_cell (by show X.env.scope.names.lookup y = _; rw [x.sc]; exact e1))
          · rename_i e1
            simp only [Bool.and_eq_true, Bool.not_eq_true'] at h3'
            have hyl : X.env.scope.names.lookup y = some .local := by rw [x.sc]; exact e1
            cases e with
            | lc vs G it cond elt' =>
              unfold ckE at h2
              split at h2
              · rename_i z tg iter ifs scope' pos' e2
                cases e2
                simp only [Bool.and_eq_true] at h2
                obtain ⟨⟨k1, k2, k3⟩, k4, k5, k6, k7⟩ := h2
                have ok : BlkOk X.N X.env.scope scope (ownOf c.N vs) := blkOk_by (by rw [x.N, x.sc]; exact k1)
                refine ps_imp (ps_setLc x.calm (x.N ▸ x.nd) hN hyl (sw_true x.kind hyl h3'.1 h3'.2) (sI it k4 x tk tg) ok (fun s H C cl fp => target_ok (x.blk ok s H C cl fp) k5) (fun s H C cl fp => sC cond k6 (x.blk ok s H C cl fp) takesF) (fun s H C cl fp => sE elt' k7 (x.blk ok s H C cl fp) takesF) (fold_of k2)) fun D σ H q => ?_
                rw [own_map]
                obtain ⟨ρ, st, μ, hs, hr, q⟩ := rd D σ H q
                unfold ev at q
                exact lc_ok k3 ⟨ρ, st, μ, hs, hr, q⟩
              · cases h2
            | _ => simp [ckE] at h2
          · cases h3'
        | SetComp => cases h3
        | DictComp => cases h3
        | _ => cases hc
    · cases h
  | .set (.tup is) e, c, X, W, s, h, x, tk, ow => by
    unfold ckS at h
    split at h
    · rename_i es n p v pos
      simp only [Bool.and_eq_true, Bool.not_eq_true'] at h
      obtain ⟨h1, h2, h3, h4⟩ := h
      refine ps_imp (ps_asg (sE e h2 x tk) (target_ok (G := .tup is) x h1) (show swapsWith v (some (.Tuple es n p)) pos.line X.env = pure false from sw_plain h4) (ss_tup h3) rfl) fun D σ H ⟨ρ, st, μ, hs, hr, q⟩ => ?_
      unfold ex at q
      refine ⟨ρ, st, μ, hs, hr, rdg_gc hs (rdS_bind q fun p μ1 H1 s1 hs1 h1 v rv => ?_)⟩
      split at h1
      · rename_i ρ1 e1
        exact ⟨p.1, ρ, p.2, μ1, ρ1, hs1, hr.step s1 hs, rv, e1, fun σ' hr' _ => rdS_ok hs1 hr' h1⟩
      · exact h1.elim
    · cases h
  | .setSub o i e, c, X, W, s, h, x, tk, ow => by
    unfold ckS at h
    split at h
    · rename_i a b p v pos
      simp only [Bool.and_eq_true] at h
      obtain ⟨h1, h2, h3, h4⟩ := h
      refine ps_imp (ps_asg (sE e h4 x tk) (pg_sub (sE o h2 x tk) (sE i h3 x tk) set_list (asg_sub h1)) (show swapsWith v (some (.Subscript a b p)) pos.line X.env = pure false from sw_sub) ss_sub rfl) fun D σ H ⟨ρ, st, μ, hs, hr, q⟩ => ?_
      unfold ex at q
      refine ⟨ρ, st, μ, hs, hr, rdg_gc hs (rdS_bind q fun p μ1 H1 s1 hs1 h1 v rv => ?_)⟩
      refine ⟨ρ, p.2, μ1, hs1, hr.step s1 hs, rdS_bind h1 fun q μ2 H2 s2 hs2 h2 y ry => ?_⟩
      refine ⟨ρ, q.2, μ2, hs2, (hr.step s1 hs).step s2 hs1, rdS_bind h2 fun r μ3 H3 s3 hs3 h3 z rz => ?_⟩
      split at h3
      · rename_i st' e1
        refine setItem_rep hs3 (ry.step s3 hs2) rz ((rv.step s2 hs1).step s3 hs2) e1 fun H4 s4 hs4 => ?_
        exact rdS_ok hs4 ((((hr.step s1 hs).step s2 hs1).step s3 hs2).step s4 hs3) (rdS_step s4 h3)
      · exact h3.elim
    · cases h
  | .aug i o e, c, X, W, s, h, x, tk, ow => by
    unfold ckS at h
    split at h
    · rename_i y p op v pos
      simp only [Bool.and_eq_true, decide_eq_true_eq] at h
      obtain ⟨rfl, h1, h2⟩ := h
      obtain ⟨hN, hl, hf⟩ := x.slotN h1
      refine ps_imp (ps_aug (x.N ▸ x.nd) hN hl (sE e h2 x tk) (ip_aug o) hf) fun D σ H ⟨ρ, st, μ, hs, hr, q⟩ => ?_
      unfold ex at q
      split at q
      · rename_i a e1
        obtain ⟨va, e2, ra⟩ := hr.2 i _ e1
        cases ra
        refine ⟨.int a, e2, ρ, st, μ, hs, hr, rdg_gc hs (rdS_bind q fun p μ1 H1 s1 hs1 h1 v rv => ?_)⟩
        split at h1
        · rename_i b e3
          rw [e3] at rv
          cases rv
          split at h1
          · rename_i z e4
            exact ⟨a, b, z, rfl, rfl, e4, rdS_ok hs1 ((hr.step s1 hs).set (.int z)) h1⟩
          · exact h1.elim
        · exact h1.elim
      · exact q.elim
    · cases h
  | .augSub o i p e, c, X, W, s, h, x, tk, ow => by
    unfold ckS at h
    split at h
    · rename_i a b p' op v pos
      simp only [Bool.and_eq_true, decide_eq_true_eq] at h
      obtain ⟨rfl, h1, h2, h3, h4⟩ := h
      refine ps_imp (ps_augS (sE o h2 x tk) (sE i h3 x tk) get_list (sE e h4 x tk) (ip_aug p) set_list (augStore_of h1)) fun D σ H ⟨ρ, st, μ, hs, hr, q⟩ => ?_
      unfold ex at q
      refine ⟨ρ, st, μ, hs, hr, rdS_bind q fun q μ1 H1 s1 hs1 h1 y ry => ?_⟩
      refine ⟨ρ, q.2, μ1, hs1, hr.step s1 hs, rdS_bind h1 fun r μ2 H2 s2 hs2 h2 z rz => ?_⟩
      split at h2
      · rename_i n e1
        rw [x.K]
        refine getL_rep hs2 (ry.step s2 hs1) rz e1 fun w rw' => ?_
        cases rw'
        refine ⟨ρ, r.2, μ2, hs2, (hr.step s1 hs).step s2 hs1, rdS_bind h2 fun t μ3 H3 s3 hs3 h3 w rw' => ?_⟩
        split at h3
        · rename_i m e2
          rw [e2] at rw'
          cases rw'
          split at h3
          · rename_i l e3
            split at h3
            · rename_i st' e4
              refine ⟨n, m, l, rfl, rfl, e3, ?_⟩
              refine setItem_rep hs3 ((ry.step s2 hs1).step s3 hs2) (rz.step s3 hs2) (.int l) e4 fun H4 s4 hs4 => ?_
              exact rdS_ok hs4 ((((hr.step s1 hs).step s2 hs1).step s3 hs2).step s4 hs3) (rdS_step s4 h3)
            · exact h3.elim
          · exact h3.elim
        · exact h3.elim
      · exact h2.elim
    · cases h
  | .expr e, c, X, W, s, h, x, tk, ow => by
    unfold ckS at h
    split at h
    · simp only [Bool.and_eq_true, Bool.not_eq_true'] at h
      refine ps_imp (ps_expr (sE e h.1 x tk) (sw_plain h.2)) fun D σ H ⟨ρ, st, μ, hs, hr, q⟩ => ?_
      unfold ex at q
      refine ⟨ρ, st, μ, hs, hr, rdg_gc hs (rdS_bind q fun p μ1 H1 s1 hs1 h1 v rv => ?_)⟩
      exact rdS_ok hs1 (hr.step s1 hs) h1
    · cases h
  | .doc, c, X, W, s, h, x, tk, ow => by
    unfold ckS at h
    split at h
    · rename_i v pos
      unfold isStr at h
      split at h
      · exact ps_imp ps_doc fun D σ H ⟨ρ, st, μ, hs, hr, q⟩ => rdS_ok hs hr (show rdS g W μ H (.ok (.nx, ρ, st)) D from by unfold ex at q; exact q)
      · cases h
    · cases h
  | .ret e, c, X, W, s, h, x, tk, ow => by
    unfold ckS at h
    split at h
    · refine ps_imp (ps_ret (sE e h x tk)) fun D σ H ⟨ρ, st, μ, hs, hr, q⟩ => ?_
      unfold ex at q
      refine ⟨ρ, st, μ, hs, hr, rdg_gc hs (rdS_bind q fun p μ1 H1 s1 hs1 h1 v rv => ?_)⟩
      exact rdS_ok hs1 (hr.step s1 hs) h1 v rv
    · cases h
  | .retN, c, X, W, s, h, x, tk, ow => by
    unfold ckS at h
    split at h
    · exact ps_imp ps_retN fun D σ H ⟨ρ, st, μ, hs, hr, q⟩ => rdS_ok hs hr (show rdS g W μ H (.ok (.ret .non, ρ, st)) D from by unfold ex at q; exact q) .non .non
    · cases h
  | .ifs t a b, c, X, W, s, h, x, tk, ow => by
    unfold ckS at h
    split at h
    · simp only [Bool.and_eq_true] at h
      obtain ⟨h1, h2, h3⟩ := h
      refine ps_imp (ps_if (sT t h1 x tk).1 (sB a h2 x tk ow) (sB b h3 x tk ow)) fun D σ H ⟨ρ, st, μ, hs, hr, q⟩ => ?_
      unfold ex at q
      refine ⟨ρ, st, μ, hs, hr, rdS_bind q fun p μ1 H1 s1 hs1 h1 => ?_⟩
      split at h1
      · rename_i e1
        rw [if_pos e1]
        exact ⟨ρ, p.2, μ1, hs1, hr.step s1 hs, h1⟩
      · rename_i e1
        rw [if_neg e1]
        exact ⟨ρ, p.2, μ1, hs1, hr.step s1 hs, h1⟩
    · cases h
  | .fors G it b, c, X, W, s, h, x, tk, ow => by
    unfold ckS at h
    split at h
    · simp only [Bool.and_eq_true] at h
      obtain ⟨h1, h2, h3, h4⟩ := h
      refine ps_imp (ps_for ow x.calm (sI it h2 x tk _) (target_ok x h3) (sB b h4 x tk ow) (fold_of h1)) fun D σ H ⟨ρ, st, μ, hs, hr, q⟩ => ?_
      unfold ex at q
      exact for_ok ⟨ρ, st, μ, hs, hr, q⟩
    · cases h
  | .whiles t b, c, X, W, s, h, x, tk, ow => by
    unfold ckS at h
    split at h
    · simp only [Bool.and_eq_true] at h
      refine ps_imp (ps_while ow (sT t h.1 x tk).1 (sB b h.2 x tk ow)) fun D σ H ⟨ρ, st, μ, hs, hr, q⟩ => ?_
      unfold ex at q
      exact while_ok ⟨ρ, st, μ, hs, hr, q⟩
    · cases h
  | .brk, c, X, W, s, h, x, tk, ow => by
    unfold ckS at h
    split at h
    · exact ps_imp ps_break fun D σ H ⟨ρ, st, μ, hs, hr, q⟩ => rdS_ok hs hr (show rdS g W μ H (.ok (.brk, ρ, st)) D from by unfold ex at q; exact q)
    · cases h
  | .cont, c, X, W, s, h, x, tk, ow => by
    unfold ckS at h
    split at h
    · exact ps_imp ps_continue fun D σ H ⟨ρ, st, μ, hs, hr, q⟩ => rdS_ok hs hr (show rdS g W μ H (.ok (.cont, ρ, st)) D from by unfold ex at q; exact q)
    · cases h
  | .pass, c, X, W, s, h, x, tk, ow => by
    unfold ckS at h
    split at h
    · exact ps_imp ps_pass fun D σ H ⟨ρ, st, μ, hs, hr, q⟩ => rdS_ok hs hr (show rdS g W μ H (.ok (.nx, ρ, st)) D from by unfold ex at q; exact q)
    · cases h
  | .raise _ _, c, X, W, s, h, x, tk, ow => ps_imp ps_never fun D σ H ⟨ρ, st, μ, hs, hr, q⟩ => by
    unfold ex at q
    exact q
  | .nil, c, X, W, s, h, x, tk, ow => by simp [ckS] at h
  | .seq _ _, c, X, W, s, h, x, tk, ow => by simp [ckS] at h
theorem sB {g : GK} {T : Tab} {k : Nat} : ∀ (i : IS) {c : SC} {X : Cx} {W : WX} {l : List Stmt}, ckB c i l = true → XOk g T k c X → Takes X W → Own X → PSs X l (tS g W (ex (run T k) i))
  | .nil, c, X, W, l, h, x, tk, ow => by
    unfold ckB at h
    split at h
    · exact pss_imp pss_nil fun D σ H ⟨ρ, st, μ, hs, hr, q⟩ => rdS_ok hs hr (show rdS g W μ H (.ok (.nx, ρ, st)) D from by unfold ex at q; exact q)
    · cases h
  | .seq a r, c, X, W, l, h, x, tk, ow => by
    unfold ckB at h
    split at h
    · simp only [Bool.and_eq_true] at h
      refine pss_imp (pss_cons (sS a h.1 x tk ow) (sB r h.2 x tk ow)) fun D σ H ⟨ρ, st, μ, hs, hr, q⟩ => ?_
      unfold ex at q
      refine ⟨ρ, st, μ, hs, hr, rdS_seq q fun p μ1 H1 σ1 s1 hs1 hr1 h1 => ?_⟩
      obtain ⟨o, ρ1, st1⟩ := p
      cases o with
      | nx => exact ⟨ρ1, st1, μ1, hs1, hr1, h1⟩
      | ret d => exact rdS_ok (W := W) (D := D) (o := .ret d) (ρ := ρ1) (st := st1) hs1 hr1 h1
      | brk => exact rdS_ok (W := W) (D := D) (o := .brk) (ρ := ρ1) (st := st1) hs1 hr1 h1
      | cont => exact rdS_ok (W := W) (D := D) (o := .cont) (ρ := ρ1) (st := st1) hs1 hr1 h1
    · cases h
  | .set _ _, c, X, W, l, h, x, tk, ow => by simp [ckB] at h
  | .setSub _ _ _, c, X, W, l, h, x, tk, ow => by simp [ckB] at h
  | .aug _ _ _, c, X, W, l, h, x, tk, ow => by simp [ckB] at h
  | .augSub _ _ _ _, c, X, W, l, h, x, tk, ow => by simp [ckB] at h
  | .expr _, c, X, W, l, h, x, tk, ow => by simp [ckB] at h
  | .doc, c, X, W, l, h, x, tk, ow => by simp [ckB] at h
  | .ret _, c, X, W, l, h, x, tk, ow => by simp [ckB] at h
  | .retN, c, X, W, l, h, x, tk, ow => by simp [ckB] at h
  | .ifs _ _ _, c, X, W, l, h, x, tk, ow => by simp [ckB] at h
  | .fors _ _ _, c, X, W, l, h, x, tk, ow => by simp [ckB] at h
  | .whiles _ _, c, X, W, l, h, x, tk, ow => by simp [ckB] at h
  | .brk, c, X, W, l, h, x, tk, ow => by simp [ckB] at h
  | .cont, c, X, W, l, h, x, tk, ow => by simp [ckB] at h
  | .pass, c, X, W, l, h, x, tk, ow => by simp [ckB] at h
  | .raise _ _, c, X, W, l, h, x, tk, ow => by simp [ckB] at h
end
end Pw
end
section
set_option Elab.async false
set_option linter.all false
set_option maxRecDepth 100000
set_option maxHeartbeats 4000000
/-! PwK: a program as a table; its defs, its head, a law's end (part 11 of the layer). -/
namespace Pw
open PySem PySem.Spec PyProof.Rows L2

structure Df where
  d : He.DefD
  ps : List Str
  N : List Str
  F : Fn
structure Pg where
  defs : List Df
  gl : List (Str × D)
  fr : List Str
def Pg.nm (p : Pg) : List Str := p.defs.map fun df => df.d.name
def Pg.T (p : Pg) : Tab := fun i => (p.defs[i]?).map fun df => df.F
def Pg.sc (p : Pg) (df : Df) : SC := { N := df.N, sc := df.d.scope, own := df.N, nm := p.nm, gl := p.gl, fr := p.fr }
def isFunK : ScopeKind → Bool
  | .function => true
  | _ => false
def notFree : NameKind → Bool
  | .free => false
  | _ => true
def atB (d : He.DefD) : Bool := match d.at_ with
  | (x, none) => decide (x = d.name)
  | _ => false
def ckFs (df : Df) : Bool := isFunK df.d.scope.kind && (!df.d.scope.isCoroutine && (!df.d.scope.isGenerator && (decide df.N.Nodup && (decide (df.N.take df.ps.length = df.ps) && (df.ps.all (fun x => locB df.d.scope x) && df.d.scope.names.all fun y => notFree y.2)))))
def ckDf (p : Pg) (df : Df) : Bool := ckFs df && (decide (df.F.ps = df.ps.length) && (decide (df.F.n = df.N.length) && (df.d.dfl.isEmpty && (df.d.kwd.isEmpty && (atB df.d && ckB (p.sc df) df.F.body df.d.body)))))
theorem fnScope_of {df : Df} (h : ckFs df = true) : FnScope df.N df.ps df.d.scope := by
  unfold ckFs at h
  simp only [Bool.and_eq_true, decide_eq_true_eq, List.all_eq_true, Bool.not_eq_true'] at h
  obtain ⟨h1, h2, h3, h4, h5, h6, h7⟩ := h
  refine ⟨?_, h2, h3, h4, h5, fun x hx => loc_of (h6 x hx), fun y hy e => ?_⟩
  · cases e : df.d.scope.kind <;> rw [e] at h1 <;> first | rfl | cases h1
  · have := h7 y hy
    rw [e] at this
    cases this
/-- the parameters are bound in their order -/
def BindP (df : Df) : Prop := ∀ (kV doc pm : Value) (an : Option Addr) (cdv ct : Value) (us : List Value), us.length = df.ps.length → bindArgs (PySem.W.fnOf df.d.name df.d.qual df.d.params df.d.body df.d.scope .none kV doc pm an cdv ct) ⟨us, []⟩ = pure (df.ps.zip us)

/-! ### constants -/
mutual
def repB (K : PySem.W.Frag) : D → Value → Bool
  | .non, .none => true
  | .bl b, .bool c => b == c
  | .int i, .int j _ => decide (i = j)
  | .str x, .str y _ => decide (TL.tl y = x) && decide (x.length ≤ LN)
  | .tup ds, .ref a => (match K.lookup a with
    | some ⟨.type c, _, .seq its _, _⟩ => decide (c = "tuple") && (decide (its.size ≤ sizeLine) && repBs K ds its.toList)
    | _ => false)
  | .frz ds, .ref a => (match K.lookup a with
    | some ⟨.type c, none, .seq its _, _⟩ => decide (c = "list") && (decide (its.size ≤ sizeLine) && repBs K ds its.toList)
    | _ => false)
  | _, _ => false
def repBs (K : PySem.W.Frag) : List D → List Value → Bool
  | [], [] => true
  | d :: ds, u :: us => repB K d u && repBs K ds us
  | _, _ => false
end
mutual
theorem repB_ok {g : GK} : ∀ (d : D) (u : Value), repB g.K d u = true → ∃ v, RelV v u ∧ ∀ μ H, Rep g μ H d v
  | .non, u, h => by
    cases u with
    | none => exact ⟨.non, rfl, fun _ _ => .non⟩
    | _ => simp [repB] at h
  | .bl b, u, h => by
    cases u with
    | bool c =>
      have e : b = c := by simpa [repB] using h
      subst e
      exact ⟨.bl b, rfl, fun _ _ => .bl b⟩
    | _ => simp [repB] at h
  | .int i, u, h => by
    cases u with
    | int j t =>
      have e : i = j := by simpa [repB] using h
      subst e
      exact ⟨.int i, ⟨t, rfl⟩, fun _ _ => .int i⟩
    | _ => simp [repB] at h
  | .str x, u, h => by
    cases u with
    | str y t =>
      have e : TL.tl y = x ∧ x.length ≤ LN := by simpa [repB] using h
      obtain ⟨rfl, hl⟩ := e
      exact ⟨.str y, ⟨t, rfl⟩, fun _ _ => rep_str hl⟩
    | _ => simp [repB] at h
  | .tup ds, u, h => by
    cases u with
    | ref a =>
      unfold repB at h
      split at h
      · rename_i c dd its n sl e
        simp only [Bool.and_eq_true, decide_eq_true_eq] at h
        obtain ⟨rfl, h2, h3⟩ := h
        obtain ⟨vs, r1, r2⟩ := repBs_ok ds its.toList h3
        exact ⟨.ref a, rfl, fun μ H => .tup (.inr ⟨_, its, n, e, rfl, rfl, h2, r1⟩) (r2 μ H)⟩
      · cases h
    | _ => simp [repB] at h
  | .frz ds, u, h => by
    cases u with
    | ref a =>
      unfold repB at h
      split at h
      · rename_i c its n sl e
        simp only [Bool.and_eq_true, decide_eq_true_eq] at h
        obtain ⟨rfl, h2, h3⟩ := h
        obtain ⟨vs, r1, r2⟩ := repBs_ok ds its.toList h3
        exact ⟨.ref a, rfl, fun μ H => .frk e rfl rfl rfl h2 r1 (r2 μ H)⟩
      · cases h
    | _ => simp [repB] at h
  | .ref n, u, h => by cases u <;> simp [repB] at h
  | .fn k, u, h => by cases u <;> simp [repB] at h
theorem repBs_ok {g : GK} : ∀ (ds : List D) (us : List Value), repBs g.K ds us = true → ∃ vs, Vals vs us ∧ ∀ μ H, RepL g μ H ds vs
  | [], us, h => by
    cases us with
    | nil => exact ⟨[], .nil, fun _ _ => .nil⟩
    | cons => simp [repBs] at h
  | d :: ds, us, h => by
    cases us with
    | nil => simp [repBs] at h
    | cons u us =>
      simp only [repBs, Bool.and_eq_true] at h
      obtain ⟨v, r1, r2⟩ := repB_ok d u h.1
      obtain ⟨vs, q1, q2⟩ := repBs_ok ds us h.2
      exact ⟨v :: vs, .cons r1 q1, fun μ H => .cons (r2 μ H) (q2 μ H)⟩
end
def glK (K : PySem.W.Frag) (q : Str × D) : Bool := match PySem.W.nsIn K mainGlobals q.1 with
  | some (some u) => repB K q.2 u
  | _ => false

/-! ### the head -/
def Pg.fa (p : Pg) : List He.Fa := (p.defs.map fun df => He.Fa.glo df.d.name) ++ p.fr.map He.Fa.free
def Pg.fn (p : Pg) : List He.DefD := p.defs.map fun df => df.d
abbrev AlP : Type := Bool × He.AlD
def obsP (p : Pg) (K : PySem.W.Frag) : AlP := (p.gl.all (glK K), He.obsD p.fa p.fn K)
def valP (p : Pg) : AlP := (true, He.valD p.fn)
def SaysP (p : Pg) (K : PySem.W.Frag) : Prop := obsP p K = valP p
def obsPG (n : Nat) (p : Pg) (g : Addr → Option Obj) : AlP := obsP p (He.frG g (He.asD g n))
def hookP (n : Nat) (p : Pg) : PySem.W.Hook where
  α := AlP
  obs := fun s => obsPG n p s.heap.get?
  val := fun _ => valP p
  says := fun _ h => ∃ K : PySem.W.Frag, K.In h ∧ SaysP p K
  of := fun _ _ e => ⟨_, He.frG_in, e⟩
  keeps := fun _ _ _ ⟨K, hK, c⟩ k => ⟨K, PySem.W.Frag.In.keeps hK k, c⟩
theorem obsPG_eq {n : Nat} {p : Pg} {g : Addr → Option Obj} {s : Shared} (h : ∀ a, g a = s.heap.get? a) : obsPG n p g = (hookP n p).obs s := by
  have e : g = s.heap.get? := funext h
  rw [e] <;> rfl
section
variable {p : Pg} {K : PySem.W.Frag} {h : Heap} {mg : Str → Option Value}
def gkOf (p : Pg) (K : PySem.W.Frag) (mg : Str → Option Value) : GK := ⟨K, mg, fun i => p.nm[i]?⟩
theorem SaysP.d (c : SaysP p K) : He.SaysD p.fa p.fn K := congrArg (fun z : AlP => z.2) c
theorem SaysP.gl (c : SaysP p K) (X : K.In h) (G : h.Ns mainGlobals mg) {x : Str} {d : D} (e : p.gl.lookup x = some d) : ∃ u v, mg x = some u ∧ RelV v u ∧ ∀ μ H, Rep (gkOf p K mg) μ H d v := by
  have c1 : p.gl.all (glK K) = true := congrArg (fun z : AlP => z.1) c
  have hm : (x, d) ∈ p.gl := by
    have aux : ∀ l : List (Str × D), l.lookup x = some d → (x, d) ∈ l := fun l => by
      induction l with
      | nil => intro e; cases e
      | cons q r ih =>
        intro e
        rw [List.lookup_cons] at e
        split at e
        · rename_i hb
          have : x = q.1 := by simpa using hb
          cases e
          rw [this]
          exact List.mem_cons_self
        · exact List.mem_cons_of_mem _ (ih e)
    exact aux _ e
  have c2 := List.all_eq_true.mp c1 _ hm
  unfold glK at c2
  split at c2
  · rename_i u eu
    obtain ⟨v, r1, r2⟩ := repB_ok (g := gkOf p K mg) d u c2
    exact ⟨u, v, PySem.W.mg_of X G eu, r1, r2⟩
  · cases c2
theorem SaysP.glo (c : SaysP p K) (X : K.In h) (G : h.Ns mainGlobals mg) {i : Nat} {df : Df} (e : p.defs[i]? = some df) : mg df.d.name = some (.ref (He.ga K df.d.name)) := by
  refine He.glo_ok X G (c.d.fact i (f := .glo df.d.name) ?_)
  unfold Pg.fa
  rw [List.getElem?_append_left (by rw [List.length_map]; exact (List.getElem?_eq_some_iff.mp e).1), List.getElem?_map, e]
  rfl
theorem SaysP.free (c : SaysP p K) (X : K.In h) (G : h.Ns mainGlobals mg) {x : Str} (hx : x ∈ p.fr) : mg x = none := by
  obtain ⟨j, hj⟩ := List.mem_iff_getElem?.mp hx
  refine He.free_ok X G (c.d.fact (p.defs.length + j) (f := .free x) ?_)
  unfold Pg.fa
  rw [List.getElem?_append_right (by rw [List.length_map]; omega), List.length_map, Nat.add_sub_cancel_left, List.getElem?_map, hj]
  rfl
theorem SaysP.def_ (c : SaysP p K) {i : Nat} {df : Df} (e : p.defs[i]? = some df) (ck : ckDf p df = true) : ∃ fd, FunD K df.d.name df.d.qual df.d.params df.d.body df.d.scope [] [] (He.ga K df.d.name) fd := by
  obtain ⟨fd, F⟩ := c.d.def_ i (d := df.d) (by unfold Pg.fn; rw [List.getElem?_map, e]; rfl)
  unfold ckDf at ck
  simp only [Bool.and_eq_true, decide_eq_true_eq, List.isEmpty_iff] at ck
  obtain ⟨_, _, _, h4, h5, h6, _⟩ := ck
  refine ⟨fd, ?_⟩
  have e1 : He.DefD.dvs K df.d = [] := by unfold He.DefD.dvs; rw [h4]; rfl
  have e2 : He.DefD.kws K df.d = [] := by unfold He.DefD.kws; rw [h5]; rfl
  have e3 : He.fAd K df.d.at_ = He.ga K df.d.name := by
    unfold atB at h6
    split at h6
    · rename_i x ex
      rw [ex, ← of_decide_eq_true h6]
      rfl
    · cases h6
  rw [e1, e2, e3] at F
  exact F

/-! ### every def keeps its promise -/
/-- behind a def's body -/
theorem out_rd {g : GK} {μ : List Addr} {H : Hp} {st : Store} {Q : VK} {E : XK} {r : SR} (hs : RepSt g μ H st) (h : rdg g (fun cls d _ H' => E cls d H') μ H (reRho [] (outR st r)) (VP g Q)) :
    rdS g (fun cls d _ H' => E cls d H') μ H r { nx := fun _ H' => Q .non H', rt := Q } := by
  cases r with
  | stuck => exact h
  | exn x ρ st' =>
    intro μ' H' σ s hs' hr cls d hx
    exact (show rdg g (fun cls d _ H' => E cls d H') μ H (.exn x [] st' : Res (D × Store)) (VP g Q) from h) μ' H' [] s hs' ⟨rfl, fun i d e => by simp at e⟩ cls d hx
  | ok p =>
    obtain ⟨o, ρ, st'⟩ := p
    intro μ' H' σ s hs' hr
    cases o with
    | nx =>
      obtain ⟨μ2, k1, k2, k3⟩ := gc_ok hs hs' s (.non : Rep g μ' H' .non .non)
      exact (show rdg g (fun cls d _ H' => E cls d H') μ H (.ok (gc st .non st')) (VP g Q) from h) μ2 H' k2 k1 _ k3
    | ret d =>
      intro v rv
      obtain ⟨μ2, k1, k2, k3⟩ := gc_ok hs hs' s rv
      exact (show rdg g (fun cls d _ H' => E cls d H') μ H (.ok (gc st d st')) (VP g Q) from h) μ2 H' k2 k1 _ k3
    | brk => exact (show False from h).elim
    | cont => exact (show False from h).elim
theorem fns_ok {P : Program} {w : World} {base : Heap} (X : K.In h) (G : h.Ns mainGlobals mg) (c : SaysP p K) (ck : ∀ (i : Nat) (df : Df), p.defs[i]? = some df → ckDf p df = true) (bd : ∀ (i : Nat) (df : Df), p.defs[i]? = some df → BindP df) :
    ∀ (k i : Nat) (df : Df) (fd : FuncData), p.defs[i]? = some df → FunD K df.d.name df.d.qual df.d.params df.d.body df.d.scope [] [] (He.ga K df.d.name) fd →
      FnOk P w K mg base (L2.CX P w) k (He.ga K df.d.name) fd df.ps (spF (gkOf p K mg) p.T k i)
  | 0, i, df, fd, e, F => ⟨fun vs H Q E ⟨_, _, _, _, _, q⟩ => q.elim, fun A outer s H args us vs Q E _ _ _ _ ⟨_, _, _, _, _, q⟩ => q.elim⟩
  | k + 1, i, df, fd, e, F => by
    have ckd := ck i df e
    unfold ckDf at ckd
    simp only [Bool.and_eq_true, decide_eq_true_eq, List.isEmpty_iff] at ckd
    obtain ⟨h1, h2, h3, _, _, _, h7⟩ := ckd
    have S := fnScope_of h1
    have eT : p.T i = some df.F := by unfold Pg.T; rw [e]; rfl
    have unf : ∀ {ds : List D} {st : Store} {μ : List Addr} {H : Hp} {Q : VK} {E : XK}, rdg (gkOf p K mg) (fun cls d _ H' => E cls d H') μ H (reRho [] (run p.T (k + 1) i ds st)) (VP (gkOf p K mg) Q) →
        ds.length = df.F.ps ∧ rdg (gkOf p K mg) (fun cls d _ H' => E cls d H') μ H (reRho [] (outR st (ex (run p.T k) df.F.body (startR df.F.n ds) st))) (VP (gkOf p K mg) Q) := fun {ds st μ H Q E} q => by
      unfold run at q
      rw [eT] at q
      dsimp only at q
      unfold need at q
      split at q
      · rename_i hl; exact ⟨of_decide_eq_true hl, q⟩
      · exact q.elim
    refine F.ok S (fun vs H Q E ⟨ds, st, μ, hs, r, q⟩ => ?_) fun cdv A outer s H vs Q E hr ⟨ds, st, μ, hs, r, q⟩ => ⟨_, sB (W := fun cls d _ H' => E cls d H') df.F.body h7 ?_ ?_ ?_, df_start (startR df.F.n ds) st μ hs (repR_start r _ h3) (out_rd hs (unf q).2)⟩
    · rw [r.length, (unf q).1, h2]
    · refine ⟨rfl, rfl, S.nd, rfl, S.kind, rfl, fun _ _ => .inl rfl, hr, fun x d hx => c.gl X G hx, fun x hx => c.free X G hx, fun j y hy => ?_⟩
      have hy' : (p.defs.map fun df => df.d.name)[j]? = some y := hy
      rw [List.getElem?_map] at hy'
      obtain ⟨df', e', ey⟩ := Option.map_eq_some_iff.mp hy'
      subst ey
      obtain ⟨fd', F'⟩ := c.def_ e' (ck j df' e')
      exact ⟨He.ga K df'.d.name, fd', df'.ps, c.glo X G e', F'.kp, F'.bindsN (bd j df' e'), fns_ok X G c ck bd k j df' fd' e' F'⟩
    · exact takes_of rfl rfl rfl rfl
    · exact passes_of rfl
where
  df_start {g : GK} {W : WX} {f : Rho → Store → SR} {D : Ends} {σ : L2.St} {H : Hp} (ρ : Rho) (st : Store) (μ : List Addr) (hs : RepSt g μ H st) (hr : RepR g μ H ρ σ) (h : rdS g W μ H (f ρ st) D) : tS g W f D σ H := ⟨ρ, st, μ, hs, hr, h⟩

/-! ### a law's end -/
/-- the law's def, told over every base -/
theorem law_facts {P : Program} {w : World} (X : K.In h) (G : h.Ns mainGlobals mg) (c : SaysP p K) (ck : ∀ (i : Nat) (df : Df), p.defs[i]? = some df → ckDf p df = true) (bd : ∀ (i : Nat) (df : Df), p.defs[i]? = some df → BindP df)
    {k li n : Nat} {df : Df} (e : p.defs[li]? = some df) {x : Str} (hps : df.ps = [x]) (math : ∀ ns : List Int, ns.length ≤ n → ∃ st, run p.T k li [.frz (ns.map .int)] [] = .ok (.bl true, st)) :
    ∃ fd, (∀ (s : Shared) (u : Value), BindsTo s fd ⟨[u], []⟩ [(x, u)]) ∧
      (∀ (H : Hp) (a : Addr) (ns : List Int), ns.length ≤ n → Only H → SqL K H a (ns.map V.int) → spF (gkOf p K mg) p.T k li [.ref a] H (fun v _ => v = .bl true) fun _ _ _ => False) ∧
      ∀ base : Heap, FnOk P w K mg base (L2.CX P w) k (He.ga K df.d.name) fd [x] (spF (gkOf p K mg) p.T k li) := by
  obtain ⟨fd, F⟩ := c.def_ e (ck li df e)
  refine ⟨fd, fun s u => ?_, fun H a ns hl hO hS => ?_, fun base => ?_⟩
  · have := F.bindsA (ps := df.ps) (bd li df e) s [u] (by rw [hps]; rfl)
    rw [hps] at this
    exact this
  · obtain ⟨st, hm⟩ := math ns hl
    have rL : RepL (gkOf p K mg) [] H (ns.map D.int) (ns.map V.int) := RepL.of_map fun i _ => .int i
    have rA : Rep (gkOf p K mg) [] H (.frz (ns.map .int)) (.ref a) := by
      rcases hS with (hS | ⟨o, hS⟩) | ⟨o, its, m, h1, h2, h3, h4, h5, h6⟩
      · rcases hO a with z | ⟨o, xs, z⟩
        · rw [hS] at z; cases z
        · rw [hS] at z; cases z
      · exact .frz hS rL
      · exact .frk h1 h2 h3 h4 h5 h6 rL
    refine ⟨[.frz (ns.map .int)], [], [], ⟨rfl, List.nodup_nil, fun n a c e => by simp at e⟩, .cons rA .nil, ?_⟩
    rw [hm]
    intro μ' H' s hs v rv
    cases rv
    rfl
  · have := fns_ok (P := P) (w := w) (base := base) X G c ck bd k li df fd e F
    rw [hps] at this
    exact this
/-- the same of any world -/
def CXa (P : Program) : CXT := fun outer H s E e s' => ∃ w, L2.CX P w outer H s E e s'
theorem fnOk_any {P : Program} {w : World} {base : Heap} {k : Nat} {f : Addr} {fd : FuncData} {ps : List Str} {sp : Sp} (F : FnOk P w K mg base (L2.CX P w) k f fd ps sp) : FnOk P w K mg base (CXa P) k f fd ps sp :=
  ⟨F.len, fun A outer s H args us vs Q E hr he hb hv hs => codeAny_mono (F.run A outer s H args us vs Q E hr he hb hv hs) fun r s' hq => by
    cases r with
    | error e => exact ⟨w, hq⟩
    | ok fl => cases fl <;> exact hq⟩
theorem CXa_none {P : Program} {H : Hp} {s : Shared} {e : Value} {s' : Shared} (h : CXa P [] H s (fun _ _ _ => False) e s') : False := by
  obtain ⟨w, _, _, _, _, _, _, _, _, _, _, _, _, z⟩ := h
  exact z
end
end Pw
end
section
set_option Elab.async false
set_option linter.all false
set_option maxRecDepth 100000
/-! PwM: running the evaluator by simp (part 12 of the layer). -/
namespace Pw
open PySem

/-! ### what holds no reference -/
def pureD : D → Bool
  | .ref _ => false
  | .tup ds => pureDs ds
  | .frz ds => pureDs ds
  | _ => true
where pureDs : List D → Bool
  | [] => true
  | d :: ds => pureD d && pureDs ds
abbrev pureDs (ds : List D) : Bool := pureD.pureDs ds
mutual
theorem bnd_pure {n : Nat} : ∀ {d : D}, pureD d = true → bnd n d = true
  | .non, _ => rfl
  | .bl _, _ => rfl
  | .int _, _ => rfl
  | .str _, _ => rfl
  | .tup ds, h => bnds_pure (ds := ds) h
  | .frz ds, h => bnds_pure (ds := ds) h
  | .ref _, h => by cases h
  | .fn _, _ => rfl
theorem bnds_pure {n : Nat} : ∀ {ds : List D}, pureDs ds = true → bnds n ds = true
  | [], _ => rfl
  | d :: ds, h => by
    have h := Bool.and_eq_true_iff.mp (show (pureD d && pureDs ds) = true from h)
    exact Bool.and_eq_true_iff.mpr ⟨bnd_pure h.1, bnds_pure h.2⟩
end
theorem pureDs_mem {ds : List D} : pureDs ds = true ↔ ∀ d ∈ ds, pureD d = true := by
  induction ds with
  | nil => exact ⟨fun _ _ h => absurd h (by simp), fun _ => rfl⟩
  | cons d ds ih =>
    show (pureD d && pureDs ds) = true ↔ _
    rw [Bool.and_eq_true, ih]
    simp
theorem pureDs_map {α : Type} {f : α → D} {l : List α} (h : ∀ a ∈ l, pureD (f a) = true) : pureDs (l.map f) = true := pureDs_mem.mpr fun d hd => by
  obtain ⟨a, ha, rfl⟩ := List.mem_map.mp hd
  exact h a ha
theorem pureDs_append {a b : List D} : pureDs (a ++ b) = (pureDs a && pureDs b) := by
  induction a with
  | nil => rfl
  | cons d ds ih =>
    show (pureD d && pureDs (ds ++ b)) = ((pureD d && pureDs ds) && pureDs b)
    rw [ih, Bool.and_assoc]
@[simp] theorem pure_non : pureD .non = true := by unfold pureD; rfl
@[simp] theorem pure_bl (b : Bool) : pureD (.bl b) = true := by unfold pureD; rfl
@[simp] theorem pure_int (i : Int) : pureD (.int i) = true := by unfold pureD; rfl
@[simp] theorem pure_str (x : List Nat) : pureD (.str x) = true := by unfold pureD; rfl
@[simp] theorem pure_tup (ds : List D) : pureD (.tup ds) = pureDs ds := by conv => (lhs; unfold pureD)
@[simp] theorem pure_frz (ds : List D) : pureD (.frz ds) = pureDs ds := by conv => (lhs; unfold pureD)
@[simp] theorem pure_nil : pureDs [] = true := by unfold pureD.pureDs; rfl
@[simp] theorem pure_cons (d : D) (ds : List D) : pureDs (d :: ds) = (pureD d && pureDs ds) := by conv => (lhs; unfold pureD.pureDs)

/-! ### dropping -/
theorem okPre_self (n : Nat) : ∀ st : Store, okPre n st st = true
  | [] => rfl
  | c :: st => by simp [okPre, okPre_self n st]
theorem okPre_app (n : Nat) : ∀ st l : Store, okPre n st (st ++ l) = true
  | [], _ => rfl
  | c :: st, l => by simp [okPre, okPre_app n st l]
@[simp] theorem gc_same (st : Store) (d : D) : gc st d st = (d, st) := by
  unfold gc
  rw [if_pos (okPre_self _ _)]
  split
  · rw [List.take_length]
  · rename_i h
    split
    · rename_i m
      have : st.length ≤ m := by
        rcases Nat.lt_or_ge m st.length with z | z
        · exact absurd (decide_eq_true z) h
        · exact z
      rw [List.getElem?_eq_none this]
    · rfl
@[simp] theorem gc_drop {st l : Store} {d : D} (h : pureD d = true) : gc st d (st ++ l) = (d, st) := by
  unfold gc
  rw [if_pos (okPre_app _ _ _), if_pos (bnd_pure h), List.take_left']
  rfl
theorem gc_drop1 {st : Store} {c : Cell} {d : D} (h : pureD d = true) : gc st d (st ++ [c]) = (d, st) := gc_drop h
@[simp] theorem gc_new {st l : Store} {ds : List D} (h : pureDs ds = true) : gc st (.ref st.length) (st ++ .lst ds :: l) = (.ref st.length, st ++ [.lst ds]) := by
  unfold gc
  rw [if_pos (okPre_app _ _ _)]
  have hb : ¬ bnd st.length (.ref st.length) = true := by simp [bnd]
  rw [if_neg hb]
  dsimp only
  have e : (st ++ .lst ds :: l)[st.length]? = some (.lst ds) := by simp
  rw [e]
  dsimp only
  rw [if_pos (show bndC st.length (.lst ds) = true from bnds_pure h), List.take_left' rfl]
theorem gc_newAt {st l l' : Store} {ds : List D} {m : Nat} (hm : m = st.length + l'.length) (h : pureDs ds = true) : gc st (.ref m) (st ++ (l' ++ .lst ds :: l)) = (.ref st.length, st ++ [.lst ds]) := by
  unfold gc
  rw [if_pos (okPre_app _ _ _)]
  have hb : ¬ bnd st.length (.ref m) = true := by simp [bnd]; omega
  rw [if_neg hb]
  dsimp only
  have e : (st ++ (l' ++ .lst ds :: l))[m]? = some (.lst ds) := by
    rw [List.getElem?_append_right (by omega), List.getElem?_append_right (by omega)]
    have : m - st.length - l'.length = 0 := by omega
    rw [this]
    rfl
  rw [e]
  dsimp only
  rw [if_pos (show bndC st.length (.lst ds) = true from bnds_pure h), List.take_left' rfl]
@[simp] theorem gcR_ok (st : Store) (d : D) (st' : Store) : gcR st (.ok (d, st')) = .ok (gc st d st') := rfl
@[simp] theorem gcR_stuck (st : Store) : gcR st .stuck = .stuck := rfl

/-! ### places in the store -/
@[simp] theorem at_0 (st l : Store) : (st ++ l)[st.length]? = l[0]? := by
  rw [List.getElem?_append_right (Nat.le_refl _), Nat.sub_self]
@[simp] theorem at_k (st l : Store) (k : Nat) : (st ++ l)[st.length + k]? = l[k]? := by
  rw [List.getElem?_append_right (Nat.le_add_right _ _), Nat.add_sub_cancel_left]
@[simp] theorem listAt_0 (st l : Store) : listAt (st ++ l) st.length = listAt l 0 := by unfold listAt; rw [at_0]
@[simp] theorem listAt_k (st l : Store) (k : Nat) : listAt (st ++ l) (st.length + k) = listAt l k := by unfold listAt; rw [at_k]
@[simp] theorem listAt_cons_0 (ds : List D) (l : Store) : listAt (.lst ds :: l) 0 = some ds := rfl
@[simp] theorem listAt_cons_succ (c : Cell) (l : Store) (k : Nat) : listAt (c :: l) (k + 1) = listAt l k := by unfold listAt; simp
@[simp] theorem set_0 (st l : Store) (c : Cell) : (st ++ l).set st.length c = st ++ l.set 0 c := by
  rw [List.set_append_right _ _ (Nat.le_refl _), Nat.sub_self]
@[simp] theorem set_k (st l : Store) (k : Nat) (c : Cell) : (st ++ l).set (st.length + k) c = st ++ l.set k c := by
  rw [List.set_append_right _ _ (Nat.le_add_right _ _), Nat.add_sub_cancel_left]
@[simp] theorem need_true {α : Type} (r : Res α) : need true r = r := rfl
@[simp] theorem need_false {α : Type} (r : Res α) : need false r = .stuck := rfl
@[simp] theorem noX_ok' {α : Type} (a : α) : noX (.ok a) = .ok a := rfl

/-! ### expressions, step by step -/
section
variable (C : Callee) (ρ : Rho) (st : Store)
@[simp] theorem ev_var (i : Nat) : ev C (.var i) ρ st = (match ρ[i]? with
    | some (some d) => .ok (d, st)
    | _ => .stuck) := rfl
@[simp] theorem ev_cst (d : D) : ev C (.cst d) ρ st = .ok (d, st) := rfl
@[simp] theorem ev_glo (x : Str) (d : D) : ev C (.glo x d) ρ st = .ok (d, st) := rfl
@[simp] theorem ev_op (o : O2) (a b : IE) : ev C (.op o a b) ρ st = (ev C a ρ st).bind fun p => (ev C b ρ p.2).bind fun q => op2 o p.1 q.1 q.2 := rfl
@[simp] theorem ev_neg (a : IE) : ev C (.neg a) ρ st = (ev C a ρ st).bind fun p => (match p.1 with
    | .int i => .ok (.int (-i), p.2)
    | _ => .stuck) := rfl
@[simp] theorem ev_cmp (o : Cm) (a b : IE) : ev C (.cmp o a b) ρ st = (ev C a ρ st).bind fun p => (ev C b ρ p.2).bind fun q => cmp2 o p.1 q.1 q.2 := rfl
@[simp] theorem ev_chain (o1 o2 : Cm) (a b c : IE) : ev C (.chain o1 o2 a b c) ρ st = (ev C a ρ st).bind fun p => (ev C b ρ p.2).bind fun q => (cmp2 o1 p.1 q.1 q.2).bind fun t => (match t.1 with
    | .bl true => (ev C c ρ t.2).bind fun r => cmp2 o2 q.1 r.1 r.2
    | .bl false => .ok (.bl false, t.2)
    | _ => .stuck) := rfl
@[simp] theorem ev_and (a b : IE) : ev C (.and a b) ρ st = (ev C a ρ st).bind fun p => (match p.1 with
    | .bl true => ev C b ρ p.2
    | .bl false => .ok (.bl false, p.2)
    | _ => .stuck) := rfl
@[simp] theorem ev_or (a b : IE) : ev C (.or a b) ρ st = (ev C a ρ st).bind fun p => (match p.1 with
    | .bl true => .ok (.bl true, p.2)
    | .bl false => ev C b ρ p.2
    | _ => .stuck) := rfl
@[simp] theorem ev_not (a : IE) : ev C (.not a) ρ st = (ev C a ρ st).bind fun p => (match p.1 with
    | .bl b => .ok (.bl (!b), p.2)
    | _ => .stuck) := rfl
@[simp] theorem ev_ite (t a b : IE) : ev C (.ite t a b) ρ st = (evt C t ρ st).bind fun p => if p.1 = true then ev C a ρ p.2 else ev C b ρ p.2 := rfl
@[simp] theorem ev_tup (es : IE) : ev C (.tup es) ρ st = (evs C es ρ st).bind fun p => mkTup p.1 p.2 := rfl
@[simp] theorem ev_lst (es : IE) : ev C (.lst es) ρ st = (evs C es ρ st).bind fun p => mkLst p.1 p.2 := rfl
@[simp] theorem ev_sub (a i : IE) : ev C (.sub a i) ρ st = gcR st ((ev C a ρ st).bind fun p => (ev C i ρ p.2).bind fun q => subD p.1 q.1 q.2) := rfl
@[simp] theorem ev_cut (a lo hi : IE) : ev C (.cut a lo hi) ρ st = gcR st ((ev C a ρ st).bind fun p => (evo C lo ρ p.2).bind fun l => (evo C hi ρ l.2).bind fun h => cutD p.1 l.1 h.1 h.2) := rfl
@[simp] theorem ev_call (f : Nat) (es : IE) : ev C (.call f es) ρ st = (evs C es ρ st).bind fun p => reRho ρ (C f p.1 p.2) := rfl
@[simp] theorem ev_bf (b : Bf) (a : IE) : ev C (.bf b a) ρ st = gcR st ((ev C a ρ st).bind fun p => bfD b p.1 p.2) := rfl
@[simp] theorem ev_bm (b : Bm) (o a : IE) : ev C (.bm b o a) ρ st = gcR st ((ev C o ρ st).bind fun p => need (bmTy b p.1 p.2) ((ev C a ρ p.2).bind fun q => bmD b p.1 q.1 q.2)) := rfl
@[simp] theorem ev_isi (a : IE) (ts : List String) : ev C (.isi a ts) ρ st = (ev C a ρ st).bind fun p => (match typeD p.1 p.2 with
    | some t => .ok (.bl (ts.any (isTy t)), p.2)
    | none => .stuck) := rfl
theorem ev_lc (vs : List Nat) (g : IG) (it cond elt : IE) : ev C (.lc vs g it cond elt) ρ st = (evi C it ρ st).bind fun p =>
      (loopC p.1 g (evc C cond) (ev C elt) p.1.items (wipeR ρ vs) p.2).bind fun q => mkLst q.1 q.2 := rfl
@[simp] theorem ev_fst (es : IE) : ev C (.fst es) ρ st = evf C es [] ρ st := rfl
@[simp] theorem ev_fmt (a : IE) : ev C (.fmt a) ρ st = (ev C a ρ st).bind fun p => fmtD p.1 p.2 := rfl
@[simp] theorem evs_nil : evs C .nil ρ st = .ok ([], st) := rfl
@[simp] theorem evs_cons (a r : IE) : evs C (.cons a r) ρ st = (ev C a ρ st).bind fun p => (evs C r ρ p.2).bind fun q => .ok (p.1 :: q.1, q.2) := rfl
@[simp] theorem evf_nil (acc : List Nat) : evf C .nil acc ρ st = .ok (.str acc, st) := rfl
@[simp] theorem evf_cons (a r : IE) (acc : List Nat) : evf C (.cons a r) acc ρ st = (ev C a ρ st).bind fun p => (match p.1 with
    | .str x => need (decide (acc.length + x.length ≤ LN)) (evf C r (acc ++ x) ρ p.2)
    | _ => .stuck) := rfl
@[simp] theorem evo_nil : evo C .nil ρ st = .ok (none, st) := rfl
@[simp] theorem evo_one (a : IE) : evo C (.cons a .nil) ρ st = (ev C a ρ st).bind fun p => (match p.1 with
    | .int i => .ok (some i, p.2)
    | _ => .stuck) := rfl
@[simp] theorem evt_and (a b : IE) : evt C (.and a b) ρ st = (evt C a ρ st).bind fun p => if p.1 = true then evt C b ρ p.2 else .ok (false, p.2) := rfl
@[simp] theorem evt_or (a b : IE) : evt C (.or a b) ρ st = (evt C a ρ st).bind fun p => if p.1 = true then .ok (true, p.2) else evt C b ρ p.2 := rfl
@[simp] theorem evt_not (a : IE) : evt C (.not a) ρ st = (evt C a ρ st).bind fun p => .ok (!p.1, p.2) := rfl
@[simp] theorem evt_cmp (o : Cm) (a b : IE) : evt C (.cmp o a b) ρ st = (gcR st ((ev C a ρ st).bind fun p => (ev C b ρ p.2).bind fun q => cmp2 o p.1 q.1 q.2)).bind asB := rfl
@[simp] theorem evt_chain (o1 o2 : Cm) (a b c : IE) : evt C (.chain o1 o2 a b c) ρ st = (gcR st ((ev C a ρ st).bind fun p => (ev C b ρ p.2).bind fun q => (cmp2 o1 p.1 q.1 q.2).bind fun t => (match t.1 with
    | .bl true => (ev C c ρ t.2).bind fun r => cmp2 o2 q.1 r.1 r.2
    | .bl false => .ok (.bl false, t.2)
    | _ => .stuck))).bind asB := rfl
@[simp] theorem evt_tru (e : IE) : evt C (.tru e) ρ st = (gcR st (ev C e ρ st)).bind fun p => (match truth p.1 p.2 with
    | some b => .ok (b, p.2)
    | none => .stuck) := rfl
@[simp] theorem evc_nil : evc C .nil ρ st = .ok (true, st) := rfl
@[simp] theorem evc_one (a : IE) : evc C (.cons a .nil) ρ st = evt C a ρ st := rfl
@[simp] theorem evi_rng (a b : IE) : evi C (.rng a b) ρ st = if a.isNil = true then (ev C b ρ st).bind fun q => (match q.1 with
    | .int j => need (rangeOk 0 j) (.ok (.fix (rangeL 0 j), q.2))
    | _ => .stuck) else (ev C a ρ st).bind fun p => (ev C b ρ p.2).bind fun q => (match p.1, q.1 with
    | .int i, .int j => need (rangeOk i j) (.ok (.fix (rangeL i j), q.2))
    | _, _ => .stuck) := rfl
@[simp] theorem evi_wlk (e : IE) : evi C (.wlk e) ρ st = (ev C e ρ st).bind fun p => (match walkD p.1 p.2 with
    | some i => .ok (i, p.2)
    | none => .stuck) := rfl
@[simp] theorem isNil_nil : IE.isNil .nil = true := rfl
@[simp] theorem asB_bl (k : Bool) (st : Store) : asB (.bl k, st) = .ok (k, st) := rfl
@[simp] theorem reRho_ok {α : Type} (ρ : Rho) (a : α) : reRho ρ (.ok a) = .ok a := rfl

/-! ### statements -/
@[simp] theorem ex_nil : ex C .nil ρ st = .ok (.nx, ρ, st) := by unfold ex; rfl
@[simp] theorem ex_seq (s r : IS) : ex C (.seq s r) ρ st = (ex C s ρ st).bind fun p => (match p.1 with
    | .nx => ex C r p.2.1 p.2.2
    | _ => .ok p) := by
  conv => lhs; unfold ex
  try rfl
@[simp] theorem ex_set (g : IG) (e : IE) : ex C (.set g e) ρ st = (gcR st (ev C e ρ st)).bind fun p => (match bindG g p.1 ρ with
    | some ρ1 => .ok (.nx, ρ1, p.2)
    | none => .stuck) := by
  conv => lhs; unfold ex
  try rfl
@[simp] theorem ex_setSub (o i e : IE) : ex C (.setSub o i e) ρ st = (gcR st (ev C e ρ st)).bind fun p => (ev C o ρ p.2).bind fun q => (ev C i ρ q.2).bind fun r => (match setItemD q.1 r.1 p.1 r.2 with
    | some st' => .ok (.nx, ρ, st')
    | none => .stuck) := by
  conv => lhs; unfold ex
  try rfl
@[simp] theorem ex_aug (i : Nat) (o : O2) (e : IE) : ex C (.aug i o e) ρ st = (match ρ[i]? with
    | some (some (.int a)) => (gcR st (ev C e ρ st)).bind fun p => (match p.1 with
      | .int b => (match augOp o a b with
        | some z => .ok (.nx, ρ.set i (some (.int z)), p.2)
        | none => .stuck)
      | _ => .stuck)
    | _ => .stuck) := by
  conv => lhs; unfold ex
  try rfl
@[simp] theorem ex_augSub (o i : IE) (p : O2) (e : IE) : ex C (.augSub o i p e) ρ st = (ev C o ρ st).bind fun q => (ev C i ρ q.2).bind fun r => (match getL q.1 r.1 r.2 with
    | some (.int a) => (ev C e ρ r.2).bind fun y => (match y.1 with
      | .int b => (match augOp p a b with
        | some z => (match setItemD q.1 r.1 (.int z) y.2 with
          | some st' => .ok (.nx, ρ, st')
          | none => .stuck)
        | none => .stuck)
      | _ => .stuck)
    | _ => .stuck) := by
  conv => lhs; unfold ex
  try rfl
@[simp] theorem ex_expr (e : IE) : ex C (.expr e) ρ st = (gcR st (ev C e ρ st)).bind fun p => .ok (.nx, ρ, p.2) := by
  conv => lhs; unfold ex
  try rfl
@[simp] theorem ex_doc : ex C .doc ρ st = .ok (.nx, ρ, st) := by unfold ex; rfl
@[simp] theorem ex_ret (e : IE) : ex C (.ret e) ρ st = (gcR st (ev C e ρ st)).bind fun p => .ok (.ret p.1, ρ, p.2) := by
  conv => lhs; unfold ex
  try rfl
@[simp] theorem ex_retN : ex C .retN ρ st = .ok (.ret .non, ρ, st) := by unfold ex; rfl
@[simp] theorem ex_ifs (t : IE) (a b : IS) : ex C (.ifs t a b) ρ st = (evt C t ρ st).bind fun p => if p.1 = true then ex C a ρ p.2 else ex C b ρ p.2 := by
  conv => lhs; unfold ex
  try rfl
theorem ex_fors (g : IG) (it : IE) (b : IS) : ex C (.fors g it b) ρ st = (evi C it ρ st).bind fun p => loopF p.1 g (ex C b) p.1.items ρ p.2 := by
  conv => lhs; unfold ex
  try rfl
theorem ex_whiles (t : IE) (b : IS) : ex C (.whiles t b) ρ st = fixR (whileStep (evt C t) (ex C b)) (ρ, st) := by
  conv => lhs; unfold ex
  try rfl
@[simp] theorem ex_brk : ex C .brk ρ st = .ok (.brk, ρ, st) := by unfold ex; rfl
@[simp] theorem ex_cont : ex C .cont ρ st = .ok (.cont, ρ, st) := by unfold ex; rfl
@[simp] theorem ex_pass : ex C .pass ρ st = .ok (.nx, ρ, st) := by unfold ex; rfl
@[simp] theorem ex_raise (c : Str) (e : IE) : ex C (.raise c e) ρ st = .stuck := by unfold ex; rfl
end
@[simp] theorem outR_ret (st : Store) (d : D) (ρ : Rho) (st' : Store) : outR st (.ok (.ret d, ρ, st')) = .ok (gc st d st') := rfl
@[simp] theorem outR_nx (st : Store) (ρ : Rho) (st' : Store) : outR st (.ok (.nx, ρ, st')) = .ok (gc st .non st') := rfl
theorem run_def {T : Tab} {k f : Nat} {F : Fn} {ds : List D} {st : Store} (h : T f = some F) (hl : ds.length = F.ps) : run T (k + 1) f ds st = outR st (ex (run T k) F.body (startR F.n ds) st) := by
  conv => lhs; unfold run
  rw [h]
  exact need_ok (decide_eq_true hl)
@[simp] theorem bind_ite {α β : Type} (c : Bool) (a b : Res α) (f : α → Res β) : (if c = true then a else b).bind f = if c = true then a.bind f else b.bind f := by
  cases c <;> rfl

/-! ### a comprehension's turns, one value each -/
@[simp] theorem stands_fix (ds : List D) (st : Store) : (Itr.fix ds).stands st = true := by unfold Itr.stands; rfl
theorem loopC_map {it : Itr} {G : IG} {fc : Rho → Store → Res (Bool × Store)} {fe : Rho → Store → Res (D × Store)} {st : Store} {ρ : Rho} (f : D → D) (hs : it.stands st = true) : ∀ ds : List D,
    (∀ d ∈ ds, ∃ ρ1, bindG G d ρ = some ρ1 ∧ fc ρ1 st = .ok (true, st) ∧ fe ρ1 st = .ok (f d, st)) → loopC it G fc fe ds ρ st = .ok (ds.map f, st)
  | [], _ => by
    unfold loopC
    rw [hs]
    rfl
  | d :: ds, h => by
    obtain ⟨ρ1, e1, e2, e3⟩ := h d List.mem_cons_self
    unfold loopC
    rw [hs, e1]
    dsimp only [need_true]
    rw [e2]
    dsimp only [noX_ok', Res.bind_ok]
    rw [if_pos rfl, e3]
    dsimp only [noX_ok', Res.bind_ok, gcR_ok]
    rw [gc_same]
    dsimp only [noX_ok', Res.bind_ok]
    rw [loopC_map f hs ds fun d' hd => h d' (List.mem_cons_of_mem _ hd)]
    rfl
end Pw
end
section
set_option Elab.async false
set_option linter.all false
set_option maxRecDepth 100000
/-! PwN: values: comparisons, texts, numbers (part 13 of the layer). -/
namespace Pw
open PySem

/-! ### as plain data -/
def pdD : D → PyData
  | .non => .none
  | .bl b => .bool b
  | .int i => .int i
  | .str x => .str ⟨x.toArray⟩
  | .tup ds => .tuple (pdDs ds)
  | .frz ds => .list (pdDs ds)
  | .ref _ => .none
  | .fn _ => .none
where pdDs : List D → List PyData
  | [] => []
  | d :: ds => pdD d :: pdDs ds
abbrev pdDs (ds : List D) : List PyData := pdD.pdDs ds
/-- signs that a text may have -/
def ascB (x : List Nat) : Bool := x.all fun c => decide (c < 128)
def fitD : Nat → D → Bool
  | n, .str x => decide (n ≠ 0) && ascB x
  | n, .tup ds => decide (n ≠ 0) && fitDs (n - 1) ds
  | n, .frz ds => decide (n ≠ 0) && fitDs (n - 1) ds
  | _, .ref _ => false
  | _, .fn _ => false
  | n, _ => decide (n ≠ 0)
where fitDs : Nat → List D → Bool
  | _, [] => true
  | n, d :: ds => fitD n d && fitDs n ds
abbrev fitDs (n : Nat) (ds : List D) : Bool := fitD.fitDs n ds
theorem strOk_asc {x : List Nat} (h : ascB x = true) : PyData.strOk ⟨x.toArray⟩ = true := by
  show (x.toArray.all (· < 0x110000)) = true
  rw [Array.all_eq_true]
  intro i hi
  have := List.all_eq_true.mp h (x.toArray[i]) (by simp)
  have := of_decide_eq_true this
  exact decide_eq_true (by omega)
mutual
theorem toPd_ok (st : Store) : ∀ (n : Nat) (d : D), fitD n d = true → toPd st n d = some (pdD d) ∧ (pdD d).canLay0 = true ∧ (pdD d).depth ≤ n
  | 0, d, h => by cases d <;> simp [fitD] at h
  | n + 1, .non, h => ⟨rfl, rfl, Nat.zero_le _⟩
  | n + 1, .bl _, h => ⟨rfl, rfl, Nat.zero_le _⟩
  | n + 1, .int _, h => ⟨rfl, rfl, Nat.zero_le _⟩
  | n + 1, .str x, h => ⟨rfl, by
      have h : ascB x = true := by simpa [fitD] using h
      simpa [pdD, PyData.canLay0] using strOk_asc h, Nat.zero_le _⟩
  | n + 1, .tup ds, h => by
    have h : fitDs n ds = true := by simpa [fitD] using h
    obtain ⟨h1, h2, h3⟩ := toPds_ok st n ds h
    refine ⟨?_, ?_, ?_⟩
    · show (ds.mapM (toPd st n)).map PyData.tuple = _
      rw [h1]; rfl
    · simpa [pdD, PyData.canLay0] using h2
    · show PyData.depthAll (pdDs ds) + 1 ≤ n + 1
      omega
  | n + 1, .frz ds, h => by
    have h : fitDs n ds = true := by simpa [fitD] using h
    obtain ⟨h1, h2, h3⟩ := toPds_ok st n ds h
    refine ⟨?_, ?_, ?_⟩
    · show (ds.mapM (toPd st n)).map PyData.list = _
      rw [h1]; rfl
    · simpa [pdD, PyData.canLay0] using h2
    · show PyData.depthAll (pdDs ds) + 1 ≤ n + 1
      omega
  | n + 1, .ref _, h => by simp [fitD] at h
  | n + 1, .fn _, h => by simp [fitD] at h
theorem toPds_ok (st : Store) : ∀ (n : Nat) (ds : List D), fitDs n ds = true → ds.mapM (toPd st n) = some (pdDs ds) ∧ PyData.canLayAll0 (pdDs ds) = true ∧ PyData.depthAll (pdDs ds) ≤ n
  | n, [], _ => ⟨rfl, rfl, Nat.zero_le _⟩
  | n, d :: ds, h => by
    have h := Bool.and_eq_true_iff.mp (show (fitD n d && fitDs n ds) = true from h)
    obtain ⟨h1, h2, h3⟩ := toPd_ok st n d h.1
    obtain ⟨k1, k2, k3⟩ := toPds_ok st n ds h.2
    refine ⟨?_, ?_, ?_⟩
    · rw [List.mapM_cons, h1, k1]; rfl
    · show ((pdD d).canLay0 && PyData.canLayAll0 (pdDs ds)) = true
      rw [h2, k2]; rfl
    · show max (pdD d).depth (PyData.depthAll (pdDs ds)) ≤ n
      omega
end
theorem fitD_mono {m n : Nat} (h : m ≤ n) : ∀ {d : D}, fitD m d = true → fitD n d = true := by
  have aux : ∀ (m n : Nat) (d : D), m ≤ n → fitD m d = true → fitD n d = true := by
    intro m
    induction m with
    | zero => intro n d _ h; cases d <;> simp [fitD] at h
    | succ m ih =>
      intro n d hmn h
      have hn : n ≠ 0 := by omega
      have all : ∀ ds : List D, fitDs m ds = true → fitDs (n - 1) ds = true := by
        intro ds
        induction ds with
        | nil => intro _; rfl
        | cons d ds ih2 =>
          intro h
          have h := Bool.and_eq_true_iff.mp (show (fitD m d && fitDs m ds) = true from h)
          exact Bool.and_eq_true_iff.mpr ⟨ih (n - 1) d (by omega) h.1, ih2 h.2⟩
      cases d with
      | tup ds =>
        have h : fitDs m ds = true := by simpa [fitD] using h
        simp [fitD, hn, all ds h]
      | frz ds =>
        have h : fitDs m ds = true := by simpa [fitD] using h
        simp [fitD, hn, all ds h]
      | str x =>
        have h : ascB x = true := by simpa [fitD] using h
        simp [fitD, hn, h]
      | ref _ => simp [fitD] at h
      | fn _ => simp [fitD] at h
      | _ => simp [fitD, hn]
  exact fun {d} => aux m n d h
theorem fitDs_mem {n : Nat} {ds : List D} : fitDs n ds = true ↔ ∀ d ∈ ds, fitD n d = true := by
  induction ds with
  | nil => exact ⟨fun _ _ h => absurd h (by simp), fun _ => rfl⟩
  | cons d ds ih =>
    show (fitD n d && fitDs n ds) = true ↔ _
    rw [Bool.and_eq_true, ih]
    simp
theorem shaped_ok {n : Nat} {d : D} (hn : n ≤ 60) (h : fitD n d = true) : SeqAt.shaped (pdD d) = true := by
  obtain ⟨_, h2, h3⟩ := toPd_ok [] n d h
  exact Bool.and_eq_true_iff.mpr ⟨h2, decide_eq_true (by omega)⟩
mutual
theorem eqv_self : ∀ d : D, PyData.eqv (pdD d) (pdD d) = true
  | .non => rfl
  | .bl b => by simp [pdD, PyData.eqv]
  | .int i => by simp [pdD, PyData.eqv]
  | .str x => by simp [pdD, PyData.eqv]
  | .tup ds => eqvs_self ds
  | .frz ds => eqvs_self ds
  | .ref _ => rfl
  | .fn _ => rfl
theorem eqvs_self : ∀ ds : List D, PyData.eqvAll (pdDs ds) (pdDs ds) = true
  | [] => rfl
  | d :: ds => by
    show (PyData.eqv (pdD d) (pdD d) && PyData.eqvAll (pdDs ds) (pdDs ds)) = true
    rw [eqv_self d, eqvs_self ds]; rfl
end
theorem eqD_of {st : Store} {x y : D} (hx : fitD 60 x = true) (hy : fitD 60 y = true) : eqD st x y = some (PyData.eqv (pdD x) (pdD y)) := by
  unfold eqD
  rw [(toPd_ok st 60 x hx).1, (toPd_ok st 60 y hy).1]
  dsimp only
  rw [shaped_ok (Nat.le_refl _) hx, shaped_ok (Nat.le_refl _) hy]
  rfl
theorem eqD_self {st : Store} {x : D} (hx : fitD 60 x = true) : eqD st x x = some true := by rw [eqD_of hx hx, eqv_self]
theorem stOf_inj {x y : List Nat} : ((⟨x.toArray⟩ : Str) == ⟨y.toArray⟩) = decide (x = y) := by
  by_cases h : x = y
  · subst h; simp
  · rw [decide_eq_false h]
    refine beq_eq_false_iff_ne.mpr fun e => h ?_
    exact congrArg (fun z : Str => z.cps.toList) e
theorem eqv_str (x y : List Nat) : PyData.eqv (.str ⟨x.toArray⟩) (.str ⟨y.toArray⟩) = decide (x = y) := by
  simp only [PyData.eqv]
  exact stOf_inj

/-! ### comparisons -/
section
variable {st : Store}
@[simp] theorem cmp_lt_int (i j : Int) : cmp2 .lt (.int i) (.int j) st = .ok (.bl (decide (i < j)), st) := rfl
@[simp] theorem cmp_le_int (i j : Int) : cmp2 .le (.int i) (.int j) st = .ok (.bl (decide (i ≤ j)), st) := rfl
@[simp] theorem cmp_gt_int (i j : Int) : cmp2 .gt (.int i) (.int j) st = .ok (.bl (decide (j < i)), st) := rfl
@[simp] theorem cmp_ge_int (i j : Int) : cmp2 .ge (.int i) (.int j) st = .ok (.bl (decide (j ≤ i)), st) := rfl
@[simp] theorem cmp_isN (d : D) : cmp2 .isN d .non st = .ok (.bl (decide (d = .non)), st) := rfl
@[simp] theorem cmp_notN (d : D) : cmp2 .notN d .non st = .ok (.bl (!decide (d = .non)), st) := rfl
theorem eqD_int (i j : Int) : eqD st (.int i) (.int j) = some (decide (i = j)) := by
  rw [eqD_of rfl rfl]
  show some (i == j) = _
  rw [Bool.beq_eq_decide_eq]
@[simp] theorem cmp_eq_int (i j : Int) : cmp2 .eq (.int i) (.int j) st = .ok (.bl (decide (i = j)), st) := by
  unfold cmp2; dsimp only; rw [eqD_int]; rfl
@[simp] theorem cmp_ne_int (i j : Int) : cmp2 .ne (.int i) (.int j) st = .ok (.bl (!decide (i = j)), st) := by
  unfold cmp2; dsimp only; rw [eqD_int]; rfl
theorem eqD_str {x y : List Nat} (hx : ascB x = true) (hy : ascB y = true) : eqD st (.str x) (.str y) = some (decide (x = y)) := by
  rw [eqD_of (by simp [fitD, hx]) (by simp [fitD, hy])]
  exact congrArg some (eqv_str x y)
theorem cmp_eq_str {x y : List Nat} (hx : ascB x = true) (hy : ascB y = true) : cmp2 .eq (.str x) (.str y) st = .ok (.bl (decide (x = y)), st) := by
  unfold cmp2; dsimp only; rw [eqD_str hx hy]; rfl
theorem cmp_ne_str {x y : List Nat} (hx : ascB x = true) (hy : ascB y = true) : cmp2 .ne (.str x) (.str y) st = .ok (.bl (!decide (x = y)), st) := by
  unfold cmp2; dsimp only; rw [eqD_str hx hy]; rfl
theorem cmp_eq_self {d : D} (h : fitD 60 d = true) : cmp2 .eq d d st = .ok (.bl true, st) := by
  unfold cmp2; dsimp only; rw [eqD_self h]; rfl
theorem cmp_ne_self {d : D} (h : fitD 60 d = true) : cmp2 .ne d d st = .ok (.bl false, st) := by
  unfold cmp2; dsimp only; rw [eqD_self h]; rfl
/-- a text among texts -/
theorem memD_strs {x : List Nat} {ys : List (List Nat)} (hx : ascB x = true) (hy : ∀ y ∈ ys, ascB y = true) : memD st (.str x) (ys.map .str) = some (decide (x ∈ ys)) := by
  unfold memD
  have ho : fitDs 59 (ys.map D.str) = true := fitDs_mem.mpr fun d hd => by
    obtain ⟨y, hy', rfl⟩ := List.mem_map.mp hd
    simp [fitD, hy y hy']
  obtain ⟨h1, h2, h3⟩ := toPds_ok st 59 _ ho
  have hX : fitD 60 (.str x) = true := by simp [fitD, hx]
  rw [(toPd_ok st 60 (.str x) hX).1, h1]
  dsimp only
  have s2 : SeqAt.shaped (.list (pdDs (ys.map D.str))) = true := Bool.and_eq_true_iff.mpr ⟨by simpa [PyData.canLay0] using h2, decide_eq_true (by show PyData.depthAll _ + 1 ≤ 64; omega)⟩
  rw [shaped_ok (Nat.le_refl _) hX, s2]
  have any : ∀ l : List (List Nat), (pdDs (l.map D.str)).any (fun z => PyData.eqv z (pdD (.str x))) = decide (x ∈ l) := fun l => by
    induction l with
    | nil => rfl
    | cons y l ih =>
      show (PyData.eqv (.str ⟨y.toArray⟩) (.str ⟨x.toArray⟩) || (pdDs (l.map D.str)).any (fun z => PyData.eqv z (pdD (.str x)))) = _
      rw [ih, eqv_str]
      by_cases e : y = x
      · subst e; simp
      · have e' : ¬ x = y := fun z => e z.symm
        simp [e, e']
  show some _ = _
  rw [any]
/-- lists of texts, compared -/
theorem eqD_lists {a b : Nat} {xs ys : List (List Nat)} (ha : listAt st a = some (xs.map .str)) (hb : listAt st b = some (ys.map .str)) (hx : ∀ x ∈ xs, ascB x = true) (hy : ∀ y ∈ ys, ascB y = true) : eqD st (.ref a) (.ref b) = some (decide (xs = ys)) := by
  have one : ∀ zs : List (List Nat), (∀ x ∈ zs, ascB x = true) → (zs.map D.str).mapM (toPd st 59) = some (pdDs (zs.map D.str)) ∧ SeqAt.shaped (.list (pdDs (zs.map D.str))) = true := fun zs hz => by
    have ho : fitDs 59 (zs.map D.str) = true := fitDs_mem.mpr fun d hd => by
      obtain ⟨y, hy', rfl⟩ := List.mem_map.mp hd
      simp [fitD, hz y hy']
    obtain ⟨h1, h2, h3⟩ := toPds_ok st 59 _ ho
    exact ⟨h1, Bool.and_eq_true_iff.mpr ⟨by simpa [PyData.canLay0] using h2, decide_eq_true (by show PyData.depthAll _ + 1 ≤ 64; omega)⟩⟩
  obtain ⟨a1, a2⟩ := one xs hx
  obtain ⟨b1, b2⟩ := one ys hy
  unfold eqD
  have ea : toPd st 60 (.ref a) = some (.list (pdDs (xs.map D.str))) := by
    show (match listAt st a with | some ds => (ds.mapM (toPd st 59)).map PyData.list | none => none) = _
    rw [ha]; dsimp only; rw [a1]; rfl
  have eb : toPd st 60 (.ref b) = some (.list (pdDs (ys.map D.str))) := by
    show (match listAt st b with | some ds => (ds.mapM (toPd st 59)).map PyData.list | none => none) = _
    rw [hb]; dsimp only; rw [b1]; rfl
  rw [ea, eb]
  dsimp only
  rw [a2, b2]
  have all : ∀ l m : List (List Nat), PyData.eqvAll (pdDs (l.map D.str)) (pdDs (m.map D.str)) = decide (l = m) := fun l => by
    induction l with
    | nil => intro m; cases m <;> simp [PyData.eqvAll, pdD.pdDs]
    | cons x l ih =>
      intro m
      cases m with
      | nil => simp [PyData.eqvAll, pdD.pdDs]
      | cons y m =>
        show (PyData.eqv (.str ⟨x.toArray⟩) (.str ⟨y.toArray⟩) && PyData.eqvAll (pdDs (l.map D.str)) (pdDs (m.map D.str))) = _
        rw [ih m, eqv_str]
        by_cases e : x = y <;> by_cases e2 : l = m <;> simp [e, e2]
  show some (PyData.eqvAll _ _) = _
  rw [all]
theorem truth_bl (b : Bool) : truth (.bl b) st = some b := rfl
end
@[simp] theorem truth_bl' (b : Bool) (st : Store) : truth (.bl b) st = some b := rfl
@[simp] theorem truth_int' (i : Int) (st : Store) : truth (.int i) st = some (i != 0) := rfl
@[simp] theorem truth_str' (x : List Nat) (st : Store) : truth (.str x) st = some (!x.isEmpty) := rfl
@[simp] theorem truth_tup' (x : List D) (st : Store) : truth (.tup x) st = some (!x.isEmpty) := rfl

/-! ### kinds -/
@[simp] theorem type_non (st : Store) : typeD .non st = some "NoneType" := rfl
@[simp] theorem type_bl (b : Bool) (st : Store) : typeD (.bl b) st = some "bool" := rfl
@[simp] theorem type_int (b : Int) (st : Store) : typeD (.int b) st = some "int" := rfl
@[simp] theorem type_str (b : List Nat) (st : Store) : typeD (.str b) st = some "str" := rfl
@[simp] theorem type_tup (b : List D) (st : Store) : typeD (.tup b) st = some "tuple" := rfl
@[simp] theorem type_frz (b : List D) (st : Store) : typeD (.frz b) st = some "list" := rfl

/-! ### numbers as texts -/
theorem numT_nat (n : Nat) : numT (n : Int) = TL.numL n := TL.tl_num n
theorem numT_neg (n : Nat) : numT (Int.negSucc n) = 45 :: TL.numL (n + 1) := by
  have e : toString (Int.negSucc n) = "-" ++ toString ((n + 1 : Nat) : Int) := rfl
  unfold numT
  rw [e, show (Str.ofString ("-" ++ toString ((n + 1 : Nat) : Int))).cps.toList = _ from TL.tl_ofString _, String.toList_append, List.map_append]
  rw [← TL.tl_num (n + 1), show TL.tl (Str.ofString (toString ((n + 1 : Nat) : Int))) = _ from TL.tl_ofString _]
  rfl
theorem numT_ne (i : Int) : numT i ≠ [] := by
  cases i with
  | ofNat n => rw [show Int.ofNat n = (n : Int) from rfl, numT_nat]; exact TL.numL_ne n
  | negSucc n => rw [numT_neg]; exact List.cons_ne_nil _ _
theorem numT_signs (i : Int) : ∀ c ∈ numT i, c = 45 ∨ (48 ≤ c ∧ c ≤ 57) := by
  cases i with
  | ofNat n => rw [show Int.ofNat n = (n : Int) from rfl, numT_nat]; exact fun c hc => .inr (TL.numL_digits n c hc)
  | negSucc n =>
    rw [numT_neg]
    intro c hc
    rcases List.mem_cons.mp hc with rfl | hc
    · exact .inl rfl
    · exact .inr (TL.numL_digits (n + 1) c hc)
theorem numT_inj {i j : Int} (h : numT i = numT j) : i = j := by
  have nn : ∀ n m : Nat, TL.numL n ≠ 45 :: TL.numL m := fun n m e => by
    have := TL.numL_digits n 45 (by rw [e]; exact List.mem_cons_self)
    omega
  cases i with
  | ofNat n =>
    cases j with
    | ofNat m =>
      rw [show Int.ofNat n = (n : Int) from rfl, show Int.ofNat m = (m : Int) from rfl, numT_nat, numT_nat] at h
      rw [TL.numL_inj h]
    | negSucc m =>
      rw [show Int.ofNat n = (n : Int) from rfl, numT_nat, numT_neg] at h
      exact absurd h (nn _ _)
  | negSucc n =>
    cases j with
    | ofNat m =>
      rw [show Int.ofNat m = (m : Int) from rfl, numT_nat, numT_neg] at h
      exact absurd h.symm (nn _ _)
    | negSucc m =>
      rw [numT_neg, numT_neg] at h
      injection h with _ h
      have := TL.numL_inj h
      have : n = m := by omega
      rw [this]
theorem intText_numT {i : Int} (h : (numT i).length ≤ 4300) : intText? ⟨(numT i).toArray⟩ = some i := by
  cases i with
  | ofNat n =>
    rw [show Int.ofNat n = (n : Int) from rfl, numT_nat] at h ⊢
    have := intText_digits (x := ⟨(TL.numL n).toArray⟩) (TL.numL_digits n) (TL.numL_ne n) (by show (TL.numL n).toArray.size ≤ _; simpa using h)
    rw [this]
    show some ((NumText.digitsVal (TL.numL n) : Nat) : Int) = _
    rw [TL.numL_val]
  | negSucc n =>
    rw [numT_neg] at h ⊢
    have := intText_neg (x := ⟨(45 :: TL.numL (n + 1)).toArray⟩) rfl (TL.numL_digits (n + 1)) (TL.numL_ne (n + 1)) (by show (45 :: TL.numL (n + 1)).toArray.size ≤ _; simpa using h)
    rw [this, TL.numL_val]
    rfl
/-- few figures -/
theorem numT_len {i : Int} {k : Nat} (hk : 0 < k) (h : i.natAbs < 10 ^ k) : (numT i).length ≤ k + 1 := by
  cases i with
  | ofNat n =>
    rw [show Int.ofNat n = (n : Int) from rfl, numT_nat]
    exact Nat.le_succ_of_le (TL.numL_len hk h)
  | negSucc n =>
    rw [numT_neg]
    exact Nat.succ_le_succ (TL.numL_len hk h)
theorem numT_len0 {i : Int} {k : Nat} (hk : 0 < k) (h0 : 0 ≤ i) (h : i < 10 ^ k) : (numT i).length ≤ k := by
  obtain ⟨n, rfl⟩ := Int.eq_ofNat_of_zero_le h0
  rw [numT_nat]
  exact TL.numL_len hk (by exact_mod_cast h)
theorem log_of_len {i : Int} (h : i.natAbs < 2 ^ 1920) : decide (i.natAbs.log2 < 1920) = true := by
  refine decide_eq_true ?_
  by_cases e : i.natAbs = 0
  · rw [e]; decide
  · exact (Nat.log2_lt e).mpr h
end Pw
end
section
set_option Elab.async false
set_option linter.all false
set_option maxRecDepth 100000
/-! PwO: comprehensions over a list of one's own, texts' signs (part 14 of the layer). -/
namespace Pw
open PySem

theorem loopC_on {α : Type} {it : Itr} {G : IG} {fc : Rho → Store → Res (Bool × Store)} {fe : Rho → Store → Res (D × Store)} {st : Store} {ρ : Rho} (g h : α → D) (hs : it.stands st = true) : ∀ l : List α,
    (∀ a ∈ l, ∃ ρ1, bindG G (g a) ρ = some ρ1 ∧ fc ρ1 st = .ok (true, st) ∧ fe ρ1 st = .ok (h a, st)) → loopC it G fc fe (l.map g) ρ st = .ok (l.map h, st)
  | [], _ => by
    show loopC it G fc fe [] ρ st = _
    unfold loopC
    rw [hs]
    rfl
  | d :: ds, hh => by
    obtain ⟨ρ1, e1, e2, e3⟩ := hh d List.mem_cons_self
    show loopC it G fc fe (g d :: ds.map g) ρ st = _
    unfold loopC
    rw [hs, e1]
    dsimp only [need_true]
    rw [e2]
    dsimp only [noX_ok', Res.bind_ok]
    rw [if_pos rfl, e3]
    dsimp only [noX_ok', Res.bind_ok, gcR_ok]
    rw [gc_same]
    dsimp only [noX_ok', Res.bind_ok]
    rw [loopC_on g h hs ds fun d' hd => hh d' (List.mem_cons_of_mem _ hd)]
    rfl
@[simp] theorem bools_on {α : Type} (t : α → Bool) : ∀ l : List α, bools (l.map fun a => .bl (t a)) = some (l.map t)
  | [] => rfl
  | a :: l => by
    show (bools (l.map fun a => .bl (t a))).map (t a :: ·) = _
    rw [bools_on t l]
    rfl
@[simp] theorem txts_on {α : Type} (t : α → List Nat) : ∀ l : List α, txts (l.map fun a => .str (t a)) = some (l.map t)
  | [] => rfl
  | a :: l => by
    show (txts (l.map fun a => .str (t a))).map (t a :: ·) = _
    rw [txts_on t l]
    rfl
section
variable {C : Callee} {vs : List Nat} {G : IG} {it elt : IE} {ρ : Rho} {st : Store} {α : Type}
/-- a comprehension without tests -/
theorem lc_on (l : List α) (g h : α → D) {I : Itr} (hi : evi C it ρ st = .ok (I, st)) (hI : I.items = l.map g) (hst : I.stands st = true) (hh : ∀ a ∈ l, ∃ ρ1, bindG G (g a) (wipeR ρ vs) = some ρ1 ∧ ev C elt ρ1 st = .ok (h a, st)) (hl : l.length ≤ LN) :
    ev C (.lc vs G it .nil elt) ρ st = .ok (.ref st.length, st ++ [.lst (l.map h)]) := by
  rw [ev_lc, hi]
  dsimp only [Res.bind_ok]
  rw [hI, loopC_on (fc := evc C .nil) (fe := ev C elt) g h hst l fun a ha => by
    obtain ⟨ρ1, e1, e2⟩ := hh a ha
    exact ⟨ρ1, e1, rfl, e2⟩]
  dsimp only [Res.bind_ok]
  unfold mkLst
  rw [need_ok (decide_eq_true (by rw [List.length_map]; exact hl))]
  rfl
theorem all_on (l : List α) (g : α → D) (t : α → Bool) {I : Itr} (hi : evi C it ρ st = .ok (I, st)) (hI : I.items = l.map g) (hst : I.stands st = true) (hh : ∀ a ∈ l, ∃ ρ1, bindG G (g a) (wipeR ρ vs) = some ρ1 ∧ ev C elt ρ1 st = .ok (.bl (t a), st)) (hl : l.length ≤ LN) :
    ev C (.bf .all (.lc vs G it .nil elt)) ρ st = .ok (.bl (l.all t), st) := by
  rw [ev_bf, lc_on l g (fun a => .bl (t a)) hi hI hst hh hl]
  dsimp only [Res.bind_ok, bfD, lstD]
  rw [listAt_0, listAt_cons_0]
  dsimp only [Option.bind]
  rw [bools_on]
  dsimp only [gcR_ok]
  rw [gc_drop rfl]
  simp [Function.comp_def, List.all_map]
theorem tuple_on (l : List α) (g h : α → D) {I : Itr} (hi : evi C it ρ st = .ok (I, st)) (hI : I.items = l.map g) (hst : I.stands st = true) (hh : ∀ a ∈ l, ∃ ρ1, bindG G (g a) (wipeR ρ vs) = some ρ1 ∧ ev C elt ρ1 st = .ok (h a, st)) (hl : l.length ≤ LN) (hp : ∀ a ∈ l, pureD (h a) = true) :
    ev C (.bf .tuple (.lc vs G it .nil elt)) ρ st = .ok (.tup (l.map h), st) := by
  rw [ev_bf, lc_on l g h hi hI hst hh hl]
  dsimp only [Res.bind_ok, bfD]
  rw [listAt_0, listAt_cons_0]
  dsimp only [gcR_ok]
  rw [gc_drop (d := .tup (l.map h)) (pureDs_map hp)]
end

/-! ### signs -/
theorem ord_str {o : Or} {x y : List Nat} (hx : ascB x = true) (hy : ascB y = true) : ordD o (.str x) (.str y) = some (o.str x y) := by
  unfold ordD
  have h1 : toPd [] 60 (.str x) = some (.str ⟨x.toArray⟩) := rfl
  have h2 : toPd [] 60 (.str y) = some (.str ⟨y.toArray⟩) := rfl
  rw [h1, h2]
  dsimp only
  have s1 : SeqAt.shaped (.str ⟨x.toArray⟩) = true := shaped_ok (n := 60) (d := .str x) (Nat.le_refl _) (by simp [fitD, hx])
  have s2 : SeqAt.shaped (.str ⟨y.toArray⟩) = true := shaped_ok (n := 60) (d := .str y) (Nat.le_refl _) (by simp [fitD, hy])
  rw [s1, s2]
  rfl
theorem sign_lt (c d : Nat) : decide ([c] < [d]) = decide (c < d) := by
  have : ([c] < [d]) ↔ c < d := by
    constructor
    · intro h
      cases h with
      | rel h => exact h
      | cons h => cases h
    · exact fun h => List.Lex.rel h
  exact decide_eq_decide.mpr this
theorem cmp_le_sign {c d : Nat} (hc : c < 128) (hd : d < 128) (st : Store) : cmp2 .le (.str [c]) (.str [d]) st = .ok (.bl (decide (c ≤ d)), st) := by
  unfold cmp2
  dsimp only
  rw [ord_str (by simp [ascB, hc]) (by simp [ascB, hd])]
  show okB (some (!decide ([d] < [c]))) id st = _
  rw [sign_lt]
  show Res.ok (D.bl (!decide (d < c)), st) = _
  rw [show (!decide (d < c)) = decide (c ≤ d) from by
    by_cases h : c ≤ d
    · rw [decide_eq_true h, decide_eq_false (by omega)]; rfl
    · rw [decide_eq_false h, decide_eq_true (by omega)]; rfl]
theorem asc_mem {x : List Nat} (h : ascB x = true) {c : Nat} (hc : c ∈ x) : c < 128 := of_decide_eq_true (List.all_eq_true.mp h c hc)
theorem asc_of {x : List Nat} (h : ∀ c ∈ x, c < 128) : ascB x = true := List.all_eq_true.mpr fun c hc => decide_eq_true (h c hc)
@[simp] theorem asc_nil : ascB [] = true := by unfold ascB; simp
@[simp] theorem asc_cons (c : Nat) (x : List Nat) : ascB (c :: x) = (decide (c < 128) && ascB x) := by unfold ascB; simp
@[simp] theorem asc_append (x y : List Nat) : ascB (x ++ y) = (ascB x && ascB y) := by simp [ascB]
theorem asc_num (i : Int) : ascB (numT i) = true := asc_of fun c hc => by rcases numT_signs i c hc with h | h <;> omega
/-- figures -/
def figB (x : List Nat) : Bool := decide (x ≠ []) && x.all fun c => decide (48 ≤ c ∧ c ≤ 57)
theorem fig_num (n : Nat) : figB (TL.numL n) = true := Bool.and_eq_true_iff.mpr ⟨decide_eq_true (TL.numL_ne n), List.all_eq_true.mpr fun c hc => decide_eq_true (TL.numL_digits n c hc)⟩
end Pw
end
section
set_option Elab.async false
set_option linter.all false
set_option maxRecDepth 100000
/-! PwP: stores with places of one's own (part 15 of the layer). -/
namespace Pw
open PySem

theorem okPre_same (n : Nat) : ∀ s a b : Store, okPre n (s ++ a) (s ++ b) = okPre n a b
  | [], _, _ => rfl
  | c :: s, a, b => by
    show ((decide (c = c) || bndC n c) && okPre n (s ++ a) (s ++ b)) = _
    rw [okPre_same n s a b]
    simp
@[simp] theorem okPre_nil (n : Nat) (b : Store) : okPre n [] b = true := by unfold okPre; rfl
@[simp] theorem okPre_cons (n : Nat) (c c' : Cell) (r r' : Store) : okPre n (c :: r) (c' :: r') = ((decide (c' = c) || bndC n c') && okPre n r r') := by conv => (lhs; unfold okPre)
@[simp] theorem bndC_pure {n : Nat} {ds : List D} (h : pureDs ds = true) : bndC n (.lst ds) = true := bnds_pure h
/-- a value without references -/
@[simp] theorem gc_ext {s a b : Store} {d : D} (h : pureD d = true) (ok : okPre (s.length + a.length) a b = true) : gc (s ++ a) d (s ++ b) = (d, s ++ b.take a.length) := by
  unfold gc
  have e : (s ++ a).length = s.length + a.length := List.length_append
  rw [e, if_pos (by rw [okPre_same]; exact ok), if_pos (bnd_pure h)]
  congr 1
  rw [List.take_length_add_append]
theorem gc_ref {s a b : Store} {k : Nat} (ok : okPre (s.length + a.length) a b = true) : gc (s ++ a) (.ref (s.length + k)) (s ++ b) = if k < a.length then (.ref (s.length + k), s ++ b.take a.length) else match b[k]? with
    | some c => if bndC (s.length + a.length) c = true then (.ref (s.length + a.length), s ++ (b.take a.length ++ [c])) else (.ref (s.length + k), s ++ b)
    | none => (.ref (s.length + k), s ++ b) := by
  unfold gc
  have e : (s ++ a).length = s.length + a.length := List.length_append
  rw [e, if_pos (by rw [okPre_same]; exact ok)]
  by_cases h : k < a.length
  · rw [if_pos (by simp [bnd]; omega), if_pos h, List.take_length_add_append]
  · rw [if_neg (by simp [bnd]; omega), if_neg h]
    dsimp only
    rw [at_k]
    cases b[k]? with
    | none => rfl
    | some c =>
      dsimp only
      rw [List.take_length_add_append, List.append_assoc]
/-- the first place behind -/
@[simp] theorem gc_ref0 {s b : Store} {k : Nat} : gc s (.ref (s.length + k)) (s ++ b) = match b[k]? with
    | some c => if bndC s.length c = true then (.ref s.length, s ++ [c]) else (.ref (s.length + k), s ++ b)
    | none => (.ref (s.length + k), s ++ b) := by
  have := gc_ref (s := s) (a := []) (b := b) (k := k) (okPre_nil _ _)
  simpa using this
@[simp] theorem gc_ref00 {s b : Store} : gc s (.ref s.length) (s ++ b) = match b[0]? with
    | some c => if bndC s.length c = true then (.ref s.length, s ++ [c]) else (.ref s.length, s ++ b)
    | none => (.ref s.length, s ++ b) := gc_ref0 (k := 0)
@[simp] theorem gc_refA {s a b : Store} {k : Nat} (ok : okPre (s.length + a.length) a b = true) : gc (s ++ a) (.ref (s.length + k)) (s ++ b) = if k < a.length then (.ref (s.length + k), s ++ b.take a.length) else match b[k]? with
    | some c => if bndC (s.length + a.length) c = true then (.ref (s.length + a.length), s ++ (b.take a.length ++ [c])) else (.ref (s.length + k), s ++ b)
    | none => (.ref (s.length + k), s ++ b) := gc_ref ok
@[simp] theorem gc_refA0 {s a b : Store} (ok : okPre (s.length + a.length) a b = true) : gc (s ++ a) (.ref s.length) (s ++ b) = if 0 < a.length then (.ref s.length, s ++ b.take a.length) else match b[0]? with
    | some c => if bndC (s.length + a.length) c = true then (.ref (s.length + a.length), s ++ (b.take a.length ++ [c])) else (.ref s.length, s ++ b)
    | none => (.ref s.length, s ++ b) := gc_ref (k := 0) ok
@[simp] theorem alloc_ok (c : Cell) (st : Store) : alloc c st = .ok (.ref st.length, st ++ [c]) := rfl
@[simp] theorem le_LN0 : decide (0 ≤ LN) = true := by decide
@[simp] theorem le_LN1 : decide (1 ≤ LN) = true := by decide
@[simp] theorem le_LN2 : decide (2 ≤ LN) = true := by decide
@[simp] theorem le_LN3 : decide (3 ≤ LN) = true := by decide
@[simp] theorem le_LN4 : decide (4 ≤ LN) = true := by decide
@[simp] theorem le_LN5 : decide (5 ≤ LN) = true := by decide
@[simp] theorem le_LN6 : decide (6 ≤ LN) = true := by decide
@[simp] theorem le_LN7 : decide (7 ≤ LN) = true := by decide

/-! ### operators on values -/
section
variable (st : Store)
@[simp] theorem op_add_int (i j : Int) : op2 .add (.int i) (.int j) st = .ok (.int (i + j), st) := rfl
@[simp] theorem op_sub_int (i j : Int) : op2 .sub (.int i) (.int j) st = .ok (.int (i - j), st) := rfl
@[simp] theorem op_add_str (a b : List Nat) : op2 .add (.str a) (.str b) st = mkStr (a ++ b) st := rfl
@[simp] theorem op_add_tup (a b : List D) : op2 .add (.tup a) (.tup b) st = mkTup (a ++ b) st := rfl
theorem op_add_ref {n m : Nat} {a b : List D} {st : Store} (h1 : listAt st n = some a) (h2 : listAt st m = some b) : op2 .add (.ref n) (.ref m) st = mkLst (a ++ b) st := by
  unfold listAt at h1 h2
  show (match st[n]?, st[m]? with
    | some (.lst a), some (.lst b) => mkLst (a ++ b) st
    | _, _ => .stuck) = _
  split at h1
  · rename_i x e1
    cases h1
    split at h2
    · rename_i y e2
      cases h2
      rw [e1, e2]
    · cases h2
  · cases h1
@[simp] theorem op_mul_int (i j : Int) : op2 .mul (.int i) (.int j) st = need (mulOk i j) (.ok (.int (i * j), st)) := rfl
@[simp] theorem op_fdiv_int (i j : Int) : op2 .fdiv (.int i) (.int j) st = need (divOk j) (.ok (.int (i.fdiv j), st)) := rfl
@[simp] theorem op_mod_int (i j : Int) : op2 .mod (.int i) (.int j) st = need (decide (j ≠ 0)) (.ok (.int (i.fmod j), st)) := rfl
@[simp] theorem op_pow_int (i j : Int) : op2 .pow (.int i) (.int j) st = need (decide (0 ≤ j ∧ j ≤ 1000000 ∧ i.natAbs < 2 ^ 64)) (.ok (.int (i ^ j.toNat), st)) := rfl
end
theorem cmp_eq_of {x y : D} {st : Store} {b : Bool} (h : eqD st x y = some b) : cmp2 .eq x y st = .ok (.bl b, st) := by unfold cmp2; dsimp only; rw [h]; rfl
theorem cmp_ne_of {x y : D} {st : Store} {b : Bool} (h : eqD st x y = some b) : cmp2 .ne x y st = .ok (.bl (!b), st) := by unfold cmp2; dsimp only; rw [h]; rfl
theorem cmp_mem_of {x y : D} {st : Store} {b : Bool} (h : memb x y st = some b) : cmp2 .mem x y st = .ok (.bl b, st) := by unfold cmp2; dsimp only; rw [h]; rfl
end Pw
end
section
set_option Elab.async false
set_option linter.all false
set_option maxRecDepth 100000
set_option maxHeartbeats 0
namespace Pw.k61
open PySem PySem.Spec PyProof.Rows L2
def top (i : Nat) : Stmt := PySem.Challenge.pw_postsooth_k61_whole_texts_of_forms_and_f.main.body.getD i (.Pass ⟨0, 0, 0, 0⟩)
def dd (x : Str) (i : Nat) : He.DefD := ⟨(x, none), x, x, defArgs (top i), defBody (top i), defScope (top i), [], []⟩
abbrev g_MAX_HEAD : D := .int 4000
abbrev g_MAX_PERIOD : D := .int 1000
abbrev g_PAIRS : D := .tup [.str [115, 117, 109], .str [100, 105, 102, 102, 101, 114, 101, 110, 99, 101], .str [108, 101, 115, 115, 101, 114], .str [103, 114, 101, 97, 116, 101, 114], .str [111, 116, 104, 101, 114, 119, 105, 115, 101], .str [97, 102, 116, 101, 114], .str [115, 112, 108, 105, 116]]
abbrev g_SINGLES : D := .tup [.str [116, 105, 109, 101, 115], .str [100, 105, 118, 105, 100, 101, 100], .str [119, 104, 101, 114, 101], .str [109, 111, 118, 101, 100], .str [102, 114, 111, 109]]
abbrev g_MAX_SIGNS : D := .int 40
abbrev g_NO_FORM : D := .tup [.str [102, 111, 114, 109], .tup [.tup [], .tup [.tup [.non, .int 0]]]]
abbrev g_MAX_TUPLES : D := .int 40
abbrev g_MAX_DEPTH : D := .int 10
abbrev i_is_integer : Nat := 0
abbrev i_is_between : Nat := 1
abbrev i_is_name : Nat := 2
abbrev i_is_figures : Nat := 3
abbrev i_is_ascending : Nat := 4
abbrev i_is_bound : Nat := 5
abbrev i__is_pair : Nat := 6
abbrev i_form_fault : Nat := 7
abbrev i_is_values : Nat := 8
abbrev i__is_leaf : Nat := 9
abbrev i_is_right_row : Nat := 10
abbrev i_inner_of : Nat := 11
abbrev i_tuples_of : Nat := 12
abbrev i_words_of : Nat := 13
abbrev i_integer_of : Nat := 14
abbrev i_optional_of : Nat := 15
abbrev i_optional_word : Nat := 16
abbrev i_words_at : Nat := 17
abbrev i_begin : Nat := 18
abbrev i_finish : Nat := 19
abbrev i__pair_word : Nat := 20
abbrev i_form_lines : Nat := 21
abbrev i__pair_of : Nat := 22
abbrev i_read_form : Nat := 23
abbrev i_format_form : Nat := 24
abbrev i_parse_form : Nat := 25
abbrev i__row_lines : Nat := 26
abbrev i__member_word : Nat := 27
abbrev i_formula_lines : Nat := 28
abbrev i__row_of : Nat := 29
abbrev i_read_formula : Nat := 30
abbrev i_format_formula : Nat := 31
abbrev i_parse_formula : Nat := 32
abbrev i__law_state : Nat := 33
abbrev i__law_draw : Nat := 34
abbrev i__law_number : Nat := 35
abbrev i__law_name : Nat := 36
abbrev i__law_inner : Nat := 37
abbrev i__law_rows : Nat := 38
abbrev i__law_word : Nat := 39
abbrev i__law_form_lines : Nat := 40
abbrev i__law_row_lines : Nat := 41
abbrev i__law_lines : Nat := 42
abbrev i__law_long : Nat := 43
abbrev i__law_text_form : Nat := 44
abbrev i__law_text_row : Nat := 45
abbrev i__law_text : Nat := 46
abbrev i__law_formula_holds : Nat := 47
abbrev i__law_form_holds : Nat := 48
abbrev i__law_ints : Nat := 49
abbrev i_law : Nat := 50
def b_is_integer : IS :=
  (.seq (.ret (.and (.isi (.var 0) ["int"]) (.not (.isi (.var 0) ["bool"]))))
    .nil)
def d0 : Df := ⟨dd "is_integer" 4, ["value"], ["value"], ⟨1, 1, b_is_integer⟩⟩
def b_is_between : IS :=
  (.seq (.ret (.and (.call i_is_integer (.cons (.var 0) .nil)) (.and (.cmp .le (.var 1) (.var 0)) (.or (.cmp .isN (.var 2) (.cst (.non))) (.cmp .le (.var 0) (.var 2))))))
    .nil)
def d1 : Df := ⟨dd "is_between" 5, ["value", "low", "high"], ["value", "low", "high"], ⟨3, 3, b_is_between⟩⟩
def b_is_name : IS :=
  (.seq (.ifs (.or (.not (.tru (.isi (.var 0) ["str"]))) (.not (.chain .le .le (.cst (.int 1)) (.bf .len (.var 0)) (.cst (.int 12)))))
    (.seq (.ret (.cst (.bl false)))
    .nil)
    .nil)
    (.seq (.ret (.bf .all (.lc [1] (.name 1) (.wlk (.var 0)) .nil (.chain .le .le (.cst (.str [97])) (.var 1) (.cst (.str [122]))))))
    .nil))
def d2 : Df := ⟨dd "is_name" 6, ["value"], ["value", "sign"], ⟨1, 2, b_is_name⟩⟩
def b_is_figures : IS :=
  (.seq (.ret (.and (.cmp .ne (.var 0) (.cst (.str []))) (.bf .all (.lc [1] (.name 1) (.wlk (.var 0)) .nil (.chain .le .le (.cst (.str [48])) (.var 1) (.cst (.str [57])))))))
    .nil)
def d3 : Df := ⟨dd "is_figures" 7, ["text"], ["text", "sign"], ⟨1, 2, b_is_figures⟩⟩
def b_is_ascending : IS :=
  (.seq (.ret (.bf .all (.lc [1] (.name 1) (.rng .nil (.op .sub (.bf .len (.var 0)) (.cst (.int 1)))) .nil (.cmp .lt (.sub (.var 0) (.var 1)) (.sub (.var 0) (.op .add (.var 1) (.cst (.int 1))))))))
    .nil)
def d4 : Df := ⟨dd "is_ascending" 8, ["row"], ["row", "at"], ⟨1, 2, b_is_ascending⟩⟩
def b_is_bound : IS :=
  (.seq (.ret (.or (.cmp .isN (.var 0) (.cst (.non))) (.call i_is_integer (.cons (.var 0) .nil))))
    .nil)
def d5 : Df := ⟨dd "is_bound" 12, ["value"], ["value"], ⟨1, 1, b_is_bound⟩⟩
def b__is_pair : IS :=
  (.seq (.ifs (.or (.not (.tru (.isi (.var 0) ["tuple"]))) (.cmp .ne (.bf .len (.var 0)) (.cst (.int 2))))
    (.seq (.ret (.cst (.bl false)))
    .nil)
    .nil)
    (.seq (.set (.tup [1, 2]) (.var 0))
    (.seq (.ifs (.cmp .isN (.var 1) (.cst (.non)))
    (.seq (.ret (.and (.call i_is_integer (.cons (.var 2) .nil)) (.cmp .eq (.var 2) (.cst (.int 0)))))
    .nil)
    .nil)
    (.seq (.ret (.and (.call i_is_integer (.cons (.var 1) .nil)) (.call i_is_integer (.cons (.var 2) .nil))))
    .nil))))
def d6 : Df := ⟨dd "_is_pair" 13, ["pair"], ["pair", "value", "step"], ⟨1, 3, b__is_pair⟩⟩
def b_form_fault : IS :=
  (.seq (.ifs (.or (.not (.tru (.isi (.var 0) ["tuple"]))) (.cmp .ne (.bf .len (.var 0)) (.cst (.int 2))))
    (.seq (.ret (.cst (.str [102, 111, 114, 109])))
    .nil)
    .nil)
    (.seq (.set (.tup [1, 2]) (.var 0))
    (.seq (.ifs (.or (.not (.tru (.isi (.var 1) ["tuple"]))) (.not (.tru (.isi (.var 2) ["tuple"]))))
    (.seq (.ret (.cst (.str [102, 111, 114, 109])))
    .nil)
    .nil)
    (.seq (.ifs (.or (.cmp .gt (.bf .len (.var 1)) (.glo "MAX_HEAD" g_MAX_HEAD)) (.not (.tru (.bf .all (.lc [3] (.name 3) (.wlk (.var 1)) .nil (.call i_is_bound (.cons (.var 3) .nil)))))))
    (.seq (.ret (.cst (.str [104, 101, 97, 100])))
    .nil)
    .nil)
    (.seq (.ifs (.or (.not (.chain .le .le (.cst (.int 1)) (.bf .len (.var 2)) (.glo "MAX_PERIOD" g_MAX_PERIOD))) (.not (.tru (.bf .all (.lc [4] (.name 4) (.wlk (.var 2)) .nil (.call i__is_pair (.cons (.var 4) .nil)))))))
    (.seq (.ret (.cst (.str [116, 97, 105, 108])))
    .nil)
    .nil)
    (.seq (.ret (.cst (.non)))
    .nil))))))
def d7 : Df := ⟨dd "form_fault" 14, ["form"], ["form", "head", "tail", "value", "pair"], ⟨1, 5, b_form_fault⟩⟩
def b_is_values : IS :=
  (.seq (.ifs (.or (.not (.tru (.isi (.var 0) ["tuple"]))) (.not (.chain .le .le (.cst (.int 1)) (.bf .len (.var 0)) (.cst (.int 12)))))
    (.seq (.ret (.cst (.bl false)))
    .nil)
    .nil)
    (.seq (.ret (.and (.bf .all (.lc [1] (.name 1) (.wlk (.var 0)) .nil (.call i_is_between (.cons (.var 1) (.cons (.cst (.int 1)) (.cons (.cst (.int 1000)) .nil)))))) (.call i_is_ascending (.cons (.var 0) .nil))))
    .nil))
def d8 : Df := ⟨dd "is_values" 20, ["values"], ["values", "value"], ⟨1, 2, b_is_values⟩⟩
def b__is_leaf : IS :=
  (.seq (.ifs (.cmp .eq (.sub (.var 0) (.cst (.int 0))) (.cst (.str [102, 111, 114, 109])))
    (.seq (.ret (.cmp .isN (.call i_form_fault (.cons (.sub (.var 0) (.cst (.int 1))) .nil)) (.cst (.non))))
    .nil)
    .nil)
    (.seq (.ifs (.cmp .eq (.sub (.var 0) (.cst (.int 0))) (.cst (.str [110, 97, 109, 101])))
    (.seq (.ret (.call i_is_name (.cons (.sub (.var 0) (.cst (.int 1))) .nil)))
    .nil)
    .nil)
    (.seq (.ret (.and (.cmp .eq (.sub (.var 0) (.cst (.int 0))) (.cst (.str [102, 101, 119, 101, 115, 116]))) (.call i_is_values (.cons (.sub (.var 0) (.cst (.int 1))) .nil))))
    .nil)))
def d9 : Df := ⟨dd "_is_leaf" 21, ["row"], ["row"], ⟨1, 1, b__is_leaf⟩⟩
def b_is_right_row : IS :=
  (.seq (.ifs (.or (.not (.tru (.isi (.var 0) ["tuple"]))) (.cmp .lt (.bf .len (.var 0)) (.cst (.int 2))))
    (.seq (.ret (.cst (.bl false)))
    .nil)
    .nil)
    (.seq (.ifs (.cmp .eq (.bf .len (.var 0)) (.cst (.int 2)))
    (.seq (.ret (.or (.cmp .eq (.sub (.var 0) (.cst (.int 0))) (.cst (.str [102, 114, 111, 109]))) (.call i__is_leaf (.cons (.var 0) .nil))))
    .nil)
    .nil)
    (.seq (.ifs (.cmp .eq (.bf .len (.var 0)) (.cst (.int 4)))
    (.seq (.ret (.and (.cmp .eq (.sub (.var 0) (.cst (.int 0))) (.cst (.str [119, 104, 101, 114, 101]))) (.and (.call i_is_bound (.cons (.sub (.var 0) (.cst (.int 2))) .nil)) (.call i_is_bound (.cons (.sub (.var 0) (.cst (.int 3))) .nil)))))
    .nil)
    .nil)
    (.seq (.ifs (.cmp .ne (.bf .len (.var 0)) (.cst (.int 3)))
    (.seq (.ret (.cst (.bl false)))
    .nil)
    .nil)
    (.seq (.ifs (.cmp .eq (.sub (.var 0) (.cst (.int 0))) (.cst (.str [100, 105, 118, 105, 100, 101, 100])))
    (.seq (.ret (.call i_is_between (.cons (.sub (.var 0) (.cst (.int 2))) (.cons (.cst (.int 1)) (.cons (.cst (.int 1000)) .nil)))))
    .nil)
    .nil)
    (.seq (.ifs (.cmp .mem (.sub (.var 0) (.cst (.int 0))) (.tup (.cons (.cst (.str [116, 105, 109, 101, 115])) (.cons (.cst (.str [109, 111, 118, 101, 100])) .nil))))
    (.seq (.ret (.call i_is_integer (.cons (.sub (.var 0) (.cst (.int 2))) .nil)))
    .nil)
    .nil)
    (.seq (.ret (.cmp .mem (.sub (.var 0) (.cst (.int 0))) (.glo "PAIRS" g_PAIRS)))
    .nil)))))))
def d10 : Df := ⟨dd "is_right_row" 22, ["row"], ["row"], ⟨1, 1, b_is_right_row⟩⟩
def b_inner_of : IS :=
  (.seq (.ifs (.cmp .mem (.sub (.var 0) (.cst (.int 0))) (.glo "PAIRS" g_PAIRS))
    (.seq (.ret (.cut (.var 0) (.cons (.cst (.int 1)) .nil) (.cons (.cst (.int 3)) .nil)))
    .nil)
    .nil)
    (.seq (.ifs (.cmp .mem (.sub (.var 0) (.cst (.int 0))) (.glo "SINGLES" g_SINGLES))
    (.seq (.ret (.cut (.var 0) (.cons (.cst (.int 1)) .nil) (.cons (.cst (.int 2)) .nil)))
    .nil)
    .nil)
    (.seq (.ret (.tup .nil))
    .nil)))
def d11 : Df := ⟨dd "inner_of" 23, ["row"], ["row"], ⟨1, 1, b_inner_of⟩⟩
def b_tuples_of : IS :=
  (.seq (.set (.name 1) (.lst (.cons (.var 0) .nil)))
    (.seq (.fors (.name 2) (.wlk (.call i_inner_of (.cons (.var 0) .nil)))
    (.seq (.expr (.bm .extend (.var 1) (.call i_tuples_of (.cons (.var 2) .nil))))
    .nil))
    (.seq (.ret (.bf .tuple (.var 1)))
    .nil)))
def d12 : Df := ⟨dd "tuples_of" 24, ["formula"], ["formula", "found", "inner"], ⟨1, 3, b_tuples_of⟩⟩
def b_words_of : IS :=
  (.seq (.ifs (.not (.tru (.bf .all (.lc [2] (.name 2) (.wlk (.var 0)) .nil (.chain .le .le (.cst (.str [32])) (.var 2) (.cst (.str [126])))))))
    (.seq (.ret (.cst (.non)))
    .nil)
    .nil)
    (.seq (.set (.name 1) (.bm .split (.var 0) (.cst (.str [32]))))
    (.seq (.ifs (.cmp .mem (.cst (.str [])) (.var 1))
    (.seq (.ret (.cst (.non)))
    .nil)
    .nil)
    (.seq (.ret (.var 1))
    .nil))))
def d13 : Df := ⟨dd "words_of" 27, ["line"], ["line", "words", "sign"], ⟨1, 3, b_words_of⟩⟩
def b_integer_of : IS :=
  (.seq (.set (.name 1) (.ite (.tru (.bm .startswith (.var 0) (.cst (.str [45])))) (.cut (.var 0) (.cons (.cst (.int 1)) .nil) .nil) (.var 0)))
    (.seq (.ifs (.or (.cmp .gt (.bf .len (.var 0)) (.glo "MAX_SIGNS" g_MAX_SIGNS)) (.not (.tru (.call i_is_figures (.cons (.var 1) .nil)))))
    (.seq (.ret (.cst (.non)))
    .nil)
    .nil)
    (.seq (.ifs (.cmp .ne (.bf .str (.bf .int (.var 0))) (.var 0))
    (.seq (.ret (.cst (.non)))
    .nil)
    .nil)
    (.seq (.ret (.bf .int (.var 0)))
    .nil))))
def d14 : Df := ⟨dd "integer_of" 28, ["word"], ["word", "figures"], ⟨1, 2, b_integer_of⟩⟩
def b_optional_of : IS :=
  (.seq (.ifs (.cmp .eq (.var 0) (.var 1))
    (.seq (.ret (.cst (.non)))
    .nil)
    .nil)
    (.seq (.set (.name 2) (.call i_integer_of (.cons (.var 0) .nil)))
    (.seq (.ret (.ite (.cmp .isN (.var 2) (.cst (.non))) (.var 0) (.var 2)))
    .nil)))
def d15 : Df := ⟨dd "optional_of" 29, ["word", "none"], ["word", "none", "number"], ⟨2, 3, b_optional_of⟩⟩
def b_optional_word : IS :=
  (.seq (.ifs (.cmp .isN (.var 0) (.cst (.non)))
    (.seq (.ret (.var 1))
    .nil)
    .nil)
    (.seq (.ret (.bf .str (.var 0)))
    .nil))
def d16 : Df := ⟨dd "optional_word" 30, ["number", "none"], ["number", "none"], ⟨2, 2, b_optional_word⟩⟩
def b_words_at : IS :=
  (.seq (.set (.name 2) (.ite (.cmp .lt (.var 1) (.bf .len (.var 0))) (.call i_words_of (.cons (.sub (.var 0) (.var 1)) .nil)) (.cst (.non))))
    (.seq (.ifs (.cmp .isN (.var 2) (.cst (.non)))
    (.seq (.raise Str.empty .nil)
    .nil)
    .nil)
    (.seq (.ret (.var 2))
    .nil)))
def d17 : Df := ⟨dd "words_at" 33, ["lines", "at"], ["lines", "at", "words"], ⟨2, 3, b_words_at⟩⟩
def b_begin : IS :=
  (.seq (.set (.name 2) (.bm .split (.var 0) (.cst (.str [10]))))
    (.seq (.ifs (.cmp .ne (.call i_words_at (.cons (.var 2) (.cons (.cst (.int 0)) .nil))) (.var 1))
    (.seq (.raise Str.empty .nil)
    .nil)
    .nil)
    (.seq (.ret (.var 2))
    .nil)))
def d18 : Df := ⟨dd "begin" 34, ["text", "first"], ["text", "first", "lines"], ⟨2, 3, b_begin⟩⟩
def b_finish : IS :=
  (.seq (.ifs (.cmp .ne (.call i_words_at (.cons (.var 0) (.cons (.var 1) .nil))) (.lst (.cons (.cst (.str [101, 110, 100])) .nil)))
    (.seq (.raise Str.empty .nil)
    .nil)
    .nil)
    (.seq (.ifs (.cmp .lt (.op .add (.var 1) (.cst (.int 1))) (.bf .len (.var 0)))
    (.seq (.raise Str.empty .nil)
    .nil)
    .nil)
    .nil))
def d19 : Df := ⟨dd "finish" 35, ["lines", "at"], ["lines", "at"], ⟨2, 2, b_finish⟩⟩
def b__pair_word : IS :=
  (.seq (.set (.tup [1, 2]) (.var 0))
    (.seq (.ret (.ite (.cmp .isN (.var 1) (.cst (.non))) (.cst (.str [110, 111, 110, 101])) (.fst (.cons (.fmt (.var 1)) (.cons (.cst (.str [47])) (.cons (.fmt (.var 2)) .nil))))))
    .nil))
def d20 : Df := ⟨dd "_pair_word" 36, ["pair"], ["pair", "value", "step"], ⟨1, 3, b__pair_word⟩⟩
def b_form_lines : IS :=
  (.seq (.set (.name 1) (.op .add (.lst (.cons (.cst (.str [104, 101, 97, 100])) .nil)) (.lc [3] (.name 3) (.wlk (.sub (.var 0) (.cst (.int 0)))) .nil (.call i_optional_word (.cons (.var 3) (.cons (.cst (.str [110, 111, 110, 101])) .nil))))))
    (.seq (.set (.name 2) (.op .add (.lst (.cons (.cst (.str [116, 97, 105, 108])) .nil)) (.lc [4] (.name 4) (.wlk (.sub (.var 0) (.cst (.int 1)))) .nil (.call i__pair_word (.cons (.var 4) .nil)))))
    (.seq (.ret (.lst (.cons (.bm .join (.cst (.str [32])) (.var 1)) (.cons (.bm .join (.cst (.str [32])) (.var 2)) .nil))))
    .nil)))
def d21 : Df := ⟨dd "form_lines" 37, ["form"], ["form", "head", "tail", "value", "pair"], ⟨1, 5, b_form_lines⟩⟩
def b__pair_of : IS :=
  (.seq (.ifs (.cmp .eq (.var 0) (.cst (.str [110, 111, 110, 101])))
    (.seq (.ret (.tup (.cons (.cst (.non)) (.cons (.cst (.int 0)) .nil))))
    .nil)
    .nil)
    (.seq (.set (.name 1) (.bm .split (.var 0) (.cst (.str [47]))))
    (.seq (.ifs (.cmp .ne (.bf .len (.var 1)) (.cst (.int 2)))
    (.seq (.ret (.cst (.non)))
    .nil)
    .nil)
    (.seq (.set (.name 2) (.call i_integer_of (.cons (.sub (.var 1) (.cst (.int 0))) .nil)))
    (.seq (.set (.name 3) (.call i_integer_of (.cons (.sub (.var 1) (.cst (.int 1))) .nil)))
    (.seq (.ret (.ite (.or (.cmp .isN (.var 2) (.cst (.non))) (.cmp .isN (.var 3) (.cst (.non)))) (.cst (.non)) (.tup (.cons (.var 2) (.cons (.var 3) .nil)))))
    .nil))))))
def d22 : Df := ⟨dd "_pair_of" 38, ["word"], ["word", "parts", "value", "step"], ⟨1, 4, b__pair_of⟩⟩
def b_read_form : IS :=
  (.seq (.set (.name 2) (.call i_words_at (.cons (.var 0) (.cons (.var 1) .nil))))
    (.seq (.set (.name 3) (.bf .tuple (.lc [5] (.name 5) (.wlk (.cut (.var 2) (.cons (.cst (.int 1)) .nil) .nil)) .nil (.call i_optional_of (.cons (.var 5) (.cons (.cst (.str [110, 111, 110, 101])) .nil))))))
    (.seq (.ifs (.or (.cmp .ne (.sub (.var 2) (.cst (.int 0))) (.cst (.str [104, 101, 97, 100]))) (.cmp .notN (.call i_form_fault (.cons (.tup (.cons (.var 3) (.cons (.tup (.cons (.tup (.cons (.cst (.non)) (.cons (.cst (.int 0)) .nil))) .nil)) .nil))) .nil)) (.cst (.non))))
    (.seq (.raise Str.empty .nil)
    .nil)
    .nil)
    (.seq (.set (.name 2) (.call i_words_at (.cons (.var 0) (.cons (.op .add (.var 1) (.cst (.int 1))) .nil))))
    (.seq (.set (.name 4) (.tup (.cons (.var 3) (.cons (.bf .tuple (.lc [5] (.name 5) (.wlk (.cut (.var 2) (.cons (.cst (.int 1)) .nil) .nil)) .nil (.call i__pair_of (.cons (.var 5) .nil)))) .nil))))
    (.seq (.ifs (.or (.cmp .ne (.sub (.var 2) (.cst (.int 0))) (.cst (.str [116, 97, 105, 108]))) (.cmp .notN (.call i_form_fault (.cons (.var 4) .nil)) (.cst (.non))))
    (.seq (.raise Str.empty .nil)
    .nil)
    .nil)
    (.seq (.ret (.var 4))
    .nil)))))))
def d23 : Df := ⟨dd "read_form" 39, ["lines", "at"], ["lines", "at", "words", "head", "form", "word"], ⟨2, 6, b_read_form⟩⟩
def b_format_form : IS :=
  (.seq (.ret (.bm .join (.cst (.str [10])) (.op .add (.op .add (.lst (.cons (.cst (.str [102, 111, 114, 109])) .nil)) (.call i_form_lines (.cons (.var 0) .nil))) (.lst (.cons (.cst (.str [101, 110, 100])) .nil)))))
    .nil)
def d24 : Df := ⟨dd "format_form" 40, ["form"], ["form"], ⟨1, 1, b_format_form⟩⟩
def b_parse_form : IS :=
  (.seq (.set (.name 1) (.call i_begin (.cons (.var 0) (.cons (.lst (.cons (.cst (.str [102, 111, 114, 109])) .nil)) .nil))))
    (.seq (.set (.name 2) (.call i_read_form (.cons (.var 1) (.cons (.cst (.int 1)) .nil))))
    (.seq (.expr (.call i_finish (.cons (.var 1) (.cons (.cst (.int 3)) .nil))))
    (.seq (.ret (.var 2))
    .nil))))
def d25 : Df := ⟨dd "parse_form" 41, ["text"], ["text", "lines", "form"], ⟨1, 3, b_parse_form⟩⟩
def b__row_lines : IS :=
  (.seq (.ifs (.cmp .eq (.sub (.var 0) (.cst (.int 0))) (.cst (.str [102, 111, 114, 109])))
    (.seq (.ret (.call i_form_lines (.cons (.sub (.var 0) (.cst (.int 1))) .nil)))
    .nil)
    .nil)
    (.seq (.ifs (.cmp .eq (.sub (.var 0) (.cst (.int 0))) (.cst (.str [102, 101, 119, 101, 115, 116])))
    (.seq (.ret (.lst (.cons (.bm .join (.cst (.str [32])) (.op .add (.lst (.cons (.cst (.str [102, 101, 119, 101, 115, 116])) .nil)) (.lc [2] (.name 2) (.wlk (.sub (.var 0) (.cst (.int 1)))) .nil (.bf .str (.var 2))))) .nil)))
    .nil)
    .nil)
    (.seq (.set (.name 1) (.cut (.var 0) (.cons (.op .add (.cst (.int 1)) (.bf .len (.call i_inner_of (.cons (.var 0) .nil)))) .nil) .nil))
    (.seq (.ret (.lst (.cons (.bm .join (.cst (.str [32])) (.op .add (.lst (.cons (.sub (.var 0) (.cst (.int 0))) .nil)) (.lc [3] (.name 3) (.wlk (.var 1)) .nil (.call i__member_word (.cons (.var 3) .nil))))) .nil)))
    .nil))))
def d26 : Df := ⟨dd "_row_lines" 42, ["row"], ["row", "numbers", "value", "number"], ⟨1, 4, b__row_lines⟩⟩
def b__member_word : IS :=
  (.seq (.ret (.ite (.tru (.isi (.var 0) ["str"])) (.var 0) (.call i_optional_word (.cons (.var 0) (.cons (.cst (.str [110, 111, 110, 101])) .nil)))))
    .nil)
def d27 : Df := ⟨dd "_member_word" 43, ["member"], ["member"], ⟨1, 1, b__member_word⟩⟩
def b_formula_lines : IS :=
  (.seq (.set (.name 1) (.lst .nil))
    (.seq (.fors (.name 2) (.wlk (.call i_tuples_of (.cons (.var 0) .nil)))
    (.seq (.expr (.bm .extend (.var 1) (.call i__row_lines (.cons (.var 2) .nil))))
    .nil))
    (.seq (.ret (.var 1))
    .nil)))
def d28 : Df := ⟨dd "formula_lines" 44, ["formula"], ["formula", "found", "row"], ⟨1, 3, b_formula_lines⟩⟩
def b__row_of : IS :=
  (.seq (.set (.name 1) (.sub (.var 0) (.cst (.int 0))))
    (.seq (.ifs (.cmp .mem (.var 1) (.glo "PAIRS" g_PAIRS))
    (.seq (.set (.name 2) (.ite (.cmp .eq (.bf .len (.var 0)) (.cst (.int 1))) (.tup (.cons (.var 1) (.cons (.glo "NO_FORM" g_NO_FORM) (.cons (.glo "NO_FORM" g_NO_FORM) .nil)))) (.cst (.non))))
    .nil)
    (.seq (.ifs (.cmp .eq (.var 1) (.cst (.str [102, 114, 111, 109])))
    (.seq (.set (.name 2) (.ite (.cmp .eq (.bf .len (.var 0)) (.cst (.int 1))) (.tup (.cons (.var 1) (.cons (.glo "NO_FORM" g_NO_FORM) .nil))) (.cst (.non))))
    .nil)
    (.seq (.ifs (.cmp .eq (.var 1) (.cst (.str [110, 97, 109, 101])))
    (.seq (.set (.name 2) (.bf .tuple (.var 0)))
    .nil)
    (.seq (.ifs (.cmp .eq (.var 1) (.cst (.str [102, 101, 119, 101, 115, 116])))
    (.seq (.set (.name 2) (.tup (.cons (.var 1) (.cons (.bf .tuple (.lc [3] (.name 3) (.wlk (.cut (.var 0) (.cons (.cst (.int 1)) .nil) .nil)) .nil (.call i_integer_of (.cons (.var 3) .nil)))) .nil))))
    .nil)
    (.seq (.set (.name 2) (.op .add (.tup (.cons (.var 1) (.cons (.glo "NO_FORM" g_NO_FORM) .nil))) (.bf .tuple (.lc [3] (.name 3) (.wlk (.cut (.var 0) (.cons (.cst (.int 1)) .nil) .nil)) .nil (.call i_optional_of (.cons (.var 3) (.cons (.cst (.str [110, 111, 110, 101])) .nil)))))))
    .nil))
    .nil))
    .nil))
    .nil))
    (.seq (.ret (.ite (.and (.cmp .notN (.var 2) (.cst (.non))) (.and (.cmp .ne (.sub (.var 2) (.cst (.int 0))) (.cst (.str [102, 111, 114, 109]))) (.tru (.call i_is_right_row (.cons (.var 2) .nil))))) (.var 2) (.cst (.non))))
    .nil)))
def d29 : Df := ⟨dd "_row_of" 45, ["words"], ["words", "word", "row", "other"], ⟨1, 4, b__row_of⟩⟩
def b_read_formula : IS :=
  (.seq (.set (.name 4) (.call i_words_at (.cons (.var 0) (.cons (.var 1) .nil))))
    (.seq (.ifs (.cmp .eq (.sub (.var 4) (.cst (.int 0))) (.cst (.str [104, 101, 97, 100])))
    (.seq (.augSub (.var 3) (.cst (.int 0)) .add (.cst (.int 1)))
    (.seq (.augSub (.var 3) (.cst (.int 1)) .sub (.cst (.int 1)))
    (.seq (.ret (.tup (.cons (.tup (.cons (.cst (.str [102, 111, 114, 109])) (.cons (.call i_read_form (.cons (.var 0) (.cons (.var 1) .nil))) .nil))) (.cons (.op .add (.var 1) (.cst (.int 2))) .nil))))
    .nil)))
    .nil)
    (.seq (.set (.name 5) (.call i__row_of (.cons (.var 4) .nil)))
    (.seq (.ifs (.cmp .isN (.var 5) (.cst (.non)))
    (.seq (.raise Str.empty .nil)
    .nil)
    .nil)
    (.seq (.set (.name 6) (.bf .len (.call i_inner_of (.cons (.var 5) .nil))))
    (.seq (.augSub (.var 3) (.cst (.int 0)) .add (.cst (.int 1)))
    (.seq (.augSub (.var 3) (.cst (.int 1)) .add (.op .sub (.var 6) (.cst (.int 1))))
    (.seq (.ifs (.or (.cmp .gt (.op .add (.sub (.var 3) (.cst (.int 0))) (.sub (.var 3) (.cst (.int 1)))) (.glo "MAX_TUPLES" g_MAX_TUPLES)) (.and (.cmp .gt (.var 6) (.cst (.int 0))) (.cmp .eq (.var 2) (.glo "MAX_DEPTH" g_MAX_DEPTH))))
    (.seq (.raise Str.empty .nil)
    .nil)
    .nil)
    (.seq (.aug 1 .add (.cst (.int 1)))
    (.seq (.set (.name 7) (.lst .nil))
    (.seq (.fors (.name 8) (.rng .nil (.var 6))
    (.seq (.set (.tup [9, 1]) (.call i_read_formula (.cons (.var 0) (.cons (.var 1) (.cons (.op .add (.var 2) (.cst (.int 1))) (.cons (.var 3) .nil))))))
    (.seq (.expr (.bm .append (.var 7) (.var 9)))
    .nil)))
    (.seq (.ret (.tup (.cons (.op .add (.op .add (.cut (.var 5) .nil (.cons (.cst (.int 1)) .nil)) (.bf .tuple (.var 7))) (.cut (.var 5) (.cons (.op .add (.cst (.int 1)) (.var 6)) .nil) .nil)) (.cons (.var 1) .nil))))
    .nil))))))))))))
def d30 : Df := ⟨dd "read_formula" 46, ["lines", "at", "depth", "counts"], ["lines", "at", "depth", "counts", "words", "row", "size", "found", "_", "inner"], ⟨4, 10, b_read_formula⟩⟩
def b_format_formula : IS :=
  (.seq (.ret (.bm .join (.cst (.str [10])) (.op .add (.op .add (.lst (.cons (.cst (.str [102, 111, 114, 109, 117, 108, 97])) .nil)) (.call i_formula_lines (.cons (.var 0) .nil))) (.lst (.cons (.cst (.str [101, 110, 100])) .nil)))))
    .nil)
def d31 : Df := ⟨dd "format_formula" 47, ["formula"], ["formula"], ⟨1, 1, b_format_formula⟩⟩
def b_parse_formula : IS :=
  (.seq (.set (.name 1) (.call i_begin (.cons (.var 0) (.cons (.lst (.cons (.cst (.str [102, 111, 114, 109, 117, 108, 97])) .nil)) .nil))))
    (.seq (.set (.tup [2, 3]) (.call i_read_formula (.cons (.var 1) (.cons (.cst (.int 1)) (.cons (.cst (.int 1)) (.cons (.lst (.cons (.cst (.int 0)) (.cons (.cst (.int 1)) .nil))) .nil))))))
    (.seq (.expr (.call i_finish (.cons (.var 1) (.cons (.var 3) .nil))))
    (.seq (.ret (.var 2))
    .nil))))
def d32 : Df := ⟨dd "parse_formula" 48, ["text"], ["text", "lines", "formula", "at"], ⟨1, 4, b_parse_formula⟩⟩
def b__law_state : IS :=
  (.seq (.ret (.lst (.cons (.bf .list (.var 0)) (.cons (.cst (.int 0)) (.cons (.cst (.int 0)) (.cons (.cst (.int 0)) (.cons (.cst (.bl false)) .nil)))))))
    .nil)
def d33 : Df := ⟨dd "_law_state" 50, ["script"], ["script"], ⟨1, 1, b__law_state⟩⟩
def b__law_draw : IS :=
  (.seq (.ifs (.cmp .eq (.sub (.var 0) (.cst (.int 3))) (.cst (.int 0)))
    (.seq (.ifs (.cmp .ge (.sub (.var 0) (.cst (.int 1))) (.bf .len (.sub (.var 0) (.cst (.int 0)))))
    (.seq (.ret (.cst (.int 0)))
    .nil)
    .nil)
    (.seq (.set (.name 2) (.sub (.sub (.var 0) (.cst (.int 0))) (.sub (.var 0) (.cst (.int 1)))))
    (.seq (.ifs (.cmp .lt (.var 2) (.cst (.int 0)))
    (.seq (.set (.name 2) (.op .sub (.neg (.cst (.int 1))) (.var 2)))
    .nil)
    .nil)
    (.seq (.setSub (.var 0) (.cst (.int 1)) (.op .add (.sub (.var 0) (.cst (.int 1))) (.cst (.int 1))))
    (.seq (.setSub (.var 0) (.cst (.int 2)) (.var 2))
    (.seq (.setSub (.var 0) (.cst (.int 4)) (.cmp .ge (.var 2) (.op .pow (.cst (.int 10)) (.cst (.int 18)))))
    (.seq (.setSub (.var 0) (.cst (.int 3)) (.cst (.int 6)))
    (.seq (.ifs (.tru (.sub (.var 0) (.cst (.int 4))))
    (.seq (.setSub (.var 0) (.cst (.int 3)) (.cst (.int 60)))
    .nil)
    .nil)
    .nil))))))))
    .nil)
    (.seq (.setSub (.var 0) (.cst (.int 3)) (.op .sub (.sub (.var 0) (.cst (.int 3))) (.cst (.int 1))))
    (.seq (.ifs (.tru (.sub (.var 0) (.cst (.int 4))))
    (.seq (.set (.name 3) (.op .mod (.bf .int (.sub (.var 0) (.cst (.int 2)))) (.var 1)))
    (.seq (.setSub (.var 0) (.cst (.int 2)) (.op .fdiv (.sub (.var 0) (.cst (.int 2))) (.var 1)))
    (.seq (.ifs (.cmp .eq (.sub (.var 0) (.cst (.int 2))) (.cst (.int 0)))
    (.seq (.setSub (.var 0) (.cst (.int 3)) (.cst (.int 0)))
    .nil)
    .nil)
    (.seq (.ret (.var 3))
    .nil))))
    .nil)
    (.seq (.set (.name 4) (.op .mod (.bf .int (.op .add (.op .add (.op .mul (.sub (.var 0) (.cst (.int 2))) (.cst (.int 48271))) (.op .mul (.sub (.var 0) (.cst (.int 3))) (.cst (.int 69621)))) (.cst (.int 7)))) (.cst (.int 2147483647))))
    (.seq (.set (.name 4) (.op .mod (.bf .int (.op .add (.op .add (.op .mul (.var 4) (.var 4)) (.op .mul (.sub (.var 0) (.cst (.int 2))) (.cst (.int 31)))) (.sub (.var 0) (.cst (.int 3))))) (.cst (.int 1000003))))
    (.seq (.ret (.op .mod (.bf .int (.var 4)) (.var 1)))
    .nil))))))
def d34 : Df := ⟨dd "_law_draw" 51, ["state", "limit"], ["state", "limit", "cell", "digit", "mixed"], ⟨2, 5, b__law_draw⟩⟩
def b__law_number : IS :=
  (.seq (.set (.name 1) (.call i__law_draw (.cons (.var 0) (.cons (.cst (.int 8)) .nil))))
    (.seq (.ifs (.cmp .lt (.var 1) (.cst (.int 5)))
    (.seq (.ret (.op .sub (.call i__law_draw (.cons (.var 0) (.cons (.cst (.int 9)) .nil))) (.cst (.int 3))))
    .nil)
    .nil)
    (.seq (.ifs (.cmp .lt (.var 1) (.cst (.int 7)))
    (.seq (.ret (.op .sub (.call i__law_draw (.cons (.var 0) (.cons (.cst (.int 241)) .nil))) (.cst (.int 120))))
    .nil)
    .nil)
    (.seq (.ret (.op .add (.op .mul (.op .sub (.call i__law_draw (.cons (.var 0) (.cons (.cst (.int 2001)) .nil))) (.cst (.int 1000))) (.op .pow (.cst (.int 10)) (.cst (.int 24)))) (.call i__law_draw (.cons (.var 0) (.cons (.cst (.int 1000)) .nil)))))
    .nil))))
def d35 : Df := ⟨dd "_law_number" 52, ["state"], ["state", "kind"], ⟨1, 2, b__law_number⟩⟩
def b__law_name : IS :=
  (.seq (.set (.name 1) (.cst (.str [97, 98, 99, 100, 101, 102, 103, 104, 105, 106, 107, 108, 109, 110, 111, 112, 113, 114, 115, 116, 117, 118, 119, 120, 121, 122])))
    (.seq (.set (.name 2) (.op .add (.cst (.int 1)) (.sub (.lst (.cons (.call i__law_draw (.cons (.var 0) (.cons (.cst (.int 3)) .nil))) (.cons (.call i__law_draw (.cons (.var 0) (.cons (.cst (.int 12)) .nil))) .nil))) (.call i__law_draw (.cons (.var 0) (.cons (.cst (.int 2)) .nil))))))
    (.seq (.set (.name 3) (.cst (.str [])))
    (.seq (.fors (.name 4) (.rng .nil (.var 2))
    (.seq (.set (.name 3) (.op .add (.var 3) (.sub (.var 1) (.call i__law_draw (.cons (.var 0) (.cons (.cst (.int 26)) .nil))))))
    .nil))
    (.seq (.ret (.var 3))
    .nil)))))
def d36 : Df := ⟨dd "_law_name" 53, ["state"], ["state", "letters", "size", "name", "k"], ⟨1, 5, b__law_name⟩⟩
def b__law_inner : IS :=
  (.seq (.ifs (.or (.not (.tru (.isi (.var 0) ["tuple"]))) (.or (.cmp .lt (.bf .len (.var 0)) (.cst (.int 2))) (.cmp .mem (.sub (.var 0) (.cst (.int 0))) (.lst (.cons (.cst (.str [102, 111, 114, 109])) (.cons (.cst (.str [110, 97, 109, 101])) (.cons (.cst (.str [102, 101, 119, 101, 115, 116])) .nil)))))))
    (.seq (.ret (.lst .nil))
    .nil)
    .nil)
    (.seq (.ifs (.cmp .mem (.sub (.var 0) (.cst (.int 0))) (.lst (.cons (.cst (.str [116, 105, 109, 101, 115])) (.cons (.cst (.str [100, 105, 118, 105, 100, 101, 100])) (.cons (.cst (.str [119, 104, 101, 114, 101])) (.cons (.cst (.str [109, 111, 118, 101, 100])) (.cons (.cst (.str [102, 114, 111, 109])) .nil)))))))
    (.seq (.ret (.lst (.cons (.sub (.var 0) (.cst (.int 1))) .nil)))
    .nil)
    .nil)
    (.seq (.ifs (.cmp .ne (.bf .len (.var 0)) (.cst (.int 3)))
    (.seq (.ret (.lst .nil))
    .nil)
    .nil)
    (.seq (.ret (.lst (.cons (.sub (.var 0) (.cst (.int 1))) (.cons (.sub (.var 0) (.cst (.int 2))) .nil))))
    .nil))))
def d37 : Df := ⟨dd "_law_inner" 54, ["row"], ["row"], ⟨1, 1, b__law_inner⟩⟩
def b__law_rows : IS :=
  (.seq (.set (.name 1) (.lst (.cons (.var 0) .nil)))
    (.seq (.fors (.name 2) (.wlk (.call i__law_inner (.cons (.var 0) .nil)))
    (.seq (.set (.name 1) (.op .add (.var 1) (.call i__law_rows (.cons (.var 2) .nil))))
    .nil))
    (.seq (.ret (.var 1))
    .nil)))
def d38 : Df := ⟨dd "_law_rows" 55, ["formula"], ["formula", "found", "inner"], ⟨1, 3, b__law_rows⟩⟩
def b__law_word : IS :=
  (.seq (.ifs (.cmp .isN (.var 0) (.cst (.non)))
    (.seq (.ret (.cst (.str [110, 111, 110, 101])))
    .nil)
    .nil)
    (.seq (.ret (.bf .str (.var 0)))
    .nil))
def d39 : Df := ⟨dd "_law_word" 56, ["value"], ["value"], ⟨1, 1, b__law_word⟩⟩
def b__law_form_lines : IS :=
  (.seq (.set (.name 1) (.cst (.str [104, 101, 97, 100])))
    (.seq (.fors (.name 2) (.wlk (.sub (.var 0) (.cst (.int 0))))
    (.seq (.set (.name 1) (.op .add (.op .add (.var 1) (.cst (.str [32]))) (.call i__law_word (.cons (.var 2) .nil))))
    .nil))
    (.seq (.set (.name 3) (.cst (.str [116, 97, 105, 108])))
    (.seq (.fors (.tup [2, 4]) (.wlk (.sub (.var 0) (.cst (.int 1))))
    (.seq (.set (.name 3) (.op .add (.op .add (.var 3) (.cst (.str [32]))) (.sub (.lst (.cons (.cst (.str [110, 111, 110, 101])) (.cons (.op .add (.op .add (.call i__law_word (.cons (.var 2) .nil)) (.cst (.str [47]))) (.bf .str (.var 4))) .nil))) (.bf .int (.cmp .notN (.var 2) (.cst (.non)))))))
    .nil))
    (.seq (.ret (.lst (.cons (.var 1) (.cons (.var 3) .nil))))
    .nil)))))
def d40 : Df := ⟨dd "_law_form_lines" 57, ["form"], ["form", "head", "value", "tail", "step"], ⟨1, 5, b__law_form_lines⟩⟩
def b__law_row_lines : IS :=
  (.seq (.ifs (.cmp .eq (.sub (.var 0) (.cst (.int 0))) (.cst (.str [102, 111, 114, 109])))
    (.seq (.ret (.call i__law_form_lines (.cons (.sub (.var 0) (.cst (.int 1))) .nil)))
    .nil)
    .nil)
    (.seq (.ifs (.cmp .eq (.sub (.var 0) (.cst (.int 0))) (.cst (.str [102, 101, 119, 101, 115, 116])))
    (.seq (.ret (.lst (.cons (.op .add (.cst (.str [102, 101, 119, 101, 115, 116, 32])) (.bm .join (.cst (.str [32])) (.lc [3] (.name 3) (.wlk (.sub (.var 0) (.cst (.int 1)))) .nil (.bf .str (.var 3))))) .nil)))
    .nil)
    .nil)
    (.seq (.ifs (.cmp .eq (.sub (.var 0) (.cst (.int 0))) (.cst (.str [110, 97, 109, 101])))
    (.seq (.ret (.lst (.cons (.op .add (.cst (.str [110, 97, 109, 101, 32])) (.sub (.var 0) (.cst (.int 1)))) .nil)))
    .nil)
    .nil)
    (.seq (.set (.name 1) (.lst (.cons (.sub (.var 0) (.cst (.int 0))) .nil)))
    (.seq (.fors (.name 2) (.wlk (.cut (.var 0) (.cons (.op .add (.cst (.int 1)) (.bf .len (.call i__law_inner (.cons (.var 0) .nil)))) .nil) .nil))
    (.seq (.expr (.bm .append (.var 1) (.call i__law_word (.cons (.var 2) .nil))))
    .nil))
    (.seq (.ret (.lst (.cons (.bm .join (.cst (.str [32])) (.var 1)) .nil)))
    .nil))))))
def d41 : Df := ⟨dd "_law_row_lines" 58, ["row"], ["row", "words", "number", "value"], ⟨1, 4, b__law_row_lines⟩⟩
def b__law_lines : IS :=
  (.seq (.set (.name 1) (.lst .nil))
    (.seq (.fors (.name 2) (.wlk (.call i__law_rows (.cons (.var 0) .nil)))
    (.seq (.set (.name 1) (.op .add (.var 1) (.call i__law_row_lines (.cons (.var 2) .nil))))
    .nil))
    (.seq (.ret (.var 1))
    .nil)))
def d42 : Df := ⟨dd "_law_lines" 59, ["formula"], ["formula", "found", "row"], ⟨1, 3, b__law_lines⟩⟩
def b__law_long : IS :=
  (.seq (.set (.name 1) (.call i__law_draw (.cons (.var 0) (.cons (.cst (.int 12)) .nil))))
    (.seq (.ifs (.cmp .eq (.var 1) (.cst (.int 0)))
    (.seq (.ret (.op .add (.op .pow (.cst (.int 10)) (.cst (.int 39))) (.call i__law_draw (.cons (.var 0) (.cons (.cst (.int 9)) .nil)))))
    .nil)
    .nil)
    (.seq (.ifs (.cmp .eq (.var 1) (.cst (.int 1)))
    (.seq (.ret (.op .sub (.op .sub (.cst (.int 0)) (.op .pow (.cst (.int 10)) (.cst (.int 38)))) (.call i__law_draw (.cons (.var 0) (.cons (.cst (.int 9)) .nil)))))
    .nil)
    .nil)
    (.seq (.ret (.call i__law_number (.cons (.var 0) .nil)))
    .nil))))
def d43 : Df := ⟨dd "_law_long" 60, ["state"], ["state", "kind"], ⟨1, 2, b__law_long⟩⟩
def b__law_text_form : IS :=
  (.seq (.set (.name 1) (.lc [3] (.name 3) (.rng .nil (.call i__law_draw (.cons (.var 0) (.cons (.cst (.int 6)) .nil)))) .nil (.sub (.lst (.cons (.cst (.non)) (.cons (.call i__law_long (.cons (.var 0) .nil)) .nil))) (.bf .int (.cmp .gt (.call i__law_draw (.cons (.var 0) (.cons (.cst (.int 4)) .nil))) (.cst (.int 0)))))))
    (.seq (.set (.name 2) (.lc [3] (.name 3) (.rng .nil (.op .add (.cst (.int 1)) (.call i__law_draw (.cons (.var 0) (.cons (.cst (.int 4)) .nil))))) .nil (.sub (.lst (.cons (.tup (.cons (.cst (.non)) (.cons (.cst (.int 0)) .nil))) (.cons (.tup (.cons (.call i__law_long (.cons (.var 0) .nil)) (.cons (.call i__law_long (.cons (.var 0) .nil)) .nil))) .nil))) (.bf .int (.cmp .gt (.call i__law_draw (.cons (.var 0) (.cons (.cst (.int 4)) .nil))) (.cst (.int 0)))))))
    (.seq (.ret (.tup (.cons (.bf .tuple (.var 1)) (.cons (.bf .tuple (.var 2)) .nil))))
    .nil)))
def d44 : Df := ⟨dd "_law_text_form" 61, ["state"], ["state", "head", "tail", "k"], ⟨1, 4, b__law_text_form⟩⟩
def b__law_text_row : IS :=
  (.seq (.set (.name 2) (.call i__law_draw (.cons (.var 0) (.cons (.cst (.int 15)) .nil))))
    (.seq (.ifs (.or (.cmp .eq (.var 1) (.cst (.int 0))) (.cmp .lt (.var 2) (.cst (.int 3))))
    (.seq (.set (.name 3) (.bf .sorted (.lst (.cons (.op .add (.cst (.int 1)) (.call i__law_draw (.cons (.var 0) (.cons (.cst (.int 1000)) .nil)))) (.cons (.op .sub (.op .sub (.cst (.int 1001)) (.cst (.int 1))) (.call i__law_draw (.cons (.var 0) (.cons (.cst (.int 3)) .nil)))) .nil)))))
    (.seq (.ifs (.cmp .eq (.sub (.var 3) (.cst (.int 0))) (.sub (.var 3) (.cst (.int 1))))
    (.seq (.set (.name 3) (.cut (.var 3) .nil (.cons (.cst (.int 1)) .nil)))
    .nil)
    .nil)
    (.seq (.ret (.sub (.lst (.cons (.tup (.cons (.cst (.str [102, 111, 114, 109])) (.cons (.call i__law_text_form (.cons (.var 0) .nil)) .nil))) (.cons (.tup (.cons (.cst (.str [110, 97, 109, 101])) (.cons (.call i__law_name (.cons (.var 0) .nil)) .nil))) (.cons (.tup (.cons (.cst (.str [102, 101, 119, 101, 115, 116])) (.cons (.bf .tuple (.var 3)) .nil))) .nil)))) (.op .mod (.bf .int (.var 2)) (.cst (.int 3)))))
    .nil)))
    .nil)
    (.seq (.set (.name 4) (.call i__law_text_row (.cons (.var 0) (.cons (.op .sub (.var 1) (.cst (.int 1))) .nil))))
    (.seq (.ifs (.cmp .eq (.var 2) (.cst (.int 3)))
    (.seq (.ret (.tup (.cons (.cst (.str [116, 105, 109, 101, 115])) (.cons (.var 4) (.cons (.call i__law_long (.cons (.var 0) .nil)) .nil)))))
    .nil)
    .nil)
    (.seq (.ifs (.cmp .eq (.var 2) (.cst (.int 4)))
    (.seq (.ret (.tup (.cons (.cst (.str [100, 105, 118, 105, 100, 101, 100])) (.cons (.var 4) (.cons (.sub (.lst (.cons (.op .add (.cst (.int 1)) (.call i__law_draw (.cons (.var 0) (.cons (.cst (.int 1000)) .nil)))) (.cons (.cst (.int 1000)) .nil))) (.call i__law_draw (.cons (.var 0) (.cons (.cst (.int 2)) .nil)))) .nil)))))
    .nil)
    .nil)
    (.seq (.ifs (.cmp .eq (.var 2) (.cst (.int 5)))
    (.seq (.ret (.tup (.cons (.cst (.str [119, 104, 101, 114, 101])) (.cons (.var 4) (.cons (.sub (.lst (.cons (.cst (.non)) (.cons (.call i__law_long (.cons (.var 0) .nil)) .nil))) (.call i__law_draw (.cons (.var 0) (.cons (.cst (.int 2)) .nil)))) (.cons (.sub (.lst (.cons (.cst (.non)) (.cons (.call i__law_long (.cons (.var 0) .nil)) .nil))) (.call i__law_draw (.cons (.var 0) (.cons (.cst (.int 2)) .nil)))) .nil))))))
    .nil)
    .nil)
    (.seq (.ifs (.cmp .eq (.var 2) (.cst (.int 6)))
    (.seq (.ret (.tup (.cons (.cst (.str [109, 111, 118, 101, 100])) (.cons (.var 4) (.cons (.call i__law_long (.cons (.var 0) .nil)) .nil)))))
    .nil)
    .nil)
    (.seq (.ifs (.cmp .eq (.var 2) (.cst (.int 7)))
    (.seq (.ret (.tup (.cons (.cst (.str [102, 114, 111, 109])) (.cons (.var 4) .nil))))
    .nil)
    .nil)
    (.seq (.set (.name 5) (.sub (.lst (.cons (.cst (.str [115, 117, 109])) (.cons (.cst (.str [100, 105, 102, 102, 101, 114, 101, 110, 99, 101])) (.cons (.cst (.str [108, 101, 115, 115, 101, 114])) (.cons (.cst (.str [103, 114, 101, 97, 116, 101, 114])) (.cons (.cst (.str [111, 116, 104, 101, 114, 119, 105, 115, 101])) (.cons (.cst (.str [97, 102, 116, 101, 114])) (.cons (.cst (.str [115, 112, 108, 105, 116])) .nil)))))))) (.op .sub (.var 2) (.cst (.int 8)))))
    (.seq (.ret (.tup (.cons (.var 5) (.cons (.var 4) (.cons (.call i__law_text_row (.cons (.var 0) (.cons (.op .sub (.var 1) (.cst (.int 1))) .nil))) .nil)))))
    .nil))))))))))
def d45 : Df := ⟨dd "_law_text_row" 62, ["state", "depth"], ["state", "depth", "kind", "values", "one", "word"], ⟨2, 6, b__law_text_row⟩⟩
def b__law_text : IS :=
  (.seq (.ret (.bm .join (.cst (.str [10])) (.op .add (.op .add (.lst (.cons (.var 0) .nil)) (.var 1)) (.lst (.cons (.cst (.str [101, 110, 100])) .nil)))))
    .nil)
def d46 : Df := ⟨dd "_law_text" 63, ["word", "lines"], ["word", "lines"], ⟨2, 2, b__law_text⟩⟩
def b__law_formula_holds : IS :=
  (.seq (.set (.name 1) (.call i__law_text (.cons (.cst (.str [102, 111, 114, 109, 117, 108, 97])) (.cons (.call i__law_lines (.cons (.var 0) .nil)) .nil))))
    (.seq (.ifs (.cmp .ne (.call i_parse_formula (.cons (.var 1) .nil)) (.var 0))
    (.seq (.ret (.cst (.bl false)))
    .nil)
    .nil)
    (.seq (.set (.name 2) (.call i_format_formula (.cons (.var 0) .nil)))
    (.seq (.ret (.and (.isi (.var 2) ["str"]) (.cmp .eq (.var 2) (.var 1))))
    .nil))))
def d47 : Df := ⟨dd "_law_formula_holds" 64, ["formula"], ["formula", "text", "told"], ⟨1, 3, b__law_formula_holds⟩⟩
def b__law_form_holds : IS :=
  (.seq (.set (.name 1) (.call i__law_text (.cons (.cst (.str [102, 111, 114, 109])) (.cons (.call i__law_form_lines (.cons (.var 0) .nil)) .nil))))
    (.seq (.ifs (.cmp .ne (.call i_parse_form (.cons (.var 1) .nil)) (.var 0))
    (.seq (.ret (.cst (.bl false)))
    .nil)
    .nil)
    (.seq (.set (.name 2) (.call i_format_form (.cons (.var 0) .nil)))
    (.seq (.ret (.and (.isi (.var 2) ["str"]) (.cmp .eq (.var 2) (.var 1))))
    .nil))))
def d48 : Df := ⟨dd "_law_form_holds" 65, ["form"], ["form", "text", "told"], ⟨1, 3, b__law_form_holds⟩⟩
def b__law_ints : IS :=
  (.seq (.fors (.name 1) (.wlk (.sub (.var 0) (.cst (.int 0))))
    (.seq (.ifs (.and (.cmp .notN (.var 1) (.cst (.non))) (.or (.not (.tru (.isi (.var 1) ["int"]))) (.tru (.isi (.var 1) ["bool"]))))
    (.seq (.ret (.cst (.bl false)))
    .nil)
    .nil)
    .nil))
    (.seq (.fors (.tup [1, 2]) (.wlk (.sub (.var 0) (.cst (.int 1))))
    (.seq (.ifs (.or (.tru (.isi (.var 2) ["bool"])) (.not (.tru (.isi (.var 2) ["int"]))))
    (.seq (.ret (.cst (.bl false)))
    .nil)
    .nil)
    (.seq (.ifs (.and (.cmp .notN (.var 1) (.cst (.non))) (.or (.not (.tru (.isi (.var 1) ["int"]))) (.tru (.isi (.var 1) ["bool"]))))
    (.seq (.ret (.cst (.bl false)))
    .nil)
    .nil)
    .nil)))
    (.seq (.ret (.and (.isi (.sub (.var 0) (.cst (.int 0))) ["tuple"]) (.isi (.sub (.var 0) (.cst (.int 1))) ["tuple"])))
    .nil)))
def d49 : Df := ⟨dd "_law_ints" 66, ["form"], ["form", "value", "step"], ⟨1, 3, b__law_ints⟩⟩
def b_law : IS :=
  (.seq (.set (.name 1) (.call i__law_state (.cons (.var 0) .nil)))
    (.seq (.set (.name 2) (.call i__law_text_form (.cons (.var 1) .nil)))
    (.seq (.set (.name 3) (.call i__law_text (.cons (.cst (.str [102, 111, 114, 109])) (.cons (.call i__law_form_lines (.cons (.var 2) .nil)) .nil))))
    (.seq (.ifs (.or (.not (.tru (.call i__law_form_holds (.cons (.var 2) .nil)))) (.not (.tru (.call i__law_ints (.cons (.call i_parse_form (.cons (.var 3) .nil)) .nil)))))
    (.seq (.ret (.cst (.bl false)))
    .nil)
    .nil)
    (.seq (.ifs (.cmp .eq (.call i__law_draw (.cons (.var 1) (.cons (.cst (.int 9)) .nil))) (.cst (.int 0)))
    (.seq (.set (.name 4) (.tup (.cons (.op .mul (.bf .tuple (.lst (.cons (.sub (.sub (.sub (.var 2) (.cst (.int 1))) (.cst (.int 0))) (.cst (.int 0))) .nil))) (.op .add (.cst (.int 3998)) (.call i__law_draw (.cons (.var 1) (.cons (.cst (.int 3)) .nil))))) (.cons (.op .mul (.cut (.sub (.var 2) (.cst (.int 1))) .nil (.cons (.cst (.int 1)) .nil)) (.op .add (.cst (.int 998)) (.call i__law_draw (.cons (.var 1) (.cons (.cst (.int 3)) .nil))))) .nil))))
    (.seq (.ifs (.not (.tru (.call i__law_form_holds (.cons (.var 4) .nil))))
    (.seq (.ret (.cst (.bl false)))
    .nil)
    .nil)
    .nil))
    .nil)
    (.seq (.set (.name 5) (.call i__law_text_row (.cons (.var 1) (.cons (.call i__law_draw (.cons (.var 1) (.cons (.cst (.int 4)) .nil))) .nil))))
    (.seq (.ifs (.not (.tru (.call i__law_formula_holds (.cons (.var 5) .nil))))
    (.seq (.ret (.cst (.bl false)))
    .nil)
    .nil)
    (.seq (.set (.name 6) (.tup (.cons (.cst (.str [110, 97, 109, 101])) (.cons (.call i__law_name (.cons (.var 1) .nil)) .nil))))
    (.seq (.set (.name 7) (.call i__law_text_row (.cons (.var 1) (.cons (.cst (.int 0)) .nil))))
    (.seq (.fors (.name 8) (.rng .nil (.cst (.int 9)))
    (.seq (.set (.name 7) (.sub (.lst (.cons (.tup (.cons (.cst (.str [102, 114, 111, 109])) (.cons (.var 7) .nil))) (.cons (.tup (.cons (.cst (.str [116, 105, 109, 101, 115])) (.cons (.var 7) (.cons (.var 8) .nil)))) (.cons (.tup (.cons (.cst (.str [115, 117, 109])) (.cons (.var 7) (.cons (.var 6) .nil)))) (.cons (.tup (.cons (.cst (.str [115, 112, 108, 105, 116])) (.cons (.var 6) (.cons (.var 7) .nil)))) .nil))))) (.call i__law_draw (.cons (.var 1) (.cons (.cst (.int 4)) .nil)))))
    .nil))
    (.seq (.ifs (.not (.tru (.call i__law_formula_holds (.cons (.var 7) .nil))))
    (.seq (.ret (.cst (.bl false)))
    .nil)
    .nil)
    (.seq (.set (.name 9) (.tup (.cons (.cst (.str [115, 117, 109])) (.cons (.var 6) (.cons (.var 6) .nil)))))
    (.seq (.fors (.name 8) (.rng .nil (.cst (.int 4)))
    (.seq (.set (.name 9) (.tup (.cons (.cst (.str [108, 101, 115, 115, 101, 114])) (.cons (.var 9) (.cons (.tup (.cons (.cst (.str [97, 102, 116, 101, 114])) (.cons (.var 6) (.cons (.var 6) .nil)))) .nil)))))
    .nil))
    (.seq (.ifs (.not (.tru (.call i__law_formula_holds (.cons (.tup (.cons (.cst (.str [115, 117, 109])) (.cons (.var 9) (.cons (.tup (.cons (.cst (.str [102, 114, 111, 109])) (.cons (.var 9) .nil))) .nil)))) .nil))))
    (.seq (.ret (.cst (.bl false)))
    .nil)
    .nil)
    (.seq (.set (.name 10) (.call i__law_text_form (.cons (.var 1) .nil)))
    (.seq (.ret (.and (.call i__law_form_holds (.cons (.var 10) .nil)) (.and (.cmp .eq (.call i_parse_form (.cons (.var 3) .nil)) (.var 2)) (.call i__law_formula_holds (.cons (.var 5) .nil)))))
    .nil))))))))))))))))
def d50 : Df := ⟨dd "law" 67, ["script"], ["script", "state", "form", "text", "long", "formula", "leaf", "deep", "k", "wide", "other"], ⟨1, 11, b_law⟩⟩
def p : Pg := ⟨([d0, d1, d2, d3, d4, d5, d6, d7, d8, d9, d10, d11, d12, d13, d14, d15, d16, d17, d18, d19] : List Df) ++ ([d20, d21, d22, d23, d24, d25, d26, d27, d28, d29, d30, d31, d32, d33, d34, d35, d36, d37, d38, d39] : List Df) ++ ([d40, d41, d42, d43, d44, d45, d46, d47, d48, d49, d50] : List Df), [("MAX_HEAD", g_MAX_HEAD), ("MAX_PERIOD", g_MAX_PERIOD), ("PAIRS", g_PAIRS), ("SINGLES", g_SINGLES), ("MAX_SIGNS", g_MAX_SIGNS), ("NO_FORM", g_NO_FORM), ("MAX_TUPLES", g_MAX_TUPLES), ("MAX_DEPTH", g_MAX_DEPTH)], ["all", "bool", "int", "isinstance", "len", "list", "range", "sorted", "str", "tuple"]⟩
theorem t_is_integer : p.T i_is_integer = some ⟨1, 1, b_is_integer⟩ := rfl
theorem t_is_between : p.T i_is_between = some ⟨3, 3, b_is_between⟩ := rfl
theorem t_is_name : p.T i_is_name = some ⟨1, 2, b_is_name⟩ := rfl
theorem t_is_figures : p.T i_is_figures = some ⟨1, 2, b_is_figures⟩ := rfl
theorem t_is_ascending : p.T i_is_ascending = some ⟨1, 2, b_is_ascending⟩ := rfl
theorem t_is_bound : p.T i_is_bound = some ⟨1, 1, b_is_bound⟩ := rfl
theorem t__is_pair : p.T i__is_pair = some ⟨1, 3, b__is_pair⟩ := rfl
theorem t_form_fault : p.T i_form_fault = some ⟨1, 5, b_form_fault⟩ := rfl
theorem t_is_values : p.T i_is_values = some ⟨1, 2, b_is_values⟩ := rfl
theorem t__is_leaf : p.T i__is_leaf = some ⟨1, 1, b__is_leaf⟩ := rfl
theorem t_is_right_row : p.T i_is_right_row = some ⟨1, 1, b_is_right_row⟩ := rfl
theorem t_inner_of : p.T i_inner_of = some ⟨1, 1, b_inner_of⟩ := rfl
theorem t_tuples_of : p.T i_tuples_of = some ⟨1, 3, b_tuples_of⟩ := rfl
theorem t_words_of : p.T i_words_of = some ⟨1, 3, b_words_of⟩ := rfl
theorem t_integer_of : p.T i_integer_of = some ⟨1, 2, b_integer_of⟩ := rfl
theorem t_optional_of : p.T i_optional_of = some ⟨2, 3, b_optional_of⟩ := rfl
theorem t_optional_word : p.T i_optional_word = some ⟨2, 2, b_optional_word⟩ := rfl
theorem t_words_at : p.T i_words_at = some ⟨2, 3, b_words_at⟩ := rfl
theorem t_begin : p.T i_begin = some ⟨2, 3, b_begin⟩ := rfl
theorem t_finish : p.T i_finish = some ⟨2, 2, b_finish⟩ := rfl
theorem t__pair_word : p.T i__pair_word = some ⟨1, 3, b__pair_word⟩ := rfl
theorem t_form_lines : p.T i_form_lines = some ⟨1, 5, b_form_lines⟩ := rfl
theorem t__pair_of : p.T i__pair_of = some ⟨1, 4, b__pair_of⟩ := rfl
theorem t_read_form : p.T i_read_form = some ⟨2, 6, b_read_form⟩ := rfl
theorem t_format_form : p.T i_format_form = some ⟨1, 1, b_format_form⟩ := rfl
theorem t_parse_form : p.T i_parse_form = some ⟨1, 3, b_parse_form⟩ := rfl
theorem t__row_lines : p.T i__row_lines = some ⟨1, 4, b__row_lines⟩ := rfl
theorem t__member_word : p.T i__member_word = some ⟨1, 1, b__member_word⟩ := rfl
theorem t_formula_lines : p.T i_formula_lines = some ⟨1, 3, b_formula_lines⟩ := rfl
theorem t__row_of : p.T i__row_of = some ⟨1, 4, b__row_of⟩ := rfl
theorem t_read_formula : p.T i_read_formula = some ⟨4, 10, b_read_formula⟩ := rfl
theorem t_format_formula : p.T i_format_formula = some ⟨1, 1, b_format_formula⟩ := rfl
theorem t_parse_formula : p.T i_parse_formula = some ⟨1, 4, b_parse_formula⟩ := rfl
theorem t__law_state : p.T i__law_state = some ⟨1, 1, b__law_state⟩ := rfl
theorem t__law_draw : p.T i__law_draw = some ⟨2, 5, b__law_draw⟩ := rfl
theorem t__law_number : p.T i__law_number = some ⟨1, 2, b__law_number⟩ := rfl
theorem t__law_name : p.T i__law_name = some ⟨1, 5, b__law_name⟩ := rfl
theorem t__law_inner : p.T i__law_inner = some ⟨1, 1, b__law_inner⟩ := rfl
theorem t__law_rows : p.T i__law_rows = some ⟨1, 3, b__law_rows⟩ := rfl
theorem t__law_word : p.T i__law_word = some ⟨1, 1, b__law_word⟩ := rfl
theorem t__law_form_lines : p.T i__law_form_lines = some ⟨1, 5, b__law_form_lines⟩ := rfl
theorem t__law_row_lines : p.T i__law_row_lines = some ⟨1, 4, b__law_row_lines⟩ := rfl
theorem t__law_lines : p.T i__law_lines = some ⟨1, 3, b__law_lines⟩ := rfl
theorem t__law_long : p.T i__law_long = some ⟨1, 2, b__law_long⟩ := rfl
theorem t__law_text_form : p.T i__law_text_form = some ⟨1, 4, b__law_text_form⟩ := rfl
theorem t__law_text_row : p.T i__law_text_row = some ⟨2, 6, b__law_text_row⟩ := rfl
theorem t__law_text : p.T i__law_text = some ⟨2, 2, b__law_text⟩ := rfl
theorem t__law_formula_holds : p.T i__law_formula_holds = some ⟨1, 3, b__law_formula_holds⟩ := rfl
theorem t__law_form_holds : p.T i__law_form_holds = some ⟨1, 3, b__law_form_holds⟩ := rfl
theorem t__law_ints : p.T i__law_ints = some ⟨1, 3, b__law_ints⟩ := rfl
theorem t_law : p.T i_law = some ⟨1, 11, b_law⟩ := rfl
end Pw.k61
end
section
set_option Elab.async false
set_option linter.all false
set_option maxRecDepth 100000
namespace Pw.k61
open PySem
section
variable (k : Nat) (st : Store)
theorem is_integer_int (i : Int) : run p.T (k+1) i_is_integer [.int i] st = .ok (.bl true, st) := by
  rw [run_def t_is_integer rfl]; simp [b_is_integer, startR, isTy]
theorem is_integer_non : run p.T (k+1) i_is_integer [.non] st = .ok (.bl false, st) := by
  rw [run_def t_is_integer rfl]; simp [b_is_integer, startR, isTy]
theorem is_integer_str (x : List Nat) : run p.T (k+1) i_is_integer [.str x] st = .ok (.bl false, st) := by
  rw [run_def t_is_integer rfl]; simp [b_is_integer, startR, isTy]
theorem is_between_int (v a b : Int) : run p.T (k+2) i_is_between [.int v, .int a, .int b] st = .ok (.bl (decide (a ≤ v) && decide (v ≤ b)), st) := by
  rw [run_def t_is_between rfl]
  simp [b_is_between, startR, is_integer_int]
  by_cases h : a ≤ v <;> simp [h]
def nameB (x : List Nat) : Bool := decide (1 ≤ x.length ∧ x.length ≤ 12) && x.all fun c => decide (97 ≤ c ∧ c ≤ 122)
theorem is_name_str (x : List Nat) (hx : ascB x = true) (hl : x.length ≤ LN) : run p.T (k+1) i_is_name [.str x] st = .ok (.bl (nameB x), st) := by
  rw [run_def t_is_name rfl]
  have e := lc_on (C := run p.T k) (vs := [1]) (G := .name 1) (it := .wlk (.var 0)) (elt := .chain .le .le (.cst (.str [97])) (.var 1) (.cst (.str [122]))) (ρ := [some (.str x), none]) (st := st)
    x (fun c => .str [c]) (fun c => .bl (decide (97 ≤ c ∧ c ≤ 122))) (I := .fix (x.map fun c => .str [c])) rfl rfl rfl (fun c hc => ⟨_, rfl, by
      have hc := asc_mem hx hc
      simp [wipeR, cmp_le_sign (show 97 < 128 by decide) hc, cmp_le_sign hc (show 122 < 128 by decide)]
      by_cases h : 97 ≤ c <;> simp [h]⟩) hl
  by_cases h1 : (1 : Int) ≤ x.length
  · by_cases h2 : (x.length : Int) ≤ 12
    · have h3 : 1 ≤ x.length := by omega
      have h4 : x.length ≤ 12 := by omega
      simp [b_is_name, startR, isTy, bfD, lstD, e, h1, h2, nameB, h3, h4, List.all_map, Function.comp_def]
    · have h4 : ¬ x.length ≤ 12 := by omega
      simp [b_is_name, startR, isTy, bfD, e, h1, h2, nameB, h4]
  · have h3 : x.length = 0 := by omega
    have h3 : x = [] := List.eq_nil_of_length_eq_zero h3
    subst h3
    simp [b_is_name, startR, isTy, bfD, e, h1, nameB]
theorem is_figures_str (x : List Nat) (hx : ascB x = true) (hl : x.length ≤ LN) : run p.T (k+1) i_is_figures [.str x] st = .ok (.bl (figB x), st) := by
  rw [run_def t_is_figures rfl]
  have e := lc_on (C := run p.T k) (vs := [1]) (G := .name 1) (it := .wlk (.var 0)) (elt := .chain .le .le (.cst (.str [48])) (.var 1) (.cst (.str [57]))) (ρ := [some (.str x), none]) (st := st)
    x (fun c => .str [c]) (fun c => .bl (decide (48 ≤ c ∧ c ≤ 57))) (I := .fix (x.map fun c => .str [c])) rfl rfl rfl (fun c hc => ⟨_, rfl, by
      have hc := asc_mem hx hc
      simp [wipeR, cmp_le_sign (show 48 < 128 by decide) hc, cmp_le_sign hc (show 57 < 128 by decide)]
      by_cases h : 48 ≤ c <;> simp [h]⟩) hl
  have e0 := cmp_ne_str (st := st) hx asc_nil
  by_cases h : x = []
  · subst h; simp at e0; simp [b_is_figures, startR, e0, figB]
  · simp [h] at e0; simp [b_is_figures, startR, e0, e, bfD, lstD, h, figB, List.all_map, Function.comp_def]
theorem is_bound_some (i : Int) : run p.T (k+2) i_is_bound [.int i] st = .ok (.bl true, st) := by
  rw [run_def t_is_bound rfl]
  simp [b_is_bound, startR, is_integer_int]
theorem is_bound_none : run p.T (k+2) i_is_bound [.non] st = .ok (.bl true, st) := by
  rw [run_def t_is_bound rfl]
  simp [b_is_bound, startR]
theorem is_bound_str (x : List Nat) : run p.T (k+2) i_is_bound [.str x] st = .ok (.bl false, st) := by
  rw [run_def t_is_bound rfl]
  simp [b_is_bound, startR, is_integer_str]
def bdD : Option Int → D
  | none => .non
  | some i => .int i
def prD : Option (Int × Int) → D
  | none => .tup [.non, .int 0]
  | some q => .tup [.int q.1, .int q.2]
theorem is_pair_none : run p.T (k+2) i__is_pair [.tup [.non, .int 0]] st = .ok (.bl true, st) := by
  rw [run_def t__is_pair rfl]
  simp [b__is_pair, startR, isTy, bfD, seqD, bindG, setAll, is_integer_int]
theorem is_pair_some (v s : Int) : run p.T (k+2) i__is_pair [.tup [.int v, .int s]] st = .ok (.bl true, st) := by
  rw [run_def t__is_pair rfl]
  simp [b__is_pair, startR, isTy, bfD, seqD, bindG, setAll, is_integer_int]
theorem is_pair_ok (o : Option (Int × Int)) : run p.T (k+2) i__is_pair [prD o] st = .ok (.bl true, st) := by
  cases o with
  | none => exact is_pair_none k st
  | some q => exact is_pair_some k st q.1 q.2
theorem is_bound_ok (o : Option Int) : run p.T (k+2) i_is_bound [bdD o] st = .ok (.bl true, st) := by
  cases o with
  | none => exact is_bound_none k st
  | some q => exact is_bound_some k st q
/-- a form -/
def foD (h : List (Option Int)) (t : List (Option (Int × Int))) : D := .tup [.tup (h.map bdD), .tup (t.map prD)]
theorem form_fault_ok (h : List (Option Int)) (t : List (Option (Int × Int))) (h1 : h.length ≤ 4000) (h2 : 1 ≤ t.length) (h3 : t.length ≤ 1000) : run p.T (k+3) i_form_fault [foD h t] st = .ok (.non, st) := by
  rw [run_def t_form_fault rfl]
  have e1 := lc_on (C := run p.T (k+2)) (vs := [3]) (G := .name 3) (it := .wlk (.var 1)) (elt := .call i_is_bound (.cons (.var 3) .nil)) (ρ := [some (foD h t), some (.tup (h.map bdD)), some (.tup (t.map prD)), none, none]) (st := st)
    h bdD (fun _ => .bl true) (I := .fix (h.map bdD)) rfl rfl rfl (fun c hc => ⟨_, rfl, by simp [wipeR, is_bound_ok]⟩) (Nat.le_trans h1 (by decide))
  have e2 := lc_on (C := run p.T (k+2)) (vs := [4]) (G := .name 4) (it := .wlk (.var 2)) (elt := .call i__is_pair (.cons (.var 4) .nil)) (ρ := [some (foD h t), some (.tup (h.map bdD)), some (.tup (t.map prD)), none, none]) (st := st)
    t prD (fun _ => .bl true) (I := .fix (t.map prD)) rfl rfl rfl (fun c hc => ⟨_, rfl, by simp [wipeR, is_pair_ok]⟩) (Nat.le_trans h3 (by decide))
  have c1 : ¬ (4000 : Int) < h.length := by omega
  have c2 : (1 : Int) ≤ t.length := by omega
  have c3 : (t.length : Int) ≤ 1000 := by omega
  simp only [foD] at e1 e2
  simp [b_form_fault, startR, isTy, bfD, lstD, seqD, bindG, setAll, foD, g_MAX_HEAD, g_MAX_PERIOD, e1, e2, c1, c2, c3]
end
end Pw.k61
end
section
set_option Elab.async false
set_option linter.all false
set_option maxRecDepth 100000
namespace Pw.k61
open PySem
section
variable (k : Nat) (st : Store)
theorem joinL_tl (s : List Nat) (ys : List (List Nat)) : joinL s ys = TL.joinL s ys := joinL_eq s ys
/-- a word of a line -/
def wordB (w : List Nat) : Bool := decide (w ≠ []) && w.all fun c => decide (33 ≤ c ∧ c ≤ 126)
theorem wordB_mem {w : List Nat} (h : wordB w = true) : w ≠ [] ∧ ∀ c ∈ w, 33 ≤ c ∧ c ≤ 126 := by
  unfold wordB at h
  simpa using h
theorem wordB_asc {w : List Nat} (h : wordB w = true) : ascB w = true := asc_of fun c hc => by
  have := (wordB_mem h).2 c hc
  omega
theorem join_mem {s : Nat} : ∀ {ws : List (List Nat)} {c : Nat}, c ∈ TL.joinL [s] ws → c = s ∨ ∃ w ∈ ws, c ∈ w
  | [], c, h => by cases h
  | [w], c, h => .inr ⟨w, List.mem_cons_self, h⟩
  | w :: v :: r, c, h => by
    have h : c ∈ w ++ ([s] ++ TL.joinL [s] (v :: r)) := h
    rcases List.mem_append.mp h with h | h
    · exact .inr ⟨w, List.mem_cons_self, h⟩
    · rcases List.mem_append.mp h with h | h
      · exact .inl (List.mem_singleton.mp h)
      · rcases join_mem h with h | ⟨u, hu, h⟩
        · exact .inl h
        · exact .inr ⟨u, List.mem_cons_of_mem _ hu, h⟩
theorem words_of_ok (ws : List (List Nat)) (hne : ws ≠ []) (hw : ∀ w ∈ ws, wordB w = true) (hl : (joinL [32] ws).length + 2 ≤ LN) :
    run p.T (k+1) i_words_of [.str (joinL [32] ws)] st = .ok (.ref st.length, st ++ [.lst (ws.map .str)]) := by
  have hsp : TL.spl [32] 0 [] (joinL [32] ws) = ws := by
    rw [joinL_tl]
    exact TL.spl_join hne fun w h c => by have := (wordB_mem (hw w h)).2 32 c; omega
  have hx : ∀ c ∈ joinL [32] ws, 32 ≤ c ∧ c ≤ 126 := fun c hc => by
    rw [joinL_tl] at hc
    rcases join_mem hc with rfl | ⟨w, h, h2⟩
    · omega
    · have := (wordB_mem (hw w h)).2 c h2
      omega
  generalize joinL [32] ws = x at hl hsp hx
  have hasc : ascB x = true := asc_of fun c hc => by have := hx c hc; omega
  rw [run_def t_words_of rfl]
  have e := lc_on (C := run p.T k) (vs := [2]) (G := .name 2) (it := .wlk (.var 0)) (elt := .chain .le .le (.cst (.str [32])) (.var 2) (.cst (.str [126]))) (ρ := [some (.str x), none, none]) (st := st)
    x (fun c => .str [c]) (fun c => .bl true) (I := .fix (x.map fun c => .str [c])) rfl rfl rfl (fun c hc => ⟨_, rfl, by
      have h1 := asc_mem hasc hc
      have h2 := hx c hc
      simp [wipeR, cmp_le_sign (show 32 < 128 by decide) h1, cmp_le_sign h1 (show 126 < 128 by decide), h2.1, h2.2]⟩) (by omega)
  have hm : memD (st ++ [.lst (ws.map D.str)]) (.str []) (ws.map .str) = some false := by
    rw [memD_strs asc_nil fun w h => wordB_asc (hw w h)]
    congr 1
    exact decide_eq_false fun h => (wordB_mem (hw [] h)).1 rfl
  have hp : pureDs (ws.map D.str) = true := pureDs_map fun _ _ => by simp
  simp [b_words_of, startR, bfD, lstD, e, bmTy, bmD, hsp, hl, List.all_map, Function.comp_def, cmp2, memb, hm, okB, bindG, hp]
end
end Pw.k61
end
section
set_option Elab.async false
set_option linter.all false
set_option maxRecDepth 100000
namespace Pw.k61
open PySem
section
variable (k : Nat) (st : Store)
/-- a number that is written with few signs -/
def numB (i : Int) : Bool := decide ((numT i).length ≤ 40) && decide (i.natAbs < 10 ^ 40)
theorem numB_log {i : Int} (h : numB i = true) : i.natAbs.log2 < 1920 := by
  have h2 := of_decide_eq_true (Bool.and_eq_true_iff.mp h).2
  have := log_of_len (i := i) (Nat.lt_trans h2 (by decide))
  exact of_decide_eq_true this
theorem numB_len {i : Int} (h : numB i = true) : (numT i).length ≤ 40 := of_decide_eq_true (Bool.and_eq_true_iff.mp h).1
theorem word_num (i : Int) : wordB (numT i) = true := Bool.and_eq_true_iff.mpr ⟨decide_eq_true (numT_ne i), List.all_eq_true.mpr fun c hc => decide_eq_true (by rcases numT_signs i c hc with h | h <;> omega)⟩
theorem pre_minus (x : List Nat) : TL.pre [45] x = decide (x.head? = some 45) := by
  cases x with
  | nil => rfl
  | cons c x =>
    show ((c :: x).take 1 == [45]) = _
    by_cases h : c = 45
    · subst h; simp
    · have h2 : ¬ (c :: x).head? = some 45 := by simpa using h
      rw [decide_eq_false h2]
      simpa using h
theorem cut1 (x : List Nat) (c : Nat) : cutL (c :: x) (some 1) none = x := by
  unfold cutL HT.sIx
  simp
theorem integer_of_num (i : Int) (h : numB i = true) : run p.T (k+2) i_integer_of [.str (numT i)] st = .ok (.int i, st) := by
  rw [run_def t_integer_of rfl]
  have h1 := numB_len h
  have h2 := numB_log h
  have ha := asc_num i
  have hi := intText_numT (i := i) (by omega)
  have hn := cmp_ne_self (st := st) (d := .str (numT i)) (by simp [fitD, ha])
  have h3 : ¬ (40 : Int) < (numT i).length := by omega
  have h4 : (numT i).length ≤ 640 := by omega
  have fig : ∃ f, figB f = true ∧ ascB f = true ∧ f.length ≤ LN ∧ (if (numT i).head? = some 45 then cutL (numT i) (some 1) none else numT i) = f := by
    cases i with
    | ofNat n =>
      have e : numT (Int.ofNat n) = TL.numL n := numT_nat n
      rw [e] at h1 ha ⊢
      refine ⟨TL.numL n, fig_num n, ha, by show _ ≤ 16777216; omega, if_neg ?_⟩
      intro z
      have := TL.numL_digits n 45 (List.mem_of_mem_head? (by rw [z]; rfl))
      omega
    | negSucc n =>
      have e := numT_neg n
      rw [e] at h1 ha ⊢
      refine ⟨TL.numL (n + 1), fig_num _, by simpa using ha, ?_, ?_⟩
      · simp at h1; show _ ≤ 16777216; omega
      · rw [if_pos (show (45 :: TL.numL (n + 1)).head? = some 45 from rfl), cut1]
  obtain ⟨f, f1, f2, f3, f4⟩ := fig
  have hf := is_figures_str k st f f2 f3
  rw [f1] at hf
  by_cases hm : (numT i).head? = some 45
  · rw [if_pos hm] at f4
    simp [b_integer_of, startR, bmTy, bmD, bfD, pre_minus, hm, cutD, f4, hf, g_MAX_SIGNS, h3, hi, h4, h2, hn, bindG]
  · rw [if_neg hm] at f4
    subst f4
    simp [b_integer_of, startR, bmTy, bmD, bfD, pre_minus, hm, hf, g_MAX_SIGNS, h3, hi, h4, h2, hn, bindG]
abbrev wNone : List Nat := [110, 111, 110, 101]
theorem num_ne_none (i : Int) : numT i ≠ wNone := fun e => by
  have := numT_signs i 110 (by rw [e]; simp)
  omega
def bdT : Option Int → List Nat
  | none => wNone
  | some i => numT i
theorem bdT_word (o : Option Int) : wordB (bdT o) = true := by
  cases o with
  | none => decide
  | some i => exact word_num i
theorem optional_of_ok (o : Option Int) (h : ∀ i, o = some i → numB i = true) : run p.T (k+3) i_optional_of [.str (bdT o), .str wNone] st = .ok (bdD o, st) := by
  rw [run_def t_optional_of rfl]
  cases o with
  | none =>
    have e := cmp_eq_self (st := st) (d := .str wNone) (by decide)
    simp [b_optional_of, startR, bdT, bdD, e]
  | some i =>
    have e := cmp_eq_str (st := st) (x := numT i) (y := wNone) (asc_num i) (by decide)
    rw [decide_eq_false (num_ne_none i)] at e
    simp [b_optional_of, startR, bdT, bdD, e, integer_of_num _ _ _ (h i rfl), bindG]
theorem optional_word_ok (o : Option Int) (h : ∀ i, o = some i → numB i = true) : run p.T (k+1) i_optional_word [bdD o, .str wNone] st = .ok (.str (bdT o), st) := by
  rw [run_def t_optional_word rfl]
  cases o with
  | none => simp [b_optional_word, startR, bdT, bdD]
  | some i => simp [b_optional_word, startR, bdT, bdD, bfD, numB_log (h i rfl)]
theorem words_at_ok (n : Nat) (at_ : Nat) (lines : List (List Nat)) (ws : List (List Nat)) (hL : listAt st n = some (lines.map .str)) (hat : lines[at_]? = some (joinL [32] ws)) (hne : ws ≠ []) (hw : ∀ w ∈ ws, wordB w = true) (hl : (joinL [32] ws).length + 2 ≤ LN) :
    run p.T (k+2) i_words_at [.ref n, .int at_] st = .ok (.ref st.length, st ++ [.lst (ws.map .str)]) := by
  rw [run_def t_words_at rfl]
  have h1 : ((at_ : Int) < (lines.map D.str).length) := by
    have := (List.getElem?_eq_some_iff.mp hat).1
    simp; omega
  have h2 : atD (lines.map D.str) (at_ : Int) = some (.str (joinL [32] ws)) := by
    have := (List.getElem?_eq_some_iff.mp hat).1
    unfold atD L2.atI L2.ixN
    rw [if_pos (by omega), if_pos (by simp; omega)]
    simp [hat]
  have hp : pureDs (ws.map D.str) = true := pureDs_map fun _ _ => by simp
  simp at h1
  simp [b_words_at, startR, bfD, seqD, hL, subD, okD, h1, h2, words_of_ok _ _ ws hne hw hl, bindG, hp]
end
end Pw.k61
end
section
set_option Elab.async false
set_option linter.all false
set_option maxRecDepth 100000
namespace Pw.k61
open PySem
section
variable (k : Nat) (st : Store)
/-- a text of lines -/
theorem begin_ok (first : List (List Nat)) (lines : List (List Nat)) (n : Nat) (hn : listAt st n = some (first.map .str)) (hat : lines[0]? = some (joinL [32] first)) (hne : first ≠ []) (hw : ∀ w ∈ first, wordB w = true)
    (hl : (joinL [10] lines).length + 2 ≤ LN) (hno : ∀ l ∈ lines, 10 ∉ l) (hl1 : (joinL [32] first).length + 2 ≤ LN) :
    run p.T (k+3) i_begin [.str (joinL [10] lines), .ref n] st = .ok (.ref st.length, st ++ [.lst (lines.map .str)]) := by
  have hne2 : lines ≠ [] := fun e => by rw [e] at hat; cases hat
  have hsp : TL.spl [10] 0 [] (joinL [10] lines) = lines := by
    rw [joinL_tl]
    exact TL.spl_join hne2 hno
  generalize joinL [10] lines = x at hl hsp
  rw [run_def t_begin rfl]
  have hnl : n < st.length := by
    unfold listAt at hn
    by_cases h : n < st.length
    · exact h
    · rw [List.getElem?_eq_none (by omega)] at hn; cases hn
  have hn2 : ∀ l : Store, listAt (st ++ l) n = some (first.map .str) := fun l => by
    unfold listAt at hn ⊢
    rw [List.getElem?_append_left hnl]; exact hn
  have hwa := words_at_ok k (st ++ [.lst (lines.map .str)]) st.length 0 lines first (by simp) hat hne hw hl1
  have hp : pureDs (lines.map D.str) = true := pureDs_map fun _ _ => by simp
  have hp2 : pureDs (first.map D.str) = true := pureDs_map fun _ _ => by simp
  have hasc : ∀ w ∈ first, ascB w = true := fun w h => wordB_asc (hw w h)
  have heq : eqD (st ++ [.lst (lines.map D.str), .lst (first.map D.str)]) (.ref (st.length + 1)) (.ref n) = some true := by
    rw [eqD_lists (xs := first) (ys := first) (by simp) (hn2 _) hasc hasc]
    simp
  simp at hwa
  simp [b_begin, startR, bmTy, bmD, hsp, hl, hp, hp2, bindG, hwa, cmp2, heq, okB]
theorem finish_ok (n at_ : Nat) (lines : List (List Nat)) (hn : listAt st n = some (lines.map .str)) (hat : lines[at_]? = some [101, 110, 100]) (hlast : lines.length = at_ + 1) :
    run p.T (k+3) i_finish [.ref n, .int at_] st = .ok (.non, st) := by
  rw [run_def t_finish rfl]
  have hwa := words_at_ok k st n at_ lines [[101, 110, 100]] hn hat (by simp) (by decide) (by decide)
  have hasc : ∀ w ∈ [([101, 110, 100] : List Nat)], ascB w = true := by decide
  have heq : eqD (st ++ [.lst [D.str [101, 110, 100]], .lst [D.str [101, 110, 100]]]) (.ref st.length) (.ref (st.length + 1)) = some true := by
    rw [eqD_lists (xs := [[101, 110, 100]]) (ys := [[101, 110, 100]]) (by simp) (by simp) hasc hasc]
    simp
  have h1 : ¬ ((at_ : Int) + 1 < lines.length) := by omega
  simp at hwa
  simp [b_finish, startR, hwa, mkLst, cmp_ne_of heq, bfD, seqD, hn, h1]
/-- the words of a pair -/
def prT : Option (Int × Int) → List Nat
  | none => wNone
  | some q => numT q.1 ++ 47 :: numT q.2
def prB : Option (Int × Int) → Bool
  | none => true
  | some q => numB q.1 && numB q.2
def bdB : Option Int → Bool
  | none => true
  | some i => numB i
theorem pair_word_ok (o : Option (Int × Int)) (h : prB o = true) : run p.T (k+1) i__pair_word [prD o] st = .ok (.str (prT o), st) := by
  rw [run_def t__pair_word rfl]
  cases o with
  | none => simp [b__pair_word, startR, prD, prT, bindG, setAll]
  | some q =>
    obtain ⟨h1, h2⟩ := Bool.and_eq_true_iff.mp (show (numB q.1 && numB q.2) = true from h)
    have l1 := numB_len h1
    have l2 := numB_len h2
    have c1 : (numT q.1).length ≤ LN := by show _ ≤ 16777216; omega
    have c2 : (numT q.1).length + 1 ≤ LN := by show _ ≤ 16777216; omega
    have c3 : (numT q.1).length + 1 + (numT q.2).length ≤ LN := by show _ ≤ 16777216; omega
    simp [b__pair_word, startR, prD, prT, bindG, setAll, fmtD, numB_log h1, numB_log h2, c1, c2, c3]
theorem pair_of_ok (o : Option (Int × Int)) (h : prB o = true) : run p.T (k+3) i__pair_of [.str (prT o)] st = .ok (prD o, st) := by
  rw [run_def t__pair_of rfl]
  cases o with
  | none =>
    have e := cmp_eq_self (st := st) (d := .str wNone) (by decide)
    simp [b__pair_of, startR, prT, prD, e, mkTup]
  | some q =>
    obtain ⟨h1, h2⟩ := Bool.and_eq_true_iff.mp (show (numB q.1 && numB q.2) = true from h)
    have l1 := numB_len h1
    have l2 := numB_len h2
    have hne : numT q.1 ++ 47 :: numT q.2 ≠ wNone := fun e => by
      have := numT_signs q.1
      have h47 : 47 ∈ wNone := by rw [← e]; simp
      revert h47; decide
    have e := cmp_eq_str (st := st) (x := numT q.1 ++ 47 :: numT q.2) (y := wNone) (by simp [asc_num]) (by decide)
    rw [decide_eq_false hne] at e
    have hsp : TL.spl [47] 0 [] (numT q.1 ++ 47 :: numT q.2) = [numT q.1, numT q.2] := by
      have := TL.spl_join (s := 47) (S := []) (parts := [numT q.1, numT q.2]) (by simp) (fun p hp c => by
        simp at hp
        rcases hp with rfl | rfl
        · have := numT_signs q.1 47 c; omega
        · have := numT_signs q.2 47 c; omega)
      exact this
    have hl : (numT q.1).length + ((numT q.2).length + 1) + 2 ≤ LN := by show _ ≤ 16777216; omega
    simp [b__pair_of, startR, prT, prD, e, bmTy, bmD, hsp, hl, bindG, bfD, seqD, subD, okD, atD, L2.atI, L2.ixN, integer_of_num _ _ _ h1, integer_of_num _ _ _ h2, mkTup]
end
end Pw.k61
end
section
set_option Elab.async false
set_option linter.all false
set_option maxRecDepth 100000
namespace Pw.k61
open PySem
section
variable (k : Nat) (st : Store)
abbrev wHead : List Nat := [104, 101, 97, 100]
abbrev wTail : List Nat := [116, 97, 105, 108]
abbrev wForm : List Nat := [102, 111, 114, 109]
abbrev wEnd : List Nat := [101, 110, 100]
/-- a form that may be written -/
structure Fo where
  h : List (Option Int)
  t : List (Option (Int × Int))
def Fo.d (f : Fo) : D := foD f.h f.t
structure Fo.Ok (f : Fo) : Prop where
  h1 : f.h.length ≤ 4000
  t1 : 1 ≤ f.t.length
  t2 : f.t.length ≤ 1000
  hb : ∀ o ∈ f.h, bdB o = true
  tb : ∀ o ∈ f.t, prB o = true
def Fo.hl (f : Fo) : List (List Nat) := wHead :: f.h.map bdT
def Fo.tl (f : Fo) : List (List Nat) := wTail :: f.t.map prT
def Fo.ls (f : Fo) : List (List Nat) := [joinL [32] f.hl, joinL [32] f.tl]
theorem join_len (s : List Nat) (ws : List (List Nat)) : (joinL s ws).length ≤ (ws.map (·.length)).sum + ws.length * s.length := joinL_len s ws
theorem sum_le {m : Nat} : ∀ {l : List (List Nat)}, (∀ w ∈ l, w.length ≤ m) → (l.map (·.length)).sum ≤ l.length * m
  | [], _ => by simp
  | w :: l, h => by
    have h1 := h w List.mem_cons_self
    have h2 := sum_le fun v hv => h v (List.mem_cons_of_mem _ hv)
    simp only [List.map_cons, List.sum_cons, List.length_cons, Nat.succ_mul]
    omega
theorem bdT_len {o : Option Int} (h : bdB o = true) : (bdT o).length ≤ 40 := by
  cases o with
  | none => decide
  | some i => exact numB_len h
theorem prT_len {o : Option (Int × Int)} (h : prB o = true) : (prT o).length ≤ 81 := by
  cases o with
  | none => decide
  | some q =>
    obtain ⟨h1, h2⟩ := Bool.and_eq_true_iff.mp (show (numB q.1 && numB q.2) = true from h)
    have l1 := numB_len h1
    have l2 := numB_len h2
    simp [prT]; omega
theorem prT_word {o : Option (Int × Int)} : wordB (prT o) = true := by
  cases o with
  | none => decide
  | some q =>
    refine Bool.and_eq_true_iff.mpr ⟨decide_eq_true (by simp [prT]), List.all_eq_true.mpr fun c hc => decide_eq_true ?_⟩
    simp [prT] at hc
    rcases hc with hc | rfl | hc
    · rcases numT_signs q.1 c hc with h | h <;> omega
    · omega
    · rcases numT_signs q.2 c hc with h | h <;> omega
theorem words_le {ws : List (List Nat)} {n m : Nat} (h : ws.length ≤ n) (hw : ∀ w ∈ ws, w.length ≤ m) : (joinL [32] ws).length ≤ n * m + n := by
  have h1 := join_len [32] ws
  have h2 := sum_le hw
  have h3 : ws.length * m ≤ n * m := Nat.mul_le_mul_right _ h
  simp at h1
  omega
theorem Fo.Ok.hlw {f : Fo} (h : f.Ok) : ∀ w ∈ f.hl, wordB w = true := fun w hw => by
  rcases List.mem_cons.mp hw with rfl | hw
  · decide
  · obtain ⟨o, _, rfl⟩ := List.mem_map.mp hw
    exact bdT_word o
theorem Fo.Ok.tlw {f : Fo} (h : f.Ok) : ∀ w ∈ f.tl, wordB w = true := fun w hw => by
  rcases List.mem_cons.mp hw with rfl | hw
  · decide
  · obtain ⟨o, _, rfl⟩ := List.mem_map.mp hw
    exact prT_word
theorem Fo.Ok.hll {f : Fo} (h : f.Ok) : (joinL [32] f.hl).length ≤ 164100 := by
  have := words_le (ws := f.hl) (n := 4001) (m := 40) (by simp [Fo.hl]; exact h.h1) (fun w hw => by
    rcases List.mem_cons.mp hw with rfl | hw
    · decide
    · obtain ⟨o, ho, rfl⟩ := List.mem_map.mp hw
      exact bdT_len (h.hb o ho))
  omega
theorem Fo.Ok.tll {f : Fo} (h : f.Ok) : (joinL [32] f.tl).length ≤ 82100 := by
  have := words_le (ws := f.tl) (n := 1001) (m := 81) (by simp [Fo.tl]; exact h.t2) (fun w hw => by
    rcases List.mem_cons.mp hw with rfl | hw
    · decide
    · obtain ⟨o, ho, rfl⟩ := List.mem_map.mp hw
      exact prT_len (h.tb o ho))
  omega
theorem Fo.Ok.hs {f : Fo} (h : f.Ok) : (f.hl.map (·.length)).sum + f.hl.length * 1 ≤ LN := by
  have h1 := sum_le (l := f.hl) (m := 40) (fun w hw => by
    rcases List.mem_cons.mp hw with rfl | hw
    · decide
    · obtain ⟨o, ho, rfl⟩ := List.mem_map.mp hw
      exact bdT_len (h.hb o ho))
  have h2 : f.hl.length ≤ 4001 := by simp [Fo.hl]; exact h.h1
  have : f.hl.length * 40 ≤ 4001 * 40 := Nat.mul_le_mul_right _ h2
  show _ ≤ 16777216
  omega
theorem Fo.Ok.ts {f : Fo} (h : f.Ok) : (f.tl.map (·.length)).sum + f.tl.length * 1 ≤ LN := by
  have h1 := sum_le (l := f.tl) (m := 81) (fun w hw => by
    rcases List.mem_cons.mp hw with rfl | hw
    · decide
    · obtain ⟨o, ho, rfl⟩ := List.mem_map.mp hw
      exact prT_len (h.tb o ho))
  have h2 : f.tl.length ≤ 1001 := by simp [Fo.tl]; exact h.t2
  have : f.tl.length * 81 ≤ 1001 * 81 := Nat.mul_le_mul_right _ h2
  show _ ≤ 16777216
  omega
theorem pure_bd (o : Option Int) : pureD (bdD o) = true := by cases o <;> simp [bdD]
theorem pure_pr (o : Option (Int × Int)) : pureD (prD o) = true := by cases o <;> simp [prD]
theorem pure_fo (h : List (Option Int)) (t : List (Option (Int × Int))) : pureD (foD h t) = true := by
  simp [foD, pureDs_map (fun o _ => pure_bd o), pureDs_map (fun o _ => pure_pr o)]
theorem bdB_some {o : Option Int} (h : bdB o = true) : ∀ i, o = some i → numB i = true := fun i e => by subst e; exact h
theorem atD0 {α : Type} (a : α) (l : List α) : atD (a :: l) 0 = some a := by simp [atD, L2.atI, L2.ixN]
theorem atD1 {α : Type} (a b : α) (l : List α) : atD (a :: b :: l) 1 = some b := by
  have : (1 : Int) < ((a :: b :: l).length : Int) := by simp; omega
  simp only [atD, L2.atI, L2.ixN, this]
  simp
theorem txts_map' (l : List (List Nat)) : txts (l.map .str) = some l := by
  have := txts_on (fun x => x) l
  simpa using this
theorem form_lines_ok (f : Fo) (hf : f.Ok) : run p.T (k+2) i_form_lines [f.d] st = .ok (.ref st.length, st ++ [.lst (f.ls.map .str)]) := by
  obtain ⟨h, t⟩ := f
  rw [run_def t_form_lines rfl]
  have e1 := lc_on (C := run p.T (k+1)) (vs := [3]) (G := .name 3) (it := .wlk (.sub (.var 0) (.cst (.int 0)))) (elt := .call i_optional_word (.cons (.var 3) (.cons (.cst (.str wNone)) .nil))) (ρ := [some (foD h t), none, none, none, none]) (st := st ++ [.lst [.str wHead]])
    h bdD (fun o => .str (bdT o)) (I := .fix (h.map bdD)) (by simp [foD, subD, okD, atD0, walkD]) rfl (by simp) (fun c hc => ⟨_, rfl, by simp [wipeR, optional_word_ok _ _ c (bdB_some (hf.hb c hc))]⟩) (Nat.le_trans hf.h1 (by decide))
  have e2 := lc_on (C := run p.T (k+1)) (vs := [4]) (G := .name 4) (it := .wlk (.sub (.var 0) (.cst (.int 1)))) (elt := .call i__pair_word (.cons (.var 4) .nil)) (ρ := [some (foD h t), some (.ref st.length), none, none, none]) (st := st ++ [.lst (.str wHead :: h.map fun o => .str (bdT o)), .lst [.str wTail]])
    t prD (fun o => .str (prT o)) (I := .fix (t.map prD)) (by simp [foD, subD, okD, atD1, walkD]) rfl (by simp) (fun c hc => ⟨_, rfl, by simp [wipeR, pair_word_ok _ _ c (hf.tb c hc)]⟩) (Nat.le_trans hf.t2 (by decide))
  have a1 : ∀ a b : List D, op2 .add (.ref st.length) (.ref (st.length + 1)) (st ++ [.lst a, .lst b]) = mkLst (a ++ b) (st ++ [.lst a, .lst b]) := fun a b => op_add_ref (by simp) (by simp)
  have a2 : ∀ a b c : List D, op2 .add (.ref (st.length + 1)) (.ref (st.length + 2)) (st ++ [.lst a, .lst b, .lst c]) = mkLst (b ++ c) (st ++ [.lst a, .lst b, .lst c]) := fun a b c => op_add_ref (by simp) (by simp)
  have hh := hf.h1
  have ht := hf.t2
  have l1 : h.length + 1 ≤ LN := by show _ ≤ 16777216; simp at hh; omega
  have l2 : t.length + 1 ≤ LN := by show _ ≤ 16777216; simp at ht; omega
  have p1 : pureDs (h.map fun o => D.str (bdT o)) = true := pureDs_map fun _ _ => by simp
  have p2 : pureDs (t.map fun o => D.str (prT o)) = true := pureDs_map fun _ _ => by simp
  have t1 : txts (.str wHead :: h.map fun o => D.str (bdT o)) = some (Fo.hl ⟨h, t⟩) := by
    show (txts (h.map fun o => D.str (bdT o))).map (wHead :: ·) = _
    rw [txts_on]; rfl
  have t2 : txts (.str wTail :: t.map fun o => D.str (prT o)) = some (Fo.tl ⟨h, t⟩) := by
    show (txts (t.map fun o => D.str (prT o))).map (wTail :: ·) = _
    rw [txts_on]; rfl
  have j1 := hf.hs
  have j2 := hf.ts
  have jn1 : ∀ l : Store, bmD .join (.str [32]) (.ref st.length) (st ++ .lst (.str wHead :: h.map fun o => D.str (bdT o)) :: l) = .ok (.str (joinL [32] (Fo.hl ⟨h, t⟩)), st ++ .lst (.str wHead :: h.map fun o => D.str (bdT o)) :: l) := fun l => by
    simp only [bmD, seqD]
    rw [show listAt (st ++ .lst (.str wHead :: h.map fun o => D.str (bdT o)) :: l) st.length = some (.str wHead :: h.map fun o => D.str (bdT o)) from by simp]
    dsimp only [Option.bind]
    rw [t1]
    exact need_ok (decide_eq_true j1)
  have jn2 : ∀ (c : Cell) (l : Store), bmD .join (.str [32]) (.ref (st.length + 1)) (st ++ c :: .lst (.str wTail :: t.map fun o => D.str (prT o)) :: l) = .ok (.str (joinL [32] (Fo.tl ⟨h, t⟩)), st ++ c :: .lst (.str wTail :: t.map fun o => D.str (prT o)) :: l) := fun c l => by
    simp only [bmD, seqD]
    rw [show listAt (st ++ c :: .lst (.str wTail :: t.map fun o => D.str (prT o)) :: l) (st.length + 1) = some (.str wTail :: t.map fun o => D.str (prT o)) from by simp]
    dsimp only [Option.bind]
    rw [t2]
    exact need_ok (decide_eq_true j2)
  simp at e1 e2
  simp [b_form_lines, startR, Fo.d, mkLst, e1, e2, a1, a2, l1, l2, p1, p2, bindG, bmTy, jn1, jn2, Fo.ls]
end
end Pw.k61
end
section
set_option Elab.async false
set_option linter.all false
set_option maxRecDepth 100000
namespace Pw.k61
open PySem
theorem lc_at {α : Type} {C : Callee} {vs : List Nat} {G : IG} {it elt : IE} {ρ : Rho} {st st1 : Store} (l : List α) (g h : α → D) {I : Itr} (hi : evi C it ρ st = .ok (I, st1)) (hI : I.items = l.map g) (hst : I.stands st1 = true) (hh : ∀ a ∈ l, ∃ ρ1, bindG G (g a) (wipeR ρ vs) = some ρ1 ∧ ev C elt ρ1 st1 = .ok (h a, st1)) (hl : l.length ≤ LN) :
    ev C (.lc vs G it .nil elt) ρ st = .ok (.ref st1.length, st1 ++ [.lst (l.map h)]) := by
  rw [ev_lc, hi]
  dsimp only [Res.bind_ok]
  rw [hI, loopC_on (fc := evc C .nil) (fe := ev C elt) g h hst l fun a ha => by
    obtain ⟨ρ1, e1, e2⟩ := hh a ha
    exact ⟨ρ1, e1, rfl, e2⟩]
  dsimp only [Res.bind_ok]
  unfold mkLst
  rw [need_ok (decide_eq_true (by rw [List.length_map]; exact hl))]
  rfl
theorem cut1' {α : Type} (x : List α) (c : α) : cutL (c :: x) (some 1) none = x := by
  unfold cutL HT.sIx
  simp
section
variable (k : Nat) (st : Store)
theorem listAt_app {n : Nat} {ds : List D} (h : listAt st n = some ds) (l : Store) : listAt (st ++ l) n = some ds := by
  have hnl : n < st.length := by
    unfold listAt at h
    by_cases z : n < st.length
    · exact z
    · rw [List.getElem?_eq_none (by omega)] at h; cases h
  unfold listAt at h ⊢
  rw [List.getElem?_append_left hnl]; exact h
theorem read_form_ok (n at_ : Nat) (lines : List (List Nat)) (f : Fo) (hf : f.Ok) (hL : listAt st n = some (lines.map .str)) (a1 : lines[at_]? = some (joinL [32] f.hl)) (a2 : lines[at_ + 1]? = some (joinL [32] f.tl)) :
    run p.T (k+4) i_read_form [.ref n, .int at_] st = .ok (f.d, st) := by
  obtain ⟨h, t⟩ := f
  rw [run_def t_read_form rfl]
  have hl1 := hf.hll
  have hl2 := hf.tll
  have w1 := words_at_ok (k+1) st n at_ lines _ hL a1 (by simp [Fo.hl]) hf.hlw (by show _ ≤ 16777216; omega)
  have w2 := words_at_ok (k+1) (st ++ [.lst ((Fo.hl ⟨h, t⟩).map .str)]) n (at_ + 1) lines _ (listAt_app st hL _) a2 (by simp [Fo.tl]) hf.tlw (by show _ ≤ 16777216; omega)
  have e1 := lc_at (C := run p.T (k+3)) (vs := [5]) (G := .name 5) (it := .wlk (.cut (.var 2) (.cons (.cst (.int 1)) .nil) .nil)) (elt := .call i_optional_of (.cons (.var 5) (.cons (.cst (.str wNone)) .nil))) (ρ := [some (.ref n), some (.int at_), some (.ref st.length), none, none, none])
    (st := st ++ [.lst (.str wHead :: h.map fun o => .str (bdT o))]) (st1 := st ++ [.lst (.str wHead :: h.map fun o => .str (bdT o)), .lst (h.map fun o => .str (bdT o))])
    h (fun o => .str (bdT o)) bdD (I := .cell (st.length + 1) (h.map fun o => .str (bdT o))) (by
      have p1 : pureDs (h.map fun o => D.str (bdT o)) = true := pureDs_map fun _ _ => by simp
      simp [cutD, cut1', walkD, p1]) rfl (by simp [Itr.stands]) (fun c hc => ⟨_, rfl, by simp [wipeR, optional_of_ok _ _ c (bdB_some (hf.hb c hc))]⟩) (Nat.le_trans hf.h1 (by decide))
  have e2 := lc_at (C := run p.T (k+3)) (vs := [5]) (G := .name 5) (it := .wlk (.cut (.var 2) (.cons (.cst (.int 1)) .nil) .nil)) (elt := .call i__pair_of (.cons (.var 5) .nil)) (ρ := [some (.ref n), some (.int at_), some (.ref (st.length + 1)), some (.tup (h.map bdD)), none, none])
    (st := st ++ [.lst (.str wHead :: h.map fun o => .str (bdT o)), .lst (.str wTail :: t.map fun o => .str (prT o))]) (st1 := st ++ [.lst (.str wHead :: h.map fun o => .str (bdT o)), .lst (.str wTail :: t.map fun o => .str (prT o)), .lst (t.map fun o => .str (prT o))])
    t (fun o => .str (prT o)) prD (I := .cell (st.length + 2) (t.map fun o => .str (prT o))) (by
      have p1 : pureDs (t.map fun o => D.str (prT o)) = true := pureDs_map fun _ _ => by simp
      simp [cutD, cut1', walkD, p1]) rfl (by simp [Itr.stands]) (fun c hc => ⟨_, rfl, by simp [wipeR, pair_of_ok _ _ c (hf.tb c hc)]⟩) (Nat.le_trans hf.t2 (by decide))
  have ff1 := form_fault_ok k (st ++ [.lst (.str wHead :: h.map fun o => .str (bdT o))]) h [none] hf.h1 (by decide) (by decide)
  have ff2 := form_fault_ok k (st ++ [.lst (.str wHead :: h.map fun o => .str (bdT o)), .lst (.str wTail :: t.map fun o => .str (prT o))]) h t hf.h1 hf.t1 hf.t2
  have p1 : pureDs (h.map fun o => D.str (bdT o)) = true := pureDs_map fun _ _ => by simp
  have p2 : pureDs (t.map fun o => D.str (prT o)) = true := pureDs_map fun _ _ => by simp
  have p3 : pureDs (h.map bdD) = true := pureDs_map fun o _ => pure_bd o
  have p4 : pureDs (t.map prD) = true := pureDs_map fun o _ => pure_pr o
  have c1 : ∀ s : Store, cmp2 .ne (.str wHead) (.str wHead) s = .ok (.bl false, s) := fun s => cmp_ne_self (by decide)
  have c2 : ∀ s : Store, cmp2 .ne (.str wTail) (.str wTail) s = .ok (.bl false, s) := fun s => cmp_ne_self (by decide)
  simp [Fo.hl, Fo.tl, Function.comp_def] at w1 w2 e1 e2
  simp [foD, prD] at ff1 ff2
  simp [b_read_form, startR, w1, w2, e1, e2, bindG, p1, p2, p3, p4, bfD, subD, okD, atD0, c1, c2, mkTup, ff1, ff2, Fo.d, foD]
end
end Pw.k61
end
section
set_option Elab.async false
set_option linter.all false
set_option maxRecDepth 100000
namespace Pw.k61
open PySem
section
variable (k : Nat) (st : Store)
def linesOf (w : List Nat) (ls : List (List Nat)) : List (List Nat) := w :: (ls ++ [wEnd])
def textOf (w : List Nat) (ls : List (List Nat)) : List Nat := joinL [10] (linesOf w ls)
theorem join_no {ws : List (List Nat)} (hw : ∀ w ∈ ws, wordB w = true) : 10 ∉ joinL [32] ws := fun h => by
  rw [joinL_tl] at h
  rcases join_mem h with h | ⟨w, h1, h2⟩
  · cases h
  · have := (wordB_mem (hw w h1)).2 10 h2
    omega
theorem Fo.Ok.lno {f : Fo} (h : f.Ok) : ∀ l ∈ f.ls, 10 ∉ l := fun l hl => by
  simp [Fo.ls] at hl
  rcases hl with rfl | rfl
  · exact join_no h.hlw
  · exact join_no h.tlw
theorem Fo.Ok.ll {f : Fo} (h : f.Ok) : ∀ l ∈ f.ls, l.length ≤ 164100 := fun l hl => by
  have h1 := h.hll
  have h2 := h.tll
  simp [Fo.ls] at hl
  rcases hl with rfl | rfl <;> omega
/-- texts of few lines -/
theorem text_len {w : List Nat} {ls : List (List Nat)} (hw : w.length ≤ 20) (hl : ∀ l ∈ ls, l.length ≤ 164100) (hn : ls.length ≤ 90) : ((linesOf w ls).map (·.length)).sum + (linesOf w ls).length * 1 ≤ 16000000 := by
  have h1 := sum_le (l := linesOf w ls) (m := 164100) (fun v hv => by
    simp [linesOf] at hv
    rcases hv with rfl | hv | rfl
    · omega
    · exact hl v hv
    · decide)
  have h2 : (linesOf w ls).length ≤ 92 := by simp [linesOf]; omega
  have : (linesOf w ls).length * 164100 ≤ 92 * 164100 := Nat.mul_le_mul_right _ h2
  omega
theorem text_len2 {w : List Nat} {ls : List (List Nat)} (hw : w.length ≤ 20) (hl : ∀ l ∈ ls, l.length ≤ 164100) (hn : ls.length ≤ 90) : (textOf w ls).length ≤ 16000000 := by
  have h1 := join_len [10] (linesOf w ls)
  have h2 := text_len hw hl hn
  unfold textOf
  simp at h1
  omega
/-- the join of a text's lines -/
theorem join_text {w : List Nat} {ls : List (List Nat)} (hw : w.length ≤ 20) (hl : ∀ l ∈ ls, l.length ≤ 164100) (hn : ls.length ≤ 90) {st : Store} {n : Nat} (h : listAt st n = some (.str w :: (ls.map .str ++ [.str wEnd]))) :
    bmD .join (.str [10]) (.ref n) st = .ok (.str (textOf w ls), st) := by
  simp only [bmD, seqD]
  rw [h]
  dsimp only [Option.bind]
  have : txts (.str w :: (ls.map D.str ++ [.str wEnd])) = some (linesOf w ls) := by
    have := txts_map' (linesOf w ls)
    simpa [linesOf] using this
  rw [this]
  have h2 := text_len hw hl hn
  exact need_ok (decide_eq_true (by show _ ≤ 16777216; simp at h2 ⊢; omega))
theorem format_form_ok (f : Fo) (hf : f.Ok) : run p.T (k+3) i_format_form [f.d] st = .ok (.str (textOf wForm f.ls), st) := by
  rw [run_def t_format_form rfl]
  have e := form_lines_ok k (st ++ [.lst [.str wForm]]) f hf
  simp at e
  have a1 : ∀ a b : List D, op2 .add (.ref st.length) (.ref (st.length + 1)) (st ++ [.lst a, .lst b]) = mkLst (a ++ b) (st ++ [.lst a, .lst b]) := fun a b => op_add_ref (by simp) (by simp)
  have a2 : ∀ a b c d : List D, op2 .add (.ref (st.length + 2)) (.ref (st.length + 3)) (st ++ [.lst a, .lst b, .lst c, .lst d]) = mkLst (c ++ d) (st ++ [.lst a, .lst b, .lst c, .lst d]) := fun a b c d => op_add_ref (by simp) (by simp)
  have j := join_text (w := wForm) (ls := f.ls) (by decide) hf.ll (by simp [Fo.ls]) (st := st ++ [.lst [.str wForm], .lst (f.ls.map .str), .lst (.str wForm :: f.ls.map .str), .lst [.str wEnd], .lst (.str wForm :: (f.ls.map .str ++ [.str wEnd]))]) (n := st.length + 4) (by simp)
  simp [Fo.ls] at e j
  simp [b_format_form, startR, e, mkLst, a1, a2, bmTy, j, Fo.ls]
theorem parse_form_ok (f : Fo) (hf : f.Ok) : run p.T (k+5) i_parse_form [.str (textOf wForm f.ls)] st = .ok (f.d, st) := by
  rw [run_def t_parse_form rfl]
  have hlen := text_len2 (w := wForm) (by decide) hf.ll (by simp [Fo.ls])
  have hb := begin_ok (k+1) (st ++ [.lst [.str wForm]]) [wForm] (linesOf wForm f.ls) st.length (by simp) rfl (by simp) (by decide) (by show (textOf wForm f.ls).length + 2 ≤ 16777216; omega) (fun l hl => by
    simp [linesOf] at hl
    rcases hl with rfl | hl | rfl
    · decide
    · exact hf.lno l hl
    · decide) (by decide)
  have hr := read_form_ok k (st ++ [.lst ((linesOf wForm f.ls).map .str)]) st.length 1 (linesOf wForm f.ls) f hf (by simp) rfl rfl
  have hfi := finish_ok (k+1) (st ++ [.lst ((linesOf wForm f.ls).map .str)]) st.length 3 (linesOf wForm f.ls) (by simp) rfl rfl
  have pf : pureD f.d = true := pure_fo _ _
  have pl : pureDs ((linesOf wForm f.ls).map D.str) = true := pureDs_map fun _ _ => by simp
  simp [linesOf, Fo.ls] at hb hr hfi pl
  simp [b_parse_form, startR, mkLst, textOf, linesOf, Fo.ls, hb, hr, hfi, bindG, pf]
end
end Pw.k61
end
section
set_option Elab.async false
set_option linter.all false
set_option maxRecDepth 100000
namespace Pw.k61
open PySem
abbrev wName : List Nat := [110, 97, 109, 101]
abbrev wFew : List Nat := [102, 101, 119, 101, 115, 116]
abbrev wFrom : List Nat := [102, 114, 111, 109]
abbrev wTimes : List Nat := [116, 105, 109, 101, 115]
abbrev wDiv : List Nat := [100, 105, 118, 105, 100, 101, 100]
abbrev wWhere : List Nat := [119, 104, 101, 114, 101]
abbrev wMoved : List Nat := [109, 111, 118, 101, 100]
def pairsL : List (List Nat) := [[115, 117, 109], [100, 105, 102, 102, 101, 114, 101, 110, 99, 101], [108, 101, 115, 115, 101, 114], [103, 114, 101, 97, 116, 101, 114], [111, 116, 104, 101, 114, 119, 105, 115, 101], [97, 102, 116, 101, 114], [115, 112, 108, 105, 116]]
def singlesL : List (List Nat) := [wTimes, wDiv, wWhere, wMoved, wFrom]
theorem pairs_eq : g_PAIRS = .tup (pairsL.map .str) := rfl
theorem singles_eq : g_SINGLES = .tup (singlesL.map .str) := rfl
/-- a formula -/
inductive Fm where
  | form (f : Fo)
  | name (x : List Nat)
  | few1 (a : Int)
  | few2 (a b : Int)
  | one (w : List Nat) (c : Fm) (ns : List (Option Int))
  | two (w : List Nat) (a b : Fm)
def Fm.d : Fm → D
  | .form f => .tup [.str wForm, f.d]
  | .name x => .tup [.str wName, .str x]
  | .few1 a => .tup [.str wFew, .tup [.int a]]
  | .few2 a b => .tup [.str wFew, .tup [.int a, .int b]]
  | .one w c ns => .tup (.str w :: c.d :: ns.map bdD)
  | .two w a b => .tup [.str w, a.d, b.d]
def Fm.ls : Fm → List (List Nat)
  | .form f => f.ls
  | .name x => [joinL [32] [wName, x]]
  | .few1 a => [joinL [32] [wFew, numT a]]
  | .few2 a b => [joinL [32] [wFew, numT a, numT b]]
  | .one w c ns => joinL [32] (w :: ns.map bdT) :: c.ls
  | .two w a b => w :: (a.ls ++ b.ls)
def OneOk (w : List Nat) (ns : List (Option Int)) : Prop := (w = wFrom ∧ ns = []) ∨ (w = wTimes ∧ ∃ i, ns = [some i] ∧ numB i = true) ∨ (w = wMoved ∧ ∃ i, ns = [some i] ∧ numB i = true) ∨ (w = wDiv ∧ ∃ i, ns = [some i] ∧ 1 ≤ i ∧ i ≤ 1000) ∨ (w = wWhere ∧ ∃ a b, ns = [a, b] ∧ bdB a = true ∧ bdB b = true)
def Fm.Ok : Fm → Prop
  | .form f => f.Ok
  | .name x => nameB x = true
  | .few1 a => 1 ≤ a ∧ a ≤ 1000
  | .few2 a b => 1 ≤ a ∧ a < b ∧ b ≤ 1000
  | .one w c ns => OneOk w ns ∧ c.Ok
  | .two w a b => w ∈ pairsL ∧ a.Ok ∧ b.Ok
def Fm.size : Fm → Nat
  | .one _ c _ => c.size + 1
  | .two _ a b => a.size + b.size + 1
  | _ => 1
def Fm.ht : Fm → Nat
  | .one _ c _ => c.ht + 1
  | .two _ a b => max a.ht b.ht + 1
  | _ => 0
def Fm.subs : Fm → List Fm
  | .one w c ns => .one w c ns :: c.subs
  | .two w a b => .two w a b :: (a.subs ++ b.subs)
  | f => [f]
theorem Fm.pure : ∀ f : Fm, pureD f.d = true
  | .form f => by simp [Fm.d, Fo.d, pure_fo]
  | .name x => by simp [Fm.d]
  | .few1 a => by simp [Fm.d]
  | .few2 a b => by simp [Fm.d]
  | .one w c ns => by simp [Fm.d, c.pure, pureDs_map (fun o _ => pure_bd o)]
  | .two w a b => by simp [Fm.d, a.pure, b.pure]
theorem Fm.subs_len : ∀ f : Fm, f.subs.length = f.size
  | .form f => rfl
  | .name x => rfl
  | .few1 a => rfl
  | .few2 a b => rfl
  | .one w c ns => by simp [Fm.subs, Fm.size, c.subs_len]
  | .two w a b => by simp [Fm.subs, Fm.size, a.subs_len, b.subs_len]
theorem one_word {w : List Nat} {ns : List (Option Int)} (h : OneOk w ns) : w ∈ singlesL ∧ w ∉ pairsL ∧ ascB w = true ∧ wordB w = true ∧ w ≠ wForm ∧ w ≠ wName ∧ w ≠ wFew ∧ w ≠ wHead ∧ w.length ≤ 20 := by
  rcases h with ⟨rfl, _⟩ | ⟨rfl, _⟩ | ⟨rfl, _⟩ | ⟨rfl, _⟩ | ⟨rfl, _⟩ <;> decide
theorem two_word {w : List Nat} (h : w ∈ pairsL) : ascB w = true ∧ wordB w = true ∧ w ≠ wForm ∧ w ≠ wName ∧ w ≠ wFew ∧ w ≠ wFrom ∧ w ≠ wHead ∧ w.length ≤ 20 ∧ w ≠ wDiv ∧ w ≠ wTimes ∧ w ≠ wMoved := by
  have : ∀ w ∈ pairsL, ascB w = true ∧ wordB w = true ∧ w ≠ wForm ∧ w ≠ wName ∧ w ≠ wFew ∧ w ≠ wFrom ∧ w ≠ wHead ∧ w.length ≤ 20 ∧ w ≠ wDiv ∧ w ≠ wTimes ∧ w ≠ wMoved := by decide
  exact this w h
section
variable (k : Nat) (st : Store)
theorem mem_pairs {w : List Nat} (h : ascB w = true) : cmp2 .mem (.str w) g_PAIRS st = .ok (.bl (decide (w ∈ pairsL)), st) := cmp_mem_of (by
  rw [pairs_eq]
  exact memD_strs (st := st) (ys := pairsL) h (by decide))
theorem mem_singles {w : List Nat} (h : ascB w = true) : cmp2 .mem (.str w) g_SINGLES st = .ok (.bl (decide (w ∈ singlesL)), st) := cmp_mem_of (by
  rw [singles_eq]
  exact memD_strs (st := st) (ys := singlesL) h (by decide))
theorem cut13 (w x y : D) : cutL [w, x, y] (some 1) (some 3) = [x, y] := rfl
theorem cut12 (w x : D) (r : List D) : cutL (w :: x :: r) (some 1) (some 2) = [x] := by
  unfold cutL HT.sIx
  simp
theorem inner_two {w : List Nat} (h : w ∈ pairsL) (x y : D) (px : pureD x = true) (py : pureD y = true) : run p.T (k+1) i_inner_of [.tup [.str w, x, y]] st = .ok (.tup [x, y], st) := by
  rw [run_def t_inner_of rfl]
  have e := mem_pairs st (two_word h).1
  rw [decide_eq_true h] at e
  simp [b_inner_of, startR, subD, okD, atD0, e, cutD, cut13]
theorem inner_one {w : List Nat} {ns : List (Option Int)} (h : OneOk w ns) (x : D) (r : List D) : run p.T (k+1) i_inner_of [.tup (.str w :: x :: r)] st = .ok (.tup [x], st) := by
  rw [run_def t_inner_of rfl]
  obtain ⟨h1, h2, h3, _⟩ := one_word h
  have e := mem_pairs st h3
  have e2 := mem_singles st h3
  rw [decide_eq_false h2] at e
  rw [decide_eq_true h1] at e2
  simp [b_inner_of, startR, subD, okD, atD0, e, e2, cutD, cut12]
theorem inner_leaf {w : List Nat} (h1 : ascB w = true) (h2 : w ∉ pairsL) (h3 : w ∉ singlesL) (r : List D) : run p.T (k+1) i_inner_of [.tup (.str w :: r)] st = .ok (.tup [], st) := by
  rw [run_def t_inner_of rfl]
  have e := mem_pairs st h1
  have e2 := mem_singles st h1
  rw [decide_eq_false h2] at e
  rw [decide_eq_false h3] at e2
  simp [b_inner_of, startR, subD, okD, atD0, e, e2, mkTup]
end
end Pw.k61
end
section
set_option Elab.async false
set_option linter.all false
set_option maxRecDepth 100000
namespace Pw.k61
open PySem
section
variable (st : Store)
theorem pure_ds (l : List Fm) : pureDs (l.map Fm.d) = true := pureDs_map fun f _ => f.pure
theorem Fm.inner_leaf (k : Nat) : ∀ f : Fm, f.Ok → (∀ w c ns, f ≠ .one w c ns) → (∀ w a b, f ≠ .two w a b) → run p.T (k+1) i_inner_of [f.d] st = .ok (.tup [], st)
  | .form f, _, _, _ => k61.inner_leaf k st (by decide) (by decide) (by decide) _
  | .name x, _, _, _ => k61.inner_leaf k st (by decide) (by decide) (by decide) _
  | .few1 a, _, _, _ => k61.inner_leaf k st (by decide) (by decide) (by decide) _
  | .few2 a b, _, _, _ => k61.inner_leaf k st (by decide) (by decide) (by decide) _
  | .one w c ns, _, h, _ => absurd rfl (h w c ns)
  | .two w a b, _, _, h => absurd rfl (h w a b)
theorem tuples_leaf (k : Nat) (f : Fm) (hi : ∀ s, run p.T (k+1) i_inner_of [f.d] s = .ok (.tup [], s)) : run p.T (k+2) i_tuples_of [f.d] st = .ok (.tup [f.d], st) := by
  rw [run_def t_tuples_of rfl]
  simp [b_tuples_of, startR, mkLst, bindG, f.pure, ex_fors, hi, walkD, loopF, Itr.items, bfD]
theorem tuples_of_ok : ∀ (f : Fm) (m : Nat), f.Ok → f.size ≤ 1000 → f.ht + 2 ≤ m → ∀ st : Store, run p.T m i_tuples_of [f.d] st = .ok (.tup (f.subs.map Fm.d), st)
  | .form f, m, h, _, hm, st => by
    obtain ⟨k, rfl⟩ : ∃ k, m = k + 2 := ⟨m - 2, by omega⟩
    exact tuples_leaf st k (.form f) fun s => Fm.inner_leaf s k (.form f) h (by intros; simp) (by intros; simp)
  | .name x, m, h, _, hm, st => by
    obtain ⟨k, rfl⟩ : ∃ k, m = k + 2 := ⟨m - 2, by omega⟩
    exact tuples_leaf st k (.name x) fun s => Fm.inner_leaf s k (.name x) h (by intros; simp) (by intros; simp)
  | .few1 a, m, h, _, hm, st => by
    obtain ⟨k, rfl⟩ : ∃ k, m = k + 2 := ⟨m - 2, by omega⟩
    exact tuples_leaf st k (.few1 a) fun s => Fm.inner_leaf s k (.few1 a) h (by intros; simp) (by intros; simp)
  | .few2 a b, m, h, _, hm, st => by
    obtain ⟨k, rfl⟩ : ∃ k, m = k + 2 := ⟨m - 2, by omega⟩
    exact tuples_leaf st k (.few2 a b) fun s => Fm.inner_leaf s k (.few2 a b) h (by intros; simp) (by intros; simp)
  | .one w c ns, m, h, hz, hm, st => by
    have hz' : c.size + 1 ≤ 1000 := hz
    have hm' : c.ht + 1 + 2 ≤ m := hm
    obtain ⟨k, rfl⟩ : ∃ k, m = k + 2 := ⟨m - 2, by omega⟩
    rw [run_def t_tuples_of rfl]
    have ih := tuples_of_ok c (k + 1) h.2 (by omega) (by omega)
    have hi := inner_one k (st ++ [.lst [(Fm.one w c ns).d]]) h.1 c.d (ns.map bdD)
    have hl : 1 + c.subs.length ≤ LN := by rw [c.subs_len]; show _ ≤ 16777216; omega
    have pn : pureDs (ns.map bdD) = true := pureDs_map fun o _ => pure_bd o
    simp only [Fm.d] at hi
    simp [b_tuples_of, startR, mkLst, bindG, ex_fors, walkD, loopF, Itr.items, bfD, Fm.d, hi, ih, c.pure, pn, bmTy, bmD, extD, hl, pure_ds, Fm.subs]
  | .two w a b, m, h, hz, hm, st => by
    have hz' : a.size + b.size + 1 ≤ 1000 := hz
    have hm' : max a.ht b.ht + 1 + 2 ≤ m := hm
    obtain ⟨k, rfl⟩ : ∃ k, m = k + 2 := ⟨m - 2, by omega⟩
    rw [run_def t_tuples_of rfl]
    have ih1 := tuples_of_ok a (k + 1) h.2.1 (by omega) (by omega)
    have ih2 := tuples_of_ok b (k + 1) h.2.2 (by omega) (by omega)
    have hi := inner_two k (st ++ [.lst [(Fm.two w a b).d]]) h.1 a.d b.d a.pure b.pure
    have hl : 1 + a.subs.length ≤ LN := by rw [a.subs_len]; show _ ≤ 16777216; omega
    have hl2 : a.subs.length + 1 + b.subs.length ≤ LN := by rw [a.subs_len, b.subs_len]; show _ ≤ 16777216; omega
    simp only [Fm.d] at hi
    simp [b_tuples_of, startR, mkLst, bindG, ex_fors, walkD, loopF, Itr.items, bfD, Fm.d, hi, ih1, ih2, a.pure, b.pure, pureDs_append, bmTy, bmD, extD, hl, hl2, pure_ds, Fm.subs]
end
end Pw.k61
end
section
set_option Elab.async false
set_option linter.all false
set_option maxRecDepth 100000
namespace Pw.k61
open PySem
/-- a loop over values, its slots and store told -/
theorem loopF_inv {α σ : Type} {it : Itr} {G : IG} {body : Rho → Store → SR} (g : α → D) (R : σ → Rho × Store) (f : σ → α → σ) (Inv : σ → List α → Prop) (hst : ∀ s, it.stands (R s).2 = true)
    (h : ∀ s a l, Inv s (a :: l) → ∃ ρ1, bindG G (g a) (R s).1 = some ρ1 ∧ body ρ1 (R s).2 = .ok (.nx, (R (f s a)).1, (R (f s a)).2) ∧ Inv (f s a) l) : ∀ (l : List α) (s : σ), Inv s l →
    loopF it G body (l.map g) (R s).1 (R s).2 = .ok (.nx, (R (l.foldl f s)).1, (R (l.foldl f s)).2)
  | [], s, _ => by
    show loopF it G body [] (R s).1 (R s).2 = _
    unfold loopF
    rw [hst s]
    rfl
  | a :: l, s, hi => by
    obtain ⟨ρ1, e1, e2, e3⟩ := h s a l hi
    show loopF it G body (g a :: l.map g) (R s).1 (R s).2 = _
    unfold loopF
    rw [hst s, e1]
    dsimp only [need_true]
    rw [e2]
    dsimp only [Res.bind_ok]
    exact loopF_inv g R f Inv hst h l (f s a) e3
/-- the line, the lines of a node -/
def Fm.row : Fm → List (List Nat)
  | .form f => f.ls
  | .name x => [joinL [32] [wName, x]]
  | .few1 a => [joinL [32] [wFew, numT a]]
  | .few2 a b => [joinL [32] [wFew, numT a, numT b]]
  | .one w _ ns => [joinL [32] (w :: ns.map bdT)]
  | .two w _ _ => [w]
theorem Fm.rows : ∀ f : Fm, f.subs.flatMap Fm.row = f.ls
  | .form f => by simp [Fm.subs, Fm.row, Fm.ls]
  | .name x => by simp [Fm.subs, Fm.row, Fm.ls]
  | .few1 a => by simp [Fm.subs, Fm.row, Fm.ls]
  | .few2 a b => by simp [Fm.subs, Fm.row, Fm.ls]
  | .one w c ns => by simp [Fm.subs, Fm.row, Fm.ls, c.rows]
  | .two w a b => by simp [Fm.subs, Fm.row, Fm.ls, a.rows, b.rows]
theorem Fm.subs_ok : ∀ f : Fm, f.Ok → ∀ r ∈ f.subs, r.Ok
  | .form f, h, r, hr => by simp [Fm.subs] at hr; rw [hr]; exact h
  | .name x, h, r, hr => by simp [Fm.subs] at hr; rw [hr]; exact h
  | .few1 a, h, r, hr => by simp [Fm.subs] at hr; rw [hr]; exact h
  | .few2 a b, h, r, hr => by simp [Fm.subs] at hr; rw [hr]; exact h
  | .one w c ns, h, r, hr => by
    simp [Fm.subs] at hr
    rcases hr with rfl | hr
    · exact h
    · exact c.subs_ok h.2 r hr
  | .two w a b, h, r, hr => by
    simp [Fm.subs] at hr
    rcases hr with rfl | hr | hr
    · exact h
    · exact a.subs_ok h.2.1 r hr
    · exact b.subs_ok h.2.2 r hr
section
variable (st : Store)
theorem member_str (k : Nat) (x : List Nat) : run p.T (k+2) i__member_word [.str x] st = .ok (.str x, st) := by
  rw [run_def t__member_word rfl]
  simp [b__member_word, startR, isTy]
theorem member_bd (k : Nat) (o : Option Int) (h : bdB o = true) : run p.T (k+2) i__member_word [bdD o] st = .ok (.str (bdT o), st) := by
  rw [run_def t__member_word rfl]
  have e := optional_word_ok k st o (bdB_some h)
  cases o with
  | none => simp [b__member_word, startR, isTy, bdD] at e ⊢; simp [e]
  | some i => simp [b__member_word, startR, isTy, bdD] at e ⊢; simp [e]
theorem one_bds {w : List Nat} {ns : List (Option Int)} (h : OneOk w ns) : (∀ o ∈ ns, bdB o = true) ∧ ns.length ≤ 2 := by
  rcases h with ⟨_, rfl⟩ | ⟨_, i, rfl, hi⟩ | ⟨_, i, rfl, hi⟩ | ⟨_, i, rfl, h1, h2⟩ | ⟨_, a, b, rfl, ha, hb⟩
  · simp
  · simp [bdB, hi]
  · simp [bdB, hi]
  · refine ⟨?_, by simp⟩
    intro o ho
    simp at ho
    subst ho
    have h3 : (numT i).length ≤ 4 := numT_len0 (by decide) (by omega) (by omega)
    have h4 : i.natAbs < 10 ^ 40 := Nat.lt_of_le_of_lt (m := 1000) (by omega) (by decide)
    simp [bdB, numB, h4]
    omega
  · simp [ha, hb]
/-- the join of a short line -/
theorem join_line {ws : List (List Nat)} (hn : ws.length ≤ 5) (hw : ∀ w ∈ ws, w.length ≤ 41) {st : Store} {n : Nat} (h : listAt st n = some (ws.map .str)) : bmD .join (.str [32]) (.ref n) st = .ok (.str (joinL [32] ws), st) := by
  simp only [bmD, seqD]
  rw [h]
  dsimp only [Option.bind]
  rw [txts_map']
  have h1 := sum_le hw
  have h2 : ws.length * 41 ≤ 5 * 41 := Nat.mul_le_mul_right _ hn
  exact need_ok (decide_eq_true (by show _ ≤ 16777216; simp; omega))
theorem few_num {a : Int} (h : 1 ≤ a ∧ a ≤ 1000) : (numT a).length ≤ 4 ∧ a.natAbs.log2 < 1920 ∧ numB a = true := by
  have h3 : (numT a).length ≤ 4 := numT_len0 (by decide) (by omega) (by omega)
  have h4 : a.natAbs < 10 ^ 40 := Nat.lt_of_le_of_lt (m := 1000) (by omega) (by decide)
  have h5 : numB a = true := by simp [numB, h4]; omega
  exact ⟨h3, numB_log h5, h5⟩
theorem row_tail {α : Type} (k : Nat) (w : List Nat) (hw : ascB w = true) (h1 : w ≠ wForm) (h2 : w ≠ wFew) (row : List D) (l : List α) (g : α → D) (h : α → List Nat) (m : Nat) (inn : List D) (hm : inn.length = m) (hi : run p.T (k+2) i_inner_of [.tup (.str w :: row)] st = .ok (.tup inn, st))
    (hc : cutL (D.str w :: row) (some (1 + (m : Int))) none = l.map g) (hh : ∀ a ∈ l, ∀ s : Store, run p.T (k+2) i__member_word [g a] s = .ok (.str (h a), s)) (hl : l.length ≤ 4) (hln : ∀ v ∈ (w :: l.map h), v.length ≤ 41) (hp : pureDs (l.map g) = true) :
    run p.T (k+3) i__row_lines [.tup (.str w :: row)] st = .ok (.ref st.length, st ++ [.lst [.str (joinL [32] (w :: l.map h))]]) := by
  rw [run_def t__row_lines rfl]
  have e := lc_on (C := run p.T (k+2)) (vs := [3]) (G := .name 3) (it := .wlk (.var 1)) (elt := .call i__member_word (.cons (.var 3) .nil)) (ρ := [some (.tup (.str w :: row)), some (.tup (l.map g)), none, none]) (st := st ++ [.lst [.str w]])
    l g (fun a => .str (h a)) (I := .fix (l.map g)) rfl rfl rfl (fun a ha => ⟨_, rfl, by simp [wipeR, hh a ha]⟩) (Nat.le_trans hl (by decide))
  have c1 : ∀ s : Store, cmp2 .eq (.str w) (.str wForm) s = .ok (.bl false, s) := fun s => by rw [cmp_eq_str hw (by decide), decide_eq_false h1]
  have c2 : ∀ s : Store, cmp2 .eq (.str w) (.str wFew) s = .ok (.bl false, s) := fun s => by rw [cmp_eq_str hw (by decide), decide_eq_false h2]
  have a1 : ∀ a b : List D, op2 .add (.ref st.length) (.ref (st.length + 1)) (st ++ [.lst a, .lst b]) = mkLst (a ++ b) (st ++ [.lst a, .lst b]) := fun a b => op_add_ref (by simp) (by simp)
  have l1 : l.length + 1 ≤ LN := by show _ ≤ 16777216; omega
  have j := join_line (ws := w :: l.map h) (by simp; omega) hln (st := st ++ [.lst [.str w], .lst (l.map fun a => .str (h a)), .lst (.str w :: l.map fun a => .str (h a))]) (n := st.length + 2) (by simp [Function.comp_def])
  subst hm
  simp at e
  simp [b__row_lines, startR, subD, okD, atD0, c1, c2, hi, bfD, seqD, cutD, hc, bindG, e, mkLst, a1, l1, bmTy, j, hp]
theorem row_few (k : Nat) (l : List Int) (hb : ∀ a ∈ l, 1 ≤ a ∧ a ≤ 1000) (hl : l.length ≤ 4) : run p.T (k+3) i__row_lines [.tup [.str wFew, .tup (l.map .int)]] st = .ok (.ref st.length, st ++ [.lst [.str (joinL [32] (wFew :: l.map numT))]]) := by
  rw [run_def t__row_lines rfl]
  have e := lc_on (C := run p.T (k+2)) (vs := [2]) (G := .name 2) (it := .wlk (.sub (.var 0) (.cst (.int 1)))) (elt := .bf .str (.var 2)) (ρ := [some (.tup [.str wFew, .tup (l.map .int)]), none, none, none]) (st := st ++ [.lst [.str wFew]])
    l D.int (fun a => .str (numT a)) (I := .fix (l.map .int)) (by simp [subD, okD, atD1, walkD]) rfl rfl (fun a ha => ⟨_, rfl, by simp [wipeR, bfD, (few_num (hb a ha)).2.1]⟩) (Nat.le_trans hl (by decide))
  have c1 : ∀ s : Store, cmp2 .eq (.str wFew) (.str wForm) s = .ok (.bl false, s) := fun s => by rw [cmp_eq_str (by decide) (by decide)]; rfl
  have c2 : ∀ s : Store, cmp2 .eq (.str wFew) (.str wFew) s = .ok (.bl true, s) := fun s => cmp_eq_self (by decide)
  have a1 : ∀ a b : List D, op2 .add (.ref st.length) (.ref (st.length + 1)) (st ++ [.lst a, .lst b]) = mkLst (a ++ b) (st ++ [.lst a, .lst b]) := fun a b => op_add_ref (by simp) (by simp)
  have l1 : l.length + 1 ≤ LN := by show _ ≤ 16777216; omega
  have j := join_line (ws := wFew :: l.map numT) (by simp; omega) (fun v hv => by
    rcases List.mem_cons.mp hv with rfl | hv
    · decide
    · obtain ⟨a, ha, rfl⟩ := List.mem_map.mp hv
      have := (few_num (hb a ha)).1
      omega) (st := st ++ [.lst [.str wFew], .lst (l.map fun a => .str (numT a)), .lst (.str wFew :: l.map fun a => .str (numT a))]) (n := st.length + 2) (by simp [Function.comp_def])
  simp at e
  simp [b__row_lines, startR, subD, okD, atD0, c1, c2, bindG, e, mkLst, a1, l1, bmTy, j]
theorem cut2 (w x : D) (r : List D) : cutL (w :: x :: r) (some 2) none = r := by
  unfold cutL HT.sIx
  simp
theorem row_lines_ok (k : Nat) : ∀ f : Fm, f.Ok → run p.T (k+3) i__row_lines [f.d] st = .ok (.ref st.length, st ++ [.lst (f.row.map .str)])
  | .form f, h => by
    rw [run_def t__row_lines rfl]
    have e := form_lines_ok k st f h
    have c : ∀ s : Store, cmp2 .eq (.str wForm) (.str wForm) s = .ok (.bl true, s) := fun s => cmp_eq_self (by decide)
    have pp : pureDs (f.ls.map D.str) = true := pureDs_map fun _ _ => by simp
    simp [b__row_lines, startR, Fm.d, subD, okD, atD0, atD1, c, e, Fm.row, pp]
  | .name x, h => by
    have hx : x.length ≤ 12 := (of_decide_eq_true (Bool.and_eq_true_iff.mp (show nameB x = true from h)).1).2
    exact row_tail st k wName (by decide) (by decide) (by decide) [.str x] [x] .str (fun x => x) 0 [] rfl (Fm.inner_leaf st (k+1) (.name x) h (by intros; simp) (by intros; simp)) rfl (fun a _ s => member_str s k a) (by simp) (fun v hv => by
      simp at hv
      rcases hv with rfl | rfl
      · decide
      · omega) (by simp)
  | .few1 a, h => row_few st k [a] (fun x hx => by simp at hx; subst hx; exact h) (by simp)
  | .few2 a b, h => row_few st k [a, b] (fun x hx => by
      have h : 1 ≤ a ∧ a < b ∧ b ≤ 1000 := h
      simp at hx
      rcases hx with rfl | rfl <;> omega) (by simp)
  | .one w c ns, h => by
    obtain ⟨_, _, w1, _, w2, _, w3, _, w4⟩ := one_word h.1
    obtain ⟨b1, b2⟩ := one_bds h.1
    exact row_tail st k w w1 w2 w3 (c.d :: ns.map bdD) ns bdD bdT 1 [c.d] rfl (inner_one (k+1) st h.1 c.d _) (by exact cut2 _ _ _) (fun a ha s => member_bd s k a (b1 a ha)) (by omega) (fun v hv => by
      rcases List.mem_cons.mp hv with rfl | hv
      · omega
      · obtain ⟨o, ho, rfl⟩ := List.mem_map.mp hv
        have := bdT_len (b1 o ho)
        omega) (pureDs_map fun o _ => pure_bd o)
  | .two w a b, h => by
    obtain ⟨w1, _, w2, _, w3, _, _, w4, _⟩ := two_word h.1
    exact row_tail (α := Int) st k w w1 w2 w3 [a.d, b.d] [] .int numT 2 [a.d, b.d] rfl (inner_two (k+1) st h.1 a.d b.d a.pure b.pure) rfl (fun a ha => by simp at ha) (by decide) (fun v hv => by
      simp at hv
      subst hv
      omega) (by simp)
/-- all lines of a formula -/
theorem formula_lines_ok (f : Fm) (m : Nat) (h : f.Ok) (hz : f.size ≤ 1000) (hl : f.ls.length ≤ 4000) (hm : f.ht + 4 ≤ m) : run p.T m i_formula_lines [f.d] st = .ok (.ref st.length, st ++ [.lst (f.ls.map .str)]) := by
  obtain ⟨k, rfl⟩ : ∃ k, m = k + 4 := ⟨m - 4, by omega⟩
  rw [run_def t_formula_lines rfl]
  have e := tuples_of_ok f (k+3) h hz (by omega)
  let R : Option Fm × List (List Nat) → Rho × Store := fun s => ([some f.d, some (.ref st.length), s.1.map Fm.d], st ++ [.lst (s.2.map .str)])
  let stp : Option Fm × List (List Nat) → Fm → Option Fm × List (List Nat) := fun s a => (some a, s.2 ++ a.row)
  have lp := loopF_inv (it := .fix (f.subs.map Fm.d)) (G := .name 2) (body := ex (run p.T (k+3)) (.seq (.expr (.bm .extend (.var 1) (.call i__row_lines (.cons (.var 2) .nil)))) .nil)) Fm.d R stp
    (fun s l => s.2.length + (l.flatMap Fm.row).length ≤ 4000 ∧ ∀ a ∈ l, a.Ok) (fun s => by simp) (fun s a l ⟨i1, i2⟩ => by
      refine ⟨[some f.d, some (.ref st.length), some a.d], by simp [R, bindG], ?_, ?_⟩
      · have er := row_lines_ok (st ++ [.lst (s.2.map .str)]) k a (i2 a List.mem_cons_self)
        have hl : s.2.length + a.row.length ≤ LN := by simp at i1; show _ ≤ 16777216; omega
        have pp : pureDs (s.2.map D.str) = true := pureDs_map fun _ _ => by simp
        have pp2 : pureDs (a.row.map D.str) = true := pureDs_map fun _ _ => by simp
        simp at er
        simp [R, stp, bmTy, er, bmD, extD, hl, pp, pp2, pureDs_append]
      · refine ⟨?_, fun b hb => i2 b (List.mem_cons_of_mem _ hb)⟩
        simp at i1
        simp [stp]
        omega) f.subs (none, []) (by
      refine ⟨?_, f.subs_ok h⟩
      rw [f.rows]
      simpa using hl)
  have hf : ∀ (l : List Fm) (s : Option Fm × List (List Nat)), (l.foldl stp s).2 = s.2 ++ l.flatMap Fm.row := fun l => by
    induction l with
    | nil => intro s; simp
    | cons a l ih => intro s; rw [List.foldl_cons, ih]; simp [stp]
  have hfin := hf f.subs (none, [])
  rw [f.rows, List.nil_append] at hfin
  simp only [R] at lp
  rw [hfin] at lp
  have pp : pureDs (f.ls.map D.str) = true := pureDs_map fun _ _ => by simp
  simp [b_formula_lines, startR, mkLst, bindG, ex_fors, e, walkD, Itr.items] at lp ⊢
  simp [lp, pp]
end
end Pw.k61
end
section
set_option Elab.async false
set_option linter.all false
set_option maxRecDepth 100000
namespace Pw.k61
open PySem
abbrev NF : D := g_NO_FORM
section
variable (st : Store)
theorem cmp_eq_w {x y : List Nat} (hx : ascB x = true) (hy : ascB y = true) (b : Bool) (h : decide (x = y) = b) (s : Store) : cmp2 .eq (.str x) (.str y) s = .ok (.bl b, s) := by rw [cmp_eq_str hx hy, h]
theorem cmp_ne_w {x y : List Nat} (hx : ascB x = true) (hy : ascB y = true) (b : Bool) (h : decide (x = y) = b) (s : Store) : cmp2 .ne (.str x) (.str y) s = .ok (.bl (!b), s) := by rw [cmp_ne_str hx hy, h]
theorem mem_tm {w : List Nat} (hw : ascB w = true) (b : Bool) (h : decide (w ∈ [wTimes, wMoved]) = b) (s : Store) : cmp2 .mem (.str w) (.tup [.str wTimes, .str wMoved]) s = .ok (.bl b, s) := cmp_mem_of (by
  rw [← h]
  exact memD_strs (st := s) (ys := [wTimes, wMoved]) hw (by decide))
theorem atD2 {α : Type} (a b c : α) (l : List α) : atD (a :: b :: c :: l) 2 = some c := by
  have : (2 : Int) < ((a :: b :: c :: l).length : Int) := by simp; omega
  simp only [atD, L2.atI, L2.ixN, this]
  simp
theorem atD3 {α : Type} (a b c d : α) (l : List α) : atD (a :: b :: c :: d :: l) 3 = some d := by
  have : (3 : Int) < ((a :: b :: c :: d :: l).length : Int) := by simp; omega
  simp only [atD, L2.atI, L2.ixN, this]
  simp
theorem asc_one (k : Nat) (a : Int) : run p.T (k+1) i_is_ascending [.tup [.int a]] st = .ok (.bl true, st) := by
  rw [run_def t_is_ascending rfl]
  have e : ev (run p.T k) (.lc [1] (.name 1) (.rng .nil (.op .sub (.bf .len (.var 0)) (.cst (.int 1)))) .nil (.cmp .lt (.sub (.var 0) (.var 1)) (.sub (.var 0) (.op .add (.var 1) (.cst (.int 1)))))) [some (.tup [.int a]), none] st = .ok (.ref st.length, st ++ [.lst []]) := by
    simp [ev_lc, bfD, seqD, rangeOk, rangeL, Itr.items, loopC, mkLst]
  simp [b_is_ascending, startR, e, bfD, lstD, bools]
theorem asc_two (k : Nat) (a b : Int) (h : a < b) : run p.T (k+1) i_is_ascending [.tup [.int a, .int b]] st = .ok (.bl true, st) := by
  rw [run_def t_is_ascending rfl]
  have e : ev (run p.T k) (.lc [1] (.name 1) (.rng .nil (.op .sub (.bf .len (.var 0)) (.cst (.int 1)))) .nil (.cmp .lt (.sub (.var 0) (.var 1)) (.sub (.var 0) (.op .add (.var 1) (.cst (.int 1)))))) [some (.tup [.int a, .int b]), none] st = .ok (.ref st.length, st ++ [.lst [.bl true]]) := by
    simp [ev_lc, bfD, seqD, rangeOk, rangeL, Itr.items, loopC, mkLst, wipeR, bindG, subD, okD, atD0, atD1, h, List.range_succ]
  simp [b_is_ascending, startR, e, bfD, lstD, bools]
theorem values_one (k : Nat) (a : Int) (h : 1 ≤ a ∧ a ≤ 1000) : run p.T (k+3) i_is_values [.tup [.int a]] st = .ok (.bl true, st) := by
  rw [run_def t_is_values rfl]
  have e : ev (run p.T (k+2)) (.lc [1] (.name 1) (.wlk (.var 0)) .nil (.call i_is_between (.cons (.var 1) (.cons (.cst (.int 1)) (.cons (.cst (.int 1000)) .nil))))) [some (.tup [.int a]), none] st = .ok (.ref st.length, st ++ [.lst [.bl true]]) := by
    simp [ev_lc, walkD, Itr.items, loopC, mkLst, wipeR, bindG, is_between_int, h.1, h.2]
  simp [b_is_values, startR, isTy, e, bfD, lstD, seqD, bools, asc_one]
theorem values_two (k : Nat) (a b : Int) (h : 1 ≤ a ∧ a < b ∧ b ≤ 1000) : run p.T (k+3) i_is_values [.tup [.int a, .int b]] st = .ok (.bl true, st) := by
  rw [run_def t_is_values rfl]
  have h1 : a ≤ 1000 := by omega
  have h2 : 1 ≤ b := by omega
  have e : ev (run p.T (k+2)) (.lc [1] (.name 1) (.wlk (.var 0)) .nil (.call i_is_between (.cons (.var 1) (.cons (.cst (.int 1)) (.cons (.cst (.int 1000)) .nil))))) [some (.tup [.int a, .int b]), none] st = .ok (.ref st.length, st ++ [.lst [.bl true, .bl true]]) := by
    simp [ev_lc, walkD, Itr.items, loopC, mkLst, wipeR, bindG, is_between_int, h.1, h.2.2, h1, h2]
  simp [b_is_values, startR, isTy, e, bfD, lstD, seqD, bools, asc_two _ _ a b h.2.1]
theorem right_two (k : Nat) {w : List Nat} (h : w ∈ pairsL) : run p.T (k+4) i_is_right_row [.tup [.str w, NF, NF]] st = .ok (.bl true, st) := by
  rw [run_def t_is_right_row rfl]
  obtain ⟨w1, _, _, _, _, _, _, _, d1, d2, d3⟩ := two_word h
  have c1 := cmp_eq_w w1 (show ascB wDiv = true by decide) false (decide_eq_false d1)
  have c2 := mem_tm w1 false (decide_eq_false (by simp [d2, d3]))
  have c3 := fun s => mem_pairs s w1
  simp [h] at c3
  simp [b_is_right_row, startR, isTy, bfD, seqD, subD, okD, atD0, c1, mkTup, c2, c3]
theorem right_from (k : Nat) : run p.T (k+4) i_is_right_row [.tup [.str wFrom, NF]] st = .ok (.bl true, st) := by
  rw [run_def t_is_right_row rfl]
  have c1 := cmp_eq_w (show ascB wFrom = true by decide) (show ascB wFrom = true by decide) true (by decide)
  simp [b_is_right_row, startR, isTy, bfD, seqD, subD, okD, atD0, c1]
theorem right_name (k : Nat) (x : List Nat) (h : nameB x = true) : run p.T (k+4) i_is_right_row [.tup [.str wName, .str x]] st = .ok (.bl true, st) := by
  rw [run_def t_is_right_row rfl]
  have c1 := cmp_eq_w (show ascB wName = true by decide) (show ascB wFrom = true by decide) false (by decide)
  have c2 := cmp_eq_w (show ascB wName = true by decide) (show ascB wForm = true by decide) false (by decide)
  have c3 := cmp_eq_w (show ascB wName = true by decide) (show ascB wName = true by decide) true (by decide)
  obtain ⟨h1, h2⟩ := Bool.and_eq_true_iff.mp h
  have h1 := of_decide_eq_true h1
  have hn := is_name_str (k+1) st x (asc_of fun c hc => by
    have := of_decide_eq_true (List.all_eq_true.mp h2 c hc)
    omega) (by show _ ≤ 16777216; omega)
  rw [h] at hn
  have el : run p.T (k+3) i__is_leaf [.tup [.str wName, .str x]] st = .ok (.bl true, st) := by
    rw [run_def t__is_leaf rfl]
    simp [b__is_leaf, startR, subD, okD, atD0, atD1, c2, c3, hn]
  simp [b_is_right_row, startR, isTy, bfD, seqD, subD, okD, atD0, c1, el]
theorem right_few (k : Nat) (vs : List D) (hv : run p.T (k+3) i_is_values [.tup vs] st = .ok (.bl true, st)) : run p.T (k+5) i_is_right_row [.tup [.str wFew, .tup vs]] st = .ok (.bl true, st) := by
  rw [run_def t_is_right_row rfl]
  have c1 := cmp_eq_w (show ascB wFew = true by decide) (show ascB wFrom = true by decide) false (by decide)
  have c2 := cmp_eq_w (show ascB wFew = true by decide) (show ascB wForm = true by decide) false (by decide)
  have c3 := cmp_eq_w (show ascB wFew = true by decide) (show ascB wName = true by decide) false (by decide)
  have c4 := cmp_eq_w (show ascB wFew = true by decide) (show ascB wFew = true by decide) true (by decide)
  have el : run p.T (k+4) i__is_leaf [.tup [.str wFew, .tup vs]] st = .ok (.bl true, st) := by
    rw [run_def t__is_leaf rfl]
    simp [b__is_leaf, startR, subD, okD, atD0, atD1, c2, c3, c4, hv]
  simp [b_is_right_row, startR, isTy, bfD, seqD, subD, okD, atD0, c1, el]
theorem right_one (k : Nat) {w : List Nat} {ns : List (Option Int)} (h : OneOk w ns) : run p.T (k+4) i_is_right_row [.tup (.str w :: NF :: ns.map bdD)] st = .ok (.bl true, st) := by
  rcases h with ⟨rfl, rfl⟩ | ⟨rfl, i, rfl, hi⟩ | ⟨rfl, i, rfl, hi⟩ | ⟨rfl, i, rfl, h1, h2⟩ | ⟨rfl, a, b, rfl, ha, hb⟩
  · exact right_from st k
  · rw [run_def t_is_right_row rfl]
    have c1 := cmp_eq_w (show ascB wTimes = true by decide) (show ascB wDiv = true by decide) false (by decide)
    have c2 := mem_tm (show ascB wTimes = true by decide) true (by decide)
    simp [b_is_right_row, startR, isTy, bfD, seqD, subD, okD, atD0, atD2, c1, c2, mkTup, bdD, is_integer_int]
  · rw [run_def t_is_right_row rfl]
    have c1 := cmp_eq_w (show ascB wMoved = true by decide) (show ascB wDiv = true by decide) false (by decide)
    have c2 := mem_tm (show ascB wMoved = true by decide) true (by decide)
    simp [b_is_right_row, startR, isTy, bfD, seqD, subD, okD, atD0, atD2, c1, c2, mkTup, bdD, is_integer_int]
  · rw [run_def t_is_right_row rfl]
    have c1 := cmp_eq_w (show ascB wDiv = true by decide) (show ascB wDiv = true by decide) true (by decide)
    simp [b_is_right_row, startR, isTy, bfD, seqD, subD, okD, atD0, atD2, c1, mkTup, bdD, is_between_int, h1, h2]
  · rw [run_def t_is_right_row rfl]
    have c1 := cmp_eq_w (show ascB wWhere = true by decide) (show ascB wWhere = true by decide) true (by decide)
    simp [b_is_right_row, startR, isTy, bfD, seqD, subD, okD, atD0, atD2, atD3, c1, is_bound_ok]
end
end Pw.k61
end
section
set_option Elab.async false
set_option linter.all false
set_option maxRecDepth 100000
namespace Pw.k61
open PySem
section
variable (st : Store)
theorem row_two (k : Nat) {w : List Nat} (h : w ∈ pairsL) (n : Nat) (hn : listAt st n = some [.str w]) : run p.T (k+6) i__row_of [.ref n] st = .ok (.tup [.str w, NF, NF], st) := by
  rw [run_def t__row_of rfl]
  obtain ⟨w1, _, w2, _⟩ := two_word h
  have c1 := fun s => mem_pairs s w1
  simp [h] at c1
  have c2 := cmp_ne_w w1 (show ascB wForm = true by decide) false (decide_eq_false w2)
  have r := right_two st (k+1) h
  simp [b__row_of, startR, hn, subD, okD, atD0, bindG, c1, bfD, seqD, mkTup, c2, r]
theorem row_one (k : Nat) {w : List Nat} {ns : List (Option Int)} (h : OneOk w ns) (n : Nat) (hn : listAt st n = some (.str w :: ns.map fun o => .str (bdT o))) : run p.T (k+6) i__row_of [.ref n] st = .ok (.tup (.str w :: NF :: ns.map bdD), st) := by
  rw [run_def t__row_of rfl]
  obtain ⟨_, v1, w1, _, w2, w3, w4, _⟩ := one_word h
  obtain ⟨b1, b2⟩ := one_bds h
  have c1 := fun s => mem_pairs s w1
  simp [v1] at c1
  have c2 := cmp_ne_w w1 (show ascB wForm = true by decide) false (decide_eq_false w2)
  have c3 := cmp_eq_w w1 (show ascB wName = true by decide) false (decide_eq_false w3)
  have c4 := cmp_eq_w w1 (show ascB wFew = true by decide) false (decide_eq_false w4)
  have r := right_one st (k+1) h
  have pp : pureDs (ns.map bdD) = true := pureDs_map fun o _ => pure_bd o
  have pp2 : pureDs (ns.map fun o => D.str (bdT o)) = true := pureDs_map fun o _ => by simp
  by_cases hf : w = wFrom
  · have hns : ns = [] := by
      rcases h with ⟨_, e⟩ | ⟨e, _⟩ | ⟨e, _⟩ | ⟨e, _⟩ | ⟨e, _⟩
      · exact e
      all_goals (rw [hf] at e; exact absurd e (by decide))
    subst hf hns
    have c5 := cmp_eq_w (show ascB wFrom = true by decide) (show ascB wFrom = true by decide) true (by decide)
    simp at hn r
    simp [b__row_of, startR, hn, subD, okD, atD0, bindG, c1, c5, bfD, seqD, mkTup, c2, r]
  · have c5 := cmp_eq_w w1 (show ascB wFrom = true by decide) false (decide_eq_false hf)
    have e1 := lc_at (C := run p.T (k+5)) (vs := [3]) (G := .name 3) (it := .wlk (.cut (.var 0) (.cons (.cst (.int 1)) .nil) .nil)) (elt := .call i_optional_of (.cons (.var 3) (.cons (.cst (.str wNone)) .nil))) (ρ := [some (.ref n), some (.str w), none, none])
      (st := st) (st1 := st ++ [.lst (ns.map fun o => .str (bdT o))]) ns (fun o => .str (bdT o)) bdD (I := .cell st.length (ns.map fun o => .str (bdT o))) (by
        simp [cutD, cut1', walkD, hn, pp2]) rfl (by simp [Itr.stands]) (fun c hc => ⟨_, rfl, by simp [wipeR, optional_of_ok _ _ c (bdB_some (b1 c hc))]⟩) (Nat.le_trans b2 (by decide))
    have l1 : ns.length + 2 ≤ LN := by show _ ≤ 16777216; omega
    have l2 : 2 + ns.length ≤ LN := by show _ ≤ 16777216; omega
    simp at e1
    simp [b__row_of, startR, hn, subD, okD, atD0, bindG, c1, c3, c4, c5, e1, bfD, seqD, mkTup, c2, r, pp, l1, l2]
theorem row_name (k : Nat) (x : List Nat) (h : nameB x = true) (n : Nat) (hn : listAt st n = some [.str wName, .str x]) : run p.T (k+6) i__row_of [.ref n] st = .ok (.tup [.str wName, .str x], st) := by
  rw [run_def t__row_of rfl]
  have c1 := fun s => mem_pairs s (show ascB wName = true by decide)
  simp [show wName ∉ pairsL by decide] at c1
  have c2 := cmp_ne_w (show ascB wName = true by decide) (show ascB wForm = true by decide) false (by decide)
  have c3 := cmp_eq_w (show ascB wName = true by decide) (show ascB wName = true by decide) true (by decide)
  have c5 := cmp_eq_w (show ascB wName = true by decide) (show ascB wFrom = true by decide) false (by decide)
  have r := right_name st (k+1) x h
  simp [b__row_of, startR, hn, subD, okD, atD0, bindG, c1, c3, c5, bfD, c2, r]
theorem row_fewL (k : Nat) (l : List Int) (hl : l.length ≤ 4) (hb : ∀ a ∈ l, 1 ≤ a ∧ a ≤ 1000) (hv : ∀ s, run p.T (k+3) i_is_values [.tup (l.map .int)] s = .ok (.bl true, s)) (n : Nat) (hn : listAt st n = some (.str wFew :: l.map fun a => .str (numT a))) : run p.T (k+6) i__row_of [.ref n] st = .ok (.tup [.str wFew, .tup (l.map .int)], st) := by
  rw [run_def t__row_of rfl]
  have c1 := fun s => mem_pairs s (show ascB wFew = true by decide)
  simp [show wFew ∉ pairsL by decide] at c1
  have c2 := cmp_ne_w (show ascB wFew = true by decide) (show ascB wForm = true by decide) false (by decide)
  have c3 := cmp_eq_w (show ascB wFew = true by decide) (show ascB wName = true by decide) false (by decide)
  have c4 := cmp_eq_w (show ascB wFew = true by decide) (show ascB wFew = true by decide) true (by decide)
  have c5 := cmp_eq_w (show ascB wFew = true by decide) (show ascB wFrom = true by decide) false (by decide)
  have r := fun s => right_few s k _ (hv s)
  have pp2 : pureDs (l.map fun o => D.str (numT o)) = true := pureDs_map fun o _ => by simp
  have pp : pureDs (l.map D.int) = true := pureDs_map fun o _ => by simp
  have e1 := lc_at (C := run p.T (k+5)) (vs := [3]) (G := .name 3) (it := .wlk (.cut (.var 0) (.cons (.cst (.int 1)) .nil) .nil)) (elt := .call i_integer_of (.cons (.var 3) .nil)) (ρ := [some (.ref n), some (.str wFew), none, none])
    (st := st) (st1 := st ++ [.lst (l.map fun a => .str (numT a))]) l (fun a => .str (numT a)) .int (I := .cell st.length (l.map fun a => .str (numT a))) (by
      simp [cutD, cut1', walkD, hn, pp2]) rfl (by simp [Itr.stands]) (fun c hc => ⟨_, rfl, by simp [wipeR, integer_of_num _ _ c (few_num (hb c hc)).2.2]⟩) (Nat.le_trans hl (by decide))
  simp at e1
  simp [b__row_of, startR, hn, subD, okD, atD0, bindG, c1, c3, c4, c5, e1, bfD, seqD, mkTup, c2, r, pp]
end
end Pw.k61
end
section
set_option Elab.async false
set_option linter.all false
set_option maxRecDepth 100000
namespace Pw
open PySem
/-! a cell that is changed far down -/
section
variable {st a b l : Store} {n k : Nat} {X : Cell} {d : D}
@[simp] theorem listAt_set0 : listAt (st.set n X ++ l) st.length = listAt l 0 := by
  have := listAt_0 (st.set n X) l
  rw [List.length_set] at this
  exact this
@[simp] theorem listAt_setk : listAt (st.set n X ++ l) (st.length + k) = listAt l k := by
  have := listAt_k (st.set n X) l k
  rw [List.length_set] at this
  exact this
@[simp] theorem at_set0 : (st.set n X ++ l)[st.length]? = l[0]? := by
  have := at_0 (st.set n X) l
  rw [List.length_set] at this
  exact this
@[simp] theorem at_setk : (st.set n X ++ l)[st.length + k]? = l[k]? := by
  have := at_k (st.set n X) l k
  rw [List.length_set] at this
  exact this
@[simp] theorem set_set0 {Y : Cell} : (st.set n X ++ l).set st.length Y = st.set n X ++ l.set 0 Y := by
  have := set_0 (st.set n X) l Y
  rw [List.length_set] at this
  exact this
@[simp] theorem set_setk {Y : Cell} : (st.set n X ++ l).set (st.length + k) Y = st.set n X ++ l.set k Y := by
  have := set_k (st.set n X) l k Y
  rw [List.length_set] at this
  exact this
@[simp] theorem gc_refS (ok : okPre (st.length + a.length) a b = true) : gc (st.set n X ++ a) (.ref (st.length + k)) (st.set n X ++ b) = if k < a.length then (.ref (st.length + k), st.set n X ++ b.take a.length) else match b[k]? with
    | some c => if bndC (st.length + a.length) c = true then (.ref (st.length + a.length), st.set n X ++ (b.take a.length ++ [c])) else (.ref (st.length + k), st.set n X ++ b)
    | none => (.ref (st.length + k), st.set n X ++ b) := by
  have := gc_ref (s := st.set n X) (a := a) (b := b) (k := k) (by rw [List.length_set]; exact ok)
  rw [List.length_set] at this
  exact this
theorem okPre_set {m : Nat} (hX : bndC m X = true) : ∀ (st : Store) (n : Nat) (l : Store), okPre m st (st.set n X ++ l) = true
  | [], _, _ => by simp
  | c :: st, 0, l => by
    show ((decide (X = c) || bndC m X) && okPre m st (st ++ l)) = true
    rw [hX, okPre_app]; simp
  | c :: st, n + 1, l => by
    show ((decide (c = c) || bndC m c) && okPre m st (st.set n X ++ l)) = true
    rw [okPre_set hX st n l]; simp
theorem gc_setD {ds : List D} (hd : pureD d = true) (hX : pureDs ds = true) : gc st d (st.set n (.lst ds) ++ l) = (d, st.set n (.lst ds)) := by
  unfold gc
  rw [if_pos (okPre_set (bndC_pure hX) st n l), if_pos (bnd_pure hd)]
  congr 1
  have : (st.set n (.lst ds)).length = st.length := List.length_set
  rw [← this, List.take_left' rfl]
theorem okPre_set2 {m : Nat} {Y : Cell} (hY : bndC m Y = true) : ∀ (st : Store) (n : Nat) (a b : Store), okPre m a b = true → okPre m (st.set n X ++ a) (st.set n Y ++ b) = true
  | [], _, _, _, h => by simpa using h
  | c :: st, 0, a, b, h => by
    show ((decide (Y = X) || bndC m Y) && okPre m (st ++ a) (st ++ b)) = true
    rw [hY, okPre_same, h]; simp
  | c :: st, n + 1, a, b, h => by
    show ((decide (c = c) || bndC m c) && okPre m (st.set n X ++ a) (st.set n Y ++ b)) = true
    rw [okPre_set2 hY st n a b h]; simp
theorem gc_setE {ds : List D} (hd : pureD d = true) (hY : pureDs ds = true) (ok : okPre (st.length + a.length) a b = true) : gc (st.set n X ++ a) d (st.set n (.lst ds) ++ b) = (d, st.set n (.lst ds) ++ b.take a.length) := by
  unfold gc
  have e : (st.set n X ++ a).length = st.length + a.length := by rw [List.length_append, List.length_set]
  rw [e, if_pos (okPre_set2 (bndC_pure hY) st n a b ok), if_pos (bnd_pure hd)]
  congr 1
  have : (st.set n (.lst ds)).length = st.length := List.length_set
  rw [← this, List.take_length_add_append]
end
end Pw
namespace Pw.k61
open PySem
theorem drop_at {lines ls rest : List (List Nat)} {at_ i : Nat} {x : List Nat} (h : lines.drop at_ = ls ++ rest) (hx : ls[i]? = some x) : lines[at_ + i]? = some x := by
  have : (lines.drop at_)[i]? = some x := by
    rw [h, List.getElem?_append_left (List.getElem?_eq_some_iff.mp hx).1]
    exact hx
  rw [List.getElem?_drop] at this
  exact this
theorem Fm.one_line {w : List Nat} {ns : List (Option Int)} (h : OneOk w ns) : (joinL [32] (w :: ns.map bdT)).length ≤ 1000 ∧ ∀ v ∈ (w :: ns.map bdT), wordB v = true := by
  obtain ⟨_, _, _, w2, _, _, _, _, w4⟩ := one_word h
  obtain ⟨b1, b2⟩ := one_bds h
  refine ⟨?_, fun v hv => ?_⟩
  · have := words_le (ws := w :: ns.map bdT) (n := 3) (m := 40) (by simp; omega) (fun v hv => by
      rcases List.mem_cons.mp hv with rfl | hv
      · omega
      · obtain ⟨o, ho, rfl⟩ := List.mem_map.mp hv
        exact bdT_len (b1 o ho))
    omega
  · rcases List.mem_cons.mp hv with rfl | hv
    · exact w2
    · obtain ⟨o, ho, rfl⟩ := List.mem_map.mp hv
      exact bdT_word o
/-- what is read of a formula -/
def ReadOk (f : Fm) (m : Nat) : Prop := ∀ (st : Store) (n1 n2 : Nat) (lines rest : List (List Nat)) (at_ : Nat) (a b depth : Int), listAt st n1 = some (lines.map .str) → n1 ≠ n2 → st[n2]? = some (.lst [.int a, .int b]) → lines.drop at_ = f.ls ++ rest →
  a + b + f.size ≤ 41 → depth + f.ht ≤ 10 → run p.T m i_read_formula [.ref n1, .int at_, .int depth, .ref n2] st = .ok (.tup [f.d, .int (at_ + f.ls.length)], st.set n2 (.lst [.int (a + f.size), .int (b - 1)]))
section
variable {st : Store} {n1 n2 : Nat} {lines : List (List Nat)} {a b : Int}
structure StOk (st : Store) (n1 n2 : Nat) (L : List D) (a b : Int) : Prop where
  l1 : ∀ l, listAt (st ++ l) n1 = some L
  l2 : ∀ X l, listAt (st.set n2 X ++ l) n1 = some L
  c1 : ∀ l, listAt (st ++ l) n2 = some [.int a, .int b]
  c2 : ∀ ds l, listAt (st.set n2 (.lst ds) ++ l) n2 = some ds
  s1 : ∀ d l, setItemD (.ref n2) (.int 0) d (st ++ l) = some (st.set n2 (.lst [d, .int b]) ++ l)
  s2 : ∀ x y d l, setItemD (.ref n2) (.int 1) d (st.set n2 (.lst [x, y]) ++ l) = some (st.set n2 (.lst [x, d]) ++ l)
  g1 : ∀ l, getL (.ref n2) (.int 0) (st ++ l) = some (.int a)
  g2 : ∀ x l, getL (.ref n2) (.int 1) (st.set n2 (.lst [x, .int b]) ++ l) = some (.int b)
  ss : ∀ X Y l, (st.set n2 X ++ l).set n2 Y = st.set n2 Y ++ l
  cc : ∀ X l, (st.set n2 X ++ l)[n2]? = some X
theorem stOk {L : List D} (h1 : listAt st n1 = some L) (hne : n1 ≠ n2) (h2 : st[n2]? = some (.lst [.int a, .int b])) : StOk st n1 n2 L a b := by
  have hl2 : n2 < st.length := (List.getElem?_eq_some_iff.mp h2).1
  have c1 : ∀ l, listAt (st ++ l) n2 = some [.int a, .int b] := fun l => by
    unfold listAt
    rw [List.getElem?_append_left hl2, h2]
  have at2 : ∀ X (l : Store), (st.set n2 X ++ l)[n2]? = some X := fun X l => by
    rw [List.getElem?_append_left (by simpa using hl2), List.getElem?_set_self hl2]
  have c2 : ∀ ds l, listAt (st.set n2 (.lst ds) ++ l) n2 = some ds := fun ds l => by
    unfold listAt
    rw [at2]
  have ss : ∀ X Y l, (st.set n2 X ++ l).set n2 Y = st.set n2 Y ++ l := fun X Y l => by
    rw [List.set_append_left _ _ (by simpa using hl2), List.set_set]
  refine ⟨fun l => listAt_app st h1 l, fun X l => ?_, c1, c2, fun d l => ?_, fun x y d l => ?_, fun l => ?_, fun x l => ?_, ss, at2⟩
  · have := listAt_app st h1 l
    unfold listAt at this ⊢
    have hl1 : n1 < st.length := by
      unfold listAt at h1
      by_cases z : n1 < st.length
      · exact z
      · rw [List.getElem?_eq_none (by omega)] at h1; cases h1
    rw [List.getElem?_append_left (by simpa using hl1), List.getElem?_set_ne (Ne.symm hne)]
    rw [List.getElem?_append_left hl1] at this
    exact this
  · unfold setItemD
    dsimp only
    rw [List.getElem?_append_left hl2, h2]
    dsimp only
    rw [show L2.ixN [D.int a, D.int b].length 0 = some 0 from rfl]
    show some ((st ++ l).set n2 (.lst [d, .int b])) = _
    rw [List.set_append_left _ _ hl2]
  · unfold setItemD
    dsimp only
    rw [at2]
    dsimp only
    rw [show L2.ixN [x, y].length 1 = some 1 from rfl]
    show some ((st.set n2 (.lst [x, y]) ++ l).set n2 (.lst [x, d])) = _
    rw [ss]
  · unfold getL
    dsimp only
    rw [c1]
    rfl
  · unfold getL
    dsimp only
    rw [c2]
    rfl
end
end Pw.k61
end
section
set_option Elab.async false
set_option linter.all false
set_option maxRecDepth 100000
namespace Pw.k61
open PySem
theorem read_form_f (f : Fo) (hf : f.Ok) (k : Nat) : ReadOk (.form f) (k + 6) := by
  intro st n1 n2 lines rest at_ a b depth h1 hne h2 hd hz hdp
  rw [run_def t_read_formula rfl]
  have so := stOk h1 hne h2
  have a1 := drop_at hd (show (Fm.form f).ls[0]? = some (joinL [32] f.hl) from rfl)
  have a2 := drop_at hd (show (Fm.form f).ls[1]? = some (joinL [32] f.tl) from rfl)
  have hll := hf.hll
  have w := words_at_ok (k+3) st n1 at_ lines _ h1 a1 (by simp [Fo.hl]) hf.hlw (by show _ ≤ 16777216; omega)
  have r := read_form_ok (k+1) (st.set n2 (.lst [.int (a + 1), .int (b - 1)]) ++ [.lst (f.hl.map .str)]) n1 at_ lines f hf (so.l2 _ _) a1 a2
  have c := cmp_eq_w (show ascB wHead = true by decide) (show ascB wHead = true by decide) true (by decide)
  have pf : pureD f.d = true := pure_fo _ _
  have pl : pureDs (f.h.map fun o => D.str (bdT o)) = true := pureDs_map fun _ _ => by simp
  simp [Fo.hl, Function.comp_def] at w r
  simp [b_read_formula, startR, w, bindG, pl, subD, okD, atD0, c, so.g1, so.s1, so.g2, so.s2, augOp, r, mkTup, pf, gc_setD, Fm.d, Fm.ls, Fo.ls, Fm.size]
end Pw.k61
end
section
set_option Elab.async false
set_option linter.all false
set_option maxRecDepth 100000
namespace Pw.k61
open PySem
theorem cut01 (w : D) (r : List D) : cutL (w :: r) none (some 1) = [w] := by
  unfold cutL HT.sIx
  simp
theorem read_leaf (f : Fm) (w : List Nat) (ws : List (List Nat)) (row : List D) (hw1 : ascB w = true) (hw2 : w ≠ wHead) (hd' : f.d = .tup (.str w :: row)) (hls : f.ls = [joinL [32] (w :: ws)]) (hsz : f.size = 1)
    (hwb : ∀ v ∈ w :: ws, wordB v = true) (hlen : (joinL [32] (w :: ws)).length ≤ 1000) (hp : pureDs row = true) (hrl : row.length ≤ 10) (k : Nat)
    (hrow : ∀ (s : Store) (n : Nat), listAt s n = some (.str w :: ws.map .str) → run p.T (k+9) i__row_of [.ref n] s = .ok (.tup (.str w :: row), s)) (hin : ∀ s, run p.T (k+9) i_inner_of [.tup (.str w :: row)] s = .ok (.tup [], s)) : ReadOk f (k + 10) := by
  intro st n1 n2 lines rest at_ a b depth h1 hne h2 hd hz hdp
  rw [run_def t_read_formula rfl]
  have so := stOk h1 hne h2
  have a1 := drop_at hd (show f.ls[0]? = some (joinL [32] (w :: ws)) from by rw [hls]; rfl)
  have wa := words_at_ok (k+7) st n1 at_ lines _ h1 a1 (by simp) hwb (by show _ ≤ 16777216; omega)
  have c := cmp_eq_w hw1 (show ascB wHead = true by decide) false (decide_eq_false hw2)
  have r1 := hrow (st ++ [.lst (.str w :: ws.map .str)]) st.length (by simp)
  have pl : pureDs (ws.map D.str) = true := pureDs_map fun _ _ => by simp
  have cz : ¬ (40 < a + 1 + (b + (-1))) := by omega
  have cz2 : a + 1 + (b + (-1)) = a + b := by omega
  have cz3 : ¬ (40 < a + b) := by omega
  have hl1 : row.length + 1 ≤ LN := by show _ ≤ 16777216; omega
  have hl2 : 1 + row.length ≤ LN := by show _ ≤ 16777216; omega
  simp at wa
  simp [b_read_formula, startR, wa, bindG, pl, subD, okD, atD0, c, r1, hin, bfD, seqD, so.g1, so.s1, so.g2, so.s2, so.c2, augOp, g_MAX_TUPLES, g_MAX_DEPTH, cz, cz2, cz3, mkLst, ex_fors, rangeOk, rangeL, Itr.items, loopF, cutD, cut01, cut1', mkTup, hl1, hl2, hp, gc_setD, hd', hls, hsz, atD1]
  rw [Int.sub_eq_add_neg]
theorem drop_next {lines : List (List Nat)} {at_ : Nat} {x : List Nat} {ls rest : List (List Nat)} (h : lines.drop at_ = x :: ls ++ rest) : lines.drop (at_ + 1) = ls ++ rest := by
  rw [← List.drop_drop, h]
  rfl
theorem cut2' (w x : D) (r : List D) : cutL (w :: x :: r) (some (1 + 1)) none = r := cut2 w x r
theorem read_one (w : List Nat) (c : Fm) (ns : List (Option Int)) (h : OneOk w ns) (k : Nat) (ih : ReadOk c (k + 9)) : ReadOk (.one w c ns) (k + 10) := by
  intro st n1 n2 lines rest at_ a b depth h1 hne h2 hd hz hdp
  rw [run_def t_read_formula rfl]
  have so := stOk h1 hne h2
  obtain ⟨_, _, hw1, _, _, _, _, hw2, _⟩ := one_word h
  obtain ⟨b1, b2⟩ := one_bds h
  obtain ⟨hlen, hwb⟩ := Fm.one_line h
  have a1 := drop_at hd (show (Fm.one w c ns).ls[0]? = some (joinL [32] (w :: ns.map bdT)) from rfl)
  have wa := words_at_ok (k+7) st n1 at_ lines _ h1 a1 (by simp) hwb (by show _ ≤ 16777216; omega)
  have cc := cmp_eq_w hw1 (show ascB wHead = true by decide) false (decide_eq_false hw2)
  have r1 := row_one (st ++ [.lst (.str w :: ns.map fun o => .str (bdT o))]) (k+3) h st.length (by simp)
  have hin := fun s => inner_one (st := s) (k+8) h NF (ns.map bdD)
  have pl : pureDs (ns.map fun o => D.str (bdT o)) = true := pureDs_map fun _ _ => by simp
  have pn : pureDs (ns.map bdD) = true := pureDs_map fun o _ => pure_bd o
  have hsz : (Fm.one w c ns).size = c.size + 1 := rfl
  have hht : (Fm.one w c ns).ht = c.ht + 1 := rfl
  have hc1 : 1 ≤ c.size := by cases c <;> simp [Fm.size]
  have cz : ¬ (40 < a + 1 + b) := by rw [hsz] at hz; omega
  have cz2 : ¬ (depth = 10) := by rw [hht] at hdp; omega
  have hi := ih (st.set n2 (.lst [.int (a + 1), .int b]) ++ [.lst (.str w :: ns.map fun o => .str (bdT o)), .lst []]) n1 n2 lines rest (at_ + 1) (a + 1) b (depth + 1) (so.l2 _ _) hne (so.cc _ _) (drop_next hd) (by rw [hsz] at hz; omega) (by rw [hht] at hdp; omega)
  have l1 : ns.length + 2 ≤ LN := by show _ ≤ 16777216; omega
  have l2 : 2 + ns.length ≤ LN := by show _ ≤ 16777216; omega
  simp [Function.comp_def, so.ss] at wa hi
  simp [b_read_formula, startR, wa, bindG, setAll, pl, pn, subD, okD, atD0, cc, r1, hin, bfD, seqD, so.g1, so.s1, so.g2, so.s2, so.c2, augOp, g_MAX_TUPLES, g_MAX_DEPTH, cz, cz2, mkLst, ex_fors, rangeOk, rangeL, Itr.items, loopF, hi, bmTy, bmD, c.pure, cutD, cut01, cut2, cut2', mkTup, l1, l2, gc_setD, gc_setE, Fm.d, Fm.ls, Fm.size, atD1, List.range_succ]
  refine ⟨by omega, ?_⟩
  rw [show a + 1 + (c.size : Int) = a + (c.size + 1) from by omega]
theorem cut3 (a b c : D) : cutL [a, b, c] (some 3) none = [] := rfl
theorem lt_LN1 : decide (1 < LN) = true := by decide
theorem read_two (w : List Nat) (x y : Fm) (h : w ∈ pairsL) (k : Nat) (ihx : ReadOk x (k + 9)) (ihy : ReadOk y (k + 9)) : ReadOk (.two w x y) (k + 10) := by
  intro st n1 n2 lines rest at_ a b depth h1 hne h2 hd hz hdp
  rw [run_def t_read_formula rfl]
  have so := stOk h1 hne h2
  obtain ⟨hw1, hwb, _, _, _, _, hw2, hwl, _⟩ := two_word h
  have a1 := drop_at hd (show (Fm.two w x y).ls[0]? = some (joinL [32] [w]) from rfl)
  have wa := words_at_ok (k+7) st n1 at_ lines _ h1 a1 (by simp) (fun v hv => by simp at hv; subst hv; exact hwb) (by show w.length + 2 ≤ 16777216; omega)
  have cc := cmp_eq_w hw1 (show ascB wHead = true by decide) false (decide_eq_false hw2)
  have r1 := row_two (st ++ [.lst [.str w]]) (k+3) h st.length (by simp)
  have hin := fun s => inner_two (st := s) (k+8) h NF NF (by simp) (by simp)
  have hsz : (Fm.two w x y).size = x.size + y.size + 1 := rfl
  have hht : (Fm.two w x y).ht = max x.ht y.ht + 1 := rfl
  have hx1 : 1 ≤ x.size := by cases x <;> simp [Fm.size]
  have hy1 : 1 ≤ y.size := by cases y <;> simp [Fm.size]
  have cz : ¬ (40 < a + 1 + (b + 1)) := by rw [hsz] at hz; omega
  have cz2 : ¬ (depth = 10) := by rw [hht] at hdp; omega
  have hd1 : lines.drop (at_ + 1) = x.ls ++ (y.ls ++ rest) := by
    have := drop_next (ls := x.ls ++ y.ls) hd
    rw [this, List.append_assoc]
  have hd2 : lines.drop (at_ + 1 + x.ls.length) = y.ls ++ rest := by
    rw [← List.drop_drop, hd1, List.drop_left' rfl]
  have hi := ihx (st.set n2 (.lst [.int (a + 1), .int (b + 1)]) ++ [.lst [.str w], .lst []]) n1 n2 lines (y.ls ++ rest) (at_ + 1) (a + 1) (b + 1) (depth + 1) (so.l2 _ _) hne (so.cc _ _) hd1 (by rw [hsz] at hz; omega) (by rw [hht] at hdp; omega)
  have hj := ihy (st.set n2 (.lst [.int (a + 1 + x.size), .int b]) ++ [.lst [.str w], .lst [x.d]]) n1 n2 lines rest (at_ + 1 + x.ls.length) (a + 1 + x.size) b (depth + 1) (so.l2 _ _) hne (so.cc _ _) hd2 (by rw [hsz] at hz; omega) (by rw [hht] at hdp; omega)
  simp [so.ss] at wa hi hj
  simp [b_read_formula, startR, wa, bindG, setAll, subD, okD, atD0, cc, r1, hin, bfD, seqD, so.g1, so.s1, so.g2, so.s2, so.c2, augOp, g_MAX_TUPLES, g_MAX_DEPTH, cz, cz2, mkLst, ex_fors, rangeOk, rangeL, Itr.items, loopF, hi, hj, bmTy, bmD, x.pure, y.pure, cutD, cut01, cut3, lt_LN1, mkTup, gc_setD, gc_setE, Fm.d, Fm.ls, Fm.size, atD1, List.range_succ]
  refine ⟨by omega, ?_⟩
  rw [show a + 1 + (x.size : Int) + y.size = a + (x.size + y.size + 1) from by omega]
end Pw.k61
end
section
set_option Elab.async false
set_option linter.all false
set_option maxRecDepth 100000
namespace Pw.k61
open PySem
theorem name_word {x : List Nat} (h : nameB x = true) : wordB x = true ∧ x.length ≤ 12 ∧ ascB x = true := by
  obtain ⟨h1, h2⟩ := Bool.and_eq_true_iff.mp h
  have h1 := of_decide_eq_true h1
  have h3 : ∀ c ∈ x, 97 ≤ c ∧ c ≤ 122 := fun c hc => of_decide_eq_true (List.all_eq_true.mp h2 c hc)
  refine ⟨Bool.and_eq_true_iff.mpr ⟨decide_eq_true fun e => ?_, List.all_eq_true.mpr fun c hc => decide_eq_true ?_⟩, h1.2, asc_of fun c hc => ?_⟩
  · rw [e] at h1; simp at h1
  · have := h3 c hc; omega
  · have := h3 c hc; omega
theorem line_small {ws : List (List Nat)} (hn : ws.length ≤ 3) (hw : ∀ w ∈ ws, w.length ≤ 40) : (joinL [32] ws).length ≤ 1000 := by
  have := words_le (n := 3) (m := 40) hn hw
  omega
theorem read_all : ∀ (f : Fm) (m : Nat), f.Ok → f.ht + 20 ≤ m → ReadOk f m
  | .form f, m, h, hm => by
    obtain ⟨k, rfl⟩ : ∃ k, m = k + 6 := ⟨m - 6, by omega⟩
    exact read_form_f f h k
  | .name x, m, h, hm => by
    obtain ⟨k, rfl⟩ : ∃ k, m = k + 10 := ⟨m - 10, by omega⟩
    obtain ⟨h1, h2, h3⟩ := name_word h
    refine read_leaf (.name x) wName [x] [.str x] (by decide) (by decide) rfl rfl rfl (fun v hv => ?_) (line_small (by simp) fun v hv => ?_) (by simp) (by simp) k (fun s n hn => row_name s (k+3) x h n hn) fun s => Fm.inner_leaf s (k+8) (.name x) h (by intros; simp) (by intros; simp)
    · simp at hv
      rcases hv with rfl | rfl
      · decide
      · exact h1
    · simp at hv
      rcases hv with rfl | rfl
      · decide
      · omega
  | .few1 a, m, h, hm => by
    obtain ⟨k, rfl⟩ : ∃ k, m = k + 10 := ⟨m - 10, by omega⟩
    refine read_leaf (.few1 a) wFew [numT a] [.tup [.int a]] (by decide) (by decide) rfl rfl rfl (fun v hv => ?_) (line_small (by simp) fun v hv => ?_) (by simp) (by simp) k (fun s n hn => row_fewL s (k+3) [a] (by simp) (fun b hb => by simp at hb; subst hb; exact h) (fun s => values_one s (k+3) a h) n (by simpa using hn)) fun s => Fm.inner_leaf s (k+8) (.few1 a) h (by intros; simp) (by intros; simp)
    · simp at hv
      rcases hv with rfl | rfl
      · decide
      · exact word_num a
    · simp at hv
      rcases hv with rfl | rfl
      · decide
      · have := (few_num h).1; omega
  | .few2 a b, m, h, hm => by
    obtain ⟨k, rfl⟩ : ∃ k, m = k + 10 := ⟨m - 10, by omega⟩
    have h' : 1 ≤ a ∧ a < b ∧ b ≤ 1000 := h
    refine read_leaf (.few2 a b) wFew [numT a, numT b] [.tup [.int a, .int b]] (by decide) (by decide) rfl rfl rfl (fun v hv => ?_) (line_small (by simp) fun v hv => ?_) (by simp) (by simp) k (fun s n hn => row_fewL s (k+3) [a, b] (by simp) (fun c hc => by
      simp at hc
      rcases hc with rfl | rfl <;> omega) (fun s => values_two s (k+3) a b h') n (by simpa using hn)) fun s => Fm.inner_leaf s (k+8) (.few2 a b) h (by intros; simp) (by intros; simp)
    · simp at hv
      rcases hv with rfl | rfl | rfl
      · decide
      · exact word_num a
      · exact word_num b
    · simp at hv
      rcases hv with rfl | rfl | rfl
      · decide
      · have := (few_num (a := a) ⟨h'.1, by omega⟩).1; omega
      · have := (few_num (a := b) ⟨by omega, h'.2.2⟩).1; omega
  | .one w c ns, m, h, hm => by
    have hht : (Fm.one w c ns).ht = c.ht + 1 := rfl
    obtain ⟨k, rfl⟩ : ∃ k, m = k + 10 := ⟨m - 10, by omega⟩
    exact read_one w c ns h.1 k (read_all c (k + 9) h.2 (by omega))
  | .two w x y, m, h, hm => by
    have hht : (Fm.two w x y).ht = max x.ht y.ht + 1 := rfl
    obtain ⟨k, rfl⟩ : ∃ k, m = k + 10 := ⟨m - 10, by omega⟩
    exact read_two w x y h.1 k (read_all x (k + 9) h.2.1 (by omega)) (read_all y (k + 9) h.2.2 (by omega))
/-- lines of a formula -/
theorem Fm.lines_ok : ∀ f : Fm, f.Ok → f.ls.length ≤ 2 * f.size ∧ ∀ l ∈ f.ls, l.length ≤ 164100 ∧ 10 ∉ l
  | .form f, h => ⟨by simp [Fm.ls, Fo.ls, Fm.size], fun l hl => ⟨Fo.Ok.ll h l hl, Fo.Ok.lno h l hl⟩⟩
  | .name x, h => by
    obtain ⟨h1, h2, h3⟩ := name_word h
    refine ⟨by simp [Fm.ls, Fm.size], fun l hl => ?_⟩
    simp [Fm.ls] at hl
    subst hl
    have := line_small (ws := [wName, x]) (by simp) (fun v hv => by
      simp at hv
      rcases hv with rfl | rfl
      · decide
      · omega)
    exact ⟨by omega, join_no fun v hv => by
      simp at hv
      rcases hv with rfl | rfl
      · decide
      · exact h1⟩
  | .few1 a, h => by
    refine ⟨by simp [Fm.ls, Fm.size], fun l hl => ?_⟩
    simp [Fm.ls] at hl
    subst hl
    have := line_small (ws := [wFew, numT a]) (by simp) (fun v hv => by
      simp at hv
      rcases hv with rfl | rfl
      · decide
      · have := (few_num h).1; omega)
    exact ⟨by omega, join_no fun v hv => by
      simp at hv
      rcases hv with rfl | rfl
      · decide
      · exact word_num a⟩
  | .few2 a b, h => by
    have h' : 1 ≤ a ∧ a < b ∧ b ≤ 1000 := h
    refine ⟨by simp [Fm.ls, Fm.size], fun l hl => ?_⟩
    simp [Fm.ls] at hl
    subst hl
    have := line_small (ws := [wFew, numT a, numT b]) (by simp) (fun v hv => by
      simp at hv
      rcases hv with rfl | rfl | rfl
      · decide
      · have := (few_num (a := a) ⟨h'.1, by omega⟩).1; omega
      · have := (few_num (a := b) ⟨by omega, h'.2.2⟩).1; omega)
    exact ⟨by omega, join_no fun v hv => by
      simp at hv
      rcases hv with rfl | rfl | rfl
      · decide
      · exact word_num a
      · exact word_num b⟩
  | .one w c ns, h => by
    obtain ⟨h1, h2⟩ := c.lines_ok h.2
    obtain ⟨h3, h4⟩ := Fm.one_line h.1
    refine ⟨by simp [Fm.ls, Fm.size]; omega, fun l hl => ?_⟩
    rcases List.mem_cons.mp (show l ∈ joinL [32] (w :: ns.map bdT) :: c.ls from hl) with rfl | hl
    · exact ⟨by omega, join_no h4⟩
    · exact h2 l hl
  | .two w x y, h => by
    obtain ⟨h1, h2⟩ := x.lines_ok h.2.1
    obtain ⟨h3, h4⟩ := y.lines_ok h.2.2
    obtain ⟨_, hwb, _, _, _, _, _, hwl, _⟩ := two_word h.1
    refine ⟨by simp [Fm.ls, Fm.size]; omega, fun l hl => ?_⟩
    rcases List.mem_cons.mp (show l ∈ w :: (x.ls ++ y.ls) from hl) with rfl | hl
    · refine ⟨by omega, fun hc => ?_⟩
      have := (wordB_mem hwb).2 10 hc
      omega
    · rcases List.mem_append.mp hl with hl | hl
      · exact h2 l hl
      · exact h4 l hl
abbrev wFormula : List Nat := [102, 111, 114, 109, 117, 108, 97]
section
variable (st : Store)
theorem format_formula_ok (f : Fm) (m : Nat) (h : f.Ok) (hz : f.size ≤ 40) (hm : f.ht + 5 ≤ m) : run p.T m i_format_formula [f.d] st = .ok (.str (textOf wFormula f.ls), st) := by
  obtain ⟨k, rfl⟩ : ∃ k, m = k + 1 := ⟨m - 1, by omega⟩
  rw [run_def t_format_formula rfl]
  obtain ⟨l1, l2⟩ := f.lines_ok h
  have e := formula_lines_ok (st ++ [.lst [.str wFormula]]) f k h (by omega) (by omega) (by omega)
  simp at e
  have a1 : ∀ a b : List D, op2 .add (.ref st.length) (.ref (st.length + 1)) (st ++ [.lst a, .lst b]) = mkLst (a ++ b) (st ++ [.lst a, .lst b]) := fun a b => op_add_ref (by simp) (by simp)
  have a2 : ∀ a b c d : List D, op2 .add (.ref (st.length + 2)) (.ref (st.length + 3)) (st ++ [.lst a, .lst b, .lst c, .lst d]) = mkLst (c ++ d) (st ++ [.lst a, .lst b, .lst c, .lst d]) := fun a b c d => op_add_ref (by simp) (by simp)
  have j := join_text (w := wFormula) (ls := f.ls) (by decide) (fun l hl => (l2 l hl).1) (by omega) (st := st ++ [.lst [.str wFormula], .lst (f.ls.map .str), .lst (.str wFormula :: f.ls.map .str), .lst [.str wEnd], .lst (.str wFormula :: (f.ls.map .str ++ [.str wEnd]))]) (n := st.length + 4) (by simp)
  have n1 : f.ls.length + 1 ≤ LN := by show _ ≤ 16777216; omega
  have n2 : f.ls.length + 1 + 1 ≤ LN := by show _ ≤ 16777216; omega
  simp [b_format_formula, startR, e, mkLst, a1, a2, bmTy, j, n1, n2]
theorem parse_formula_ok (f : Fm) (m : Nat) (h : f.Ok) (hz : f.size ≤ 40) (hh : f.ht ≤ 9) (hm : f.ht + 25 ≤ m) : run p.T m i_parse_formula [.str (textOf wFormula f.ls)] st = .ok (f.d, st) := by
  obtain ⟨k, rfl⟩ : ∃ k, m = k + 5 := ⟨m - 5, by omega⟩
  rw [run_def t_parse_formula rfl]
  obtain ⟨l1, l2⟩ := f.lines_ok h
  have hlen := text_len2 (w := wFormula) (ls := f.ls) (by decide) (fun l hl => (l2 l hl).1) (by omega)
  have hb := begin_ok (k+1) (st ++ [.lst [.str wFormula]]) [wFormula] (linesOf wFormula f.ls) st.length (by simp) rfl (by simp) (by decide) (by show (textOf wFormula f.ls).length + 2 ≤ 16777216; omega) (fun l hl => by
    simp [linesOf] at hl
    rcases hl with rfl | hl | rfl
    · decide
    · exact (l2 l hl).2
    · decide) (by decide)
  have hr := read_all f (k+4) h (by omega) (st ++ [.lst ((linesOf wFormula f.ls).map .str), .lst [.int 0, .int 1]]) st.length (st.length + 1) (linesOf wFormula f.ls) [wEnd] 1 0 1 1 (by simp) (by omega) (by simp) rfl (by omega) (by omega)
  have hfi := finish_ok (k+1) (st ++ [.lst ((linesOf wFormula f.ls).map .str)]) st.length (1 + f.ls.length) (linesOf wFormula f.ls) (by simp) (by
    show (wFormula :: (f.ls ++ [wEnd]))[1 + f.ls.length]? = _
    rw [Nat.add_comm]
    simp) (by simp [linesOf]; omega)
  have pf : pureD f.d = true := f.pure
  have pl : pureDs (f.ls.map D.str) = true := pureDs_map fun _ _ => by simp
  simp [linesOf] at hb hr hfi
  unfold textOf linesOf
  simp [b_parse_formula, startR, mkLst, hb, hr, hfi, bindG, setAll, pf, pl, pureDs_append]
end
end Pw.k61
end
section
set_option Elab.async false
set_option linter.all false
set_option maxRecDepth 100000
namespace Pw.k61
open PySem
theorem foldl_join : ∀ (l : List (List Nat)) (a : List Nat), l.foldl (fun acc w => acc ++ 32 :: w) a = joinL [32] (a :: l)
  | [], a => rfl
  | w :: r, a => by
    rw [List.foldl_cons, foldl_join r]
    cases r with
    | nil => simp [joinL]
    | cons v r => simp [joinL]
section
variable (st : Store)
theorem law_word_ok (k : Nat) (o : Option Int) (h : bdB o = true) : run p.T (k+1) i__law_word [bdD o] st = .ok (.str (bdT o), st) := by
  rw [run_def t__law_word rfl]
  cases o with
  | none => simp [b__law_word, startR, bdT, bdD]
  | some i => simp [b__law_word, startR, bdT, bdD, bfD, numB_log (show numB i = true from h)]
theorem sum_add {l : List (List Nat)} : ((l.map (·.length)).sum + l.length) = (l.map fun w => w.length + 1).sum := by
  induction l with
  | nil => rfl
  | cons w l ih => simp; omega
theorem law_form_lines_ok (k : Nat) (f : Fo) (hf : f.Ok) : run p.T (k+2) i__law_form_lines [f.d] st = .ok (.ref st.length, st ++ [.lst (f.ls.map .str)]) := by
  obtain ⟨h, t⟩ := f
  rw [run_def t__law_form_lines rfl]
  -- the head
  let R1 : Option (Option Int) × List Nat → Rho × Store := fun s => ([some (foD h t), some (.str s.2), s.1.map bdD, none, none], st)
  have lp1 := loopF_inv (it := .fix (h.map bdD)) (G := .name 2) (body := ex (run p.T (k+1)) (.seq (.set (.name 1) (.op .add (.op .add (.var 1) (.cst (.str [32]))) (.call i__law_word (.cons (.var 2) .nil)))) .nil)) bdD R1 (fun s a => (some a, s.2 ++ 32 :: bdT a))
    (fun s l => s.2.length + (l.map fun o => (bdT o).length + 1).sum ≤ 200000 ∧ ∀ o ∈ l, bdB o = true) (fun s => by simp) (fun s a l ⟨i1, i2⟩ => by
      have hb := i2 a List.mem_cons_self
      simp at i1
      have n1 : s.2.length + 1 ≤ LN := by show _ ≤ 16777216; omega
      have n2 : s.2.length + 1 + (bdT a).length ≤ LN := by show _ ≤ 16777216; omega
      have n3 : s.2.length + ((bdT a).length + 1) ≤ LN := by show _ ≤ 16777216; omega
      refine ⟨[some (foD h t), some (.str s.2), some (bdD a), none, none], by simp [R1, bindG], by simp [R1, mkStr, law_word_ok _ _ a hb, n1, n2, n3, bindG], ?_, fun o ho => i2 o (List.mem_cons_of_mem _ ho)⟩
      simp
      omega) h (none, wHead) ⟨by
        have := hf.hs
        have h1 := sum_le (l := h.map bdT) (m := 40) (fun w hw => by
          obtain ⟨o, ho, rfl⟩ := List.mem_map.mp hw
          exact bdT_len (hf.hb o ho))
        have h2 : (h.map bdT).length ≤ 4000 := by simpa using hf.h1
        have h3 : (h.map bdT).length * 40 ≤ 4000 * 40 := Nat.mul_le_mul_right _ h2
        have h4 := sum_add (l := h.map bdT)
        simp [Function.comp_def] at h1 h2 h3 h4
        simp
        omega, hf.hb⟩
  have f1 : ∀ (l : List (Option Int)) (s : Option (Option Int) × List Nat), (l.foldl (fun s a => (some a, s.2 ++ 32 :: bdT a)) s).2 = (l.map bdT).foldl (fun acc w => acc ++ 32 :: w) s.2 := fun l => by
    induction l with
    | nil => intro s; rfl
    | cons a l ih => intro s; rw [List.foldl_cons, ih]; rfl
  obtain ⟨last, hlast⟩ : ∃ o, (h.foldl (fun s a => (some a, s.2 ++ 32 :: bdT a)) ((none : Option (Option Int)), wHead)) = (o, joinL [32] (Fo.hl ⟨h, t⟩)) := ⟨_, Prod.ext rfl (by rw [f1, foldl_join]; rfl)⟩
  rw [hlast] at lp1
  -- the tail
  let R2 : Option (Option (Int × Int)) × List Nat → Rho × Store := fun s => ([some (foD h t), some (.str (joinL [32] (Fo.hl ⟨h, t⟩))), (match s.1 with | none => last.map bdD | some none => some .non | some (some q) => some (.int q.1)), some (.str s.2), (match s.1 with | none => none | some none => some (.int 0) | some (some q) => some (.int q.2))], st)
  have lp2 := loopF_inv (it := .fix (t.map prD)) (G := .tup [2, 4]) (body := ex (run p.T (k+1)) (.seq (.set (.name 3) (.op .add (.op .add (.var 3) (.cst (.str [32]))) (.sub (.lst (.cons (.cst (.str wNone)) (.cons (.op .add (.op .add (.call i__law_word (.cons (.var 2) .nil)) (.cst (.str [47]))) (.bf .str (.var 4))) .nil))) (.bf .int (.cmp .notN (.var 2) (.cst (.non))))))) .nil)) prD R2 (fun s a => (some a, s.2 ++ 32 :: prT a))
    (fun s l => s.2.length + (l.map fun o => (prT o).length + 1).sum ≤ 200000 ∧ ∀ o ∈ l, prB o = true) (fun s => by simp) (fun s a l ⟨i1, i2⟩ => by
      have hb := i2 a List.mem_cons_self
      have hpl := prT_len hb
      simp at i1
      have n1 : s.2.length + 1 ≤ LN := by show _ ≤ 16777216; omega
      have n2 : s.2.length + 1 + (prT a).length ≤ LN := by show _ ≤ 16777216; omega
      have n3 : s.2.length + ((prT a).length + 1) ≤ LN := by show _ ≤ 16777216; omega
      cases a with
      | none =>
        have e0 := law_word_ok st k none rfl
        have e1 : numT 0 = [48] := by decide
        simp [bdD, bdT] at e0
        simp [prT] at n2 n3
        refine ⟨[some (foD h t), some (.str (joinL [32] (Fo.hl ⟨h, t⟩))), some .non, some (.str s.2), some (.int 0)], by simp [R2, bindG, prD, setAll], ?_, ?_, fun o ho => i2 o (List.mem_cons_of_mem _ ho)⟩
        · have l0 : (0 : Int).natAbs.log2 < 1920 := by decide
          simp [R2, mkStr, e0, n1, n2, n3, bindG, bfD, e1, mkLst, subD, okD, atD0, prT]
        · simp
          omega
      | some q =>
        obtain ⟨q1, q2⟩ := Bool.and_eq_true_iff.mp (show (numB q.1 && numB q.2) = true from hb)
        have e0 := law_word_ok st k (some q.1) q1
        have l1 := numB_len q1
        have l2 := numB_len q2
        have m1 : (numT q.1).length + 1 ≤ LN := by show _ ≤ 16777216; omega
        have m2 : (numT q.1).length + 1 + (numT q.2).length ≤ LN := by show _ ≤ 16777216; omega
        have m3 : (numT q.1).length + ((numT q.2).length + 1) ≤ LN := by show _ ≤ 16777216; omega
        simp [bdD, bdT] at e0
        simp [prT] at n2 n3
        refine ⟨[some (foD h t), some (.str (joinL [32] (Fo.hl ⟨h, t⟩))), some (.int q.1), some (.str s.2), some (.int q.2)], by simp [R2, bindG, prD, setAll], ?_, ?_, fun o ho => i2 o (List.mem_cons_of_mem _ ho)⟩
        · simp [R2, mkStr, e0, n1, n2, n3, m1, m2, m3, bindG, bfD, numB_log q2, mkLst, subD, okD, atD1, prT]
        · simp
          omega) t (none, wTail) ⟨by
        have h1 := sum_le (l := t.map prT) (m := 81) (fun w hw => by
          obtain ⟨o, ho, rfl⟩ := List.mem_map.mp hw
          exact prT_len (hf.tb o ho))
        have h2 : (t.map prT).length ≤ 1000 := by simpa using hf.t2
        have h3 : (t.map prT).length * 81 ≤ 1000 * 81 := Nat.mul_le_mul_right _ h2
        have h4 := sum_add (l := t.map prT)
        simp [Function.comp_def] at h1 h2 h3 h4
        simp
        omega, hf.tb⟩
  have f2 : ∀ (l : List (Option (Int × Int))) (s : Option (Option (Int × Int)) × List Nat), (l.foldl (fun s a => (some a, s.2 ++ 32 :: prT a)) s).2 = (l.map prT).foldl (fun acc w => acc ++ 32 :: w) s.2 := fun l => by
    induction l with
    | nil => intro s; rfl
    | cons a l ih => intro s; rw [List.foldl_cons, ih]; rfl
  obtain ⟨last2, hlast2⟩ : ∃ o, (t.foldl (fun s a => (some a, s.2 ++ 32 :: prT a)) ((none : Option (Option (Int × Int))), wTail)) = (o, joinL [32] (Fo.tl ⟨h, t⟩)) := ⟨_, Prod.ext rfl (by rw [f2, foldl_join]; rfl)⟩
  rw [hlast2] at lp2
  simp only [R1, R2] at lp1 lp2
  simp [b__law_form_lines, startR, bindG, ex_fors, foD, subD, okD, atD0, atD1, walkD, Itr.items, Fo.d] at lp1 lp2 ⊢
  simp [lp1, lp2, mkLst, Fo.ls, atD1, walkD, Itr.items, bindG]
end
end Pw.k61
end
section
set_option Elab.async false
set_option linter.all false
set_option maxRecDepth 100000
namespace Pw.k61
open PySem
def Fm.ch : Fm → List Fm
  | .one _ c _ => [c]
  | .two _ a b => [a, b]
  | _ => []
section
variable (st : Store)
theorem mem_list {w : List Nat} (hw : ascB w = true) (ys : List (List Nat)) (hy : ∀ y ∈ ys, ascB y = true) (b : Bool) (h : decide (w ∈ ys) = b) (s : Store) (n : Nat) (hn : listAt s n = some (ys.map .str)) : cmp2 .mem (.str w) (.ref n) s = .ok (.bl b, s) := cmp_mem_of (by
  rw [← h]
  show (match listAt s n with | some ds => memD s (.str w) ds | none => none) = _
  rw [hn]
  exact memD_strs hw hy)
theorem law_inner_leaf (k : Nat) (w : List Nat) (x : D) (hw : ascB w = true) (h : w ∈ [wForm, wName, wFew]) : run p.T (k+1) i__law_inner [.tup [.str w, x]] st = .ok (.ref st.length, st ++ [.lst []]) := by
  rw [run_def t__law_inner rfl]
  have c := mem_list hw [wForm, wName, wFew] (by decide) true (decide_eq_true h) (st ++ [.lst [.str wForm, .str wName, .str wFew]]) st.length (by simp)
  simp [b__law_inner, startR, isTy, bfD, seqD, subD, okD, atD0, mkLst, c]
theorem law_inner_one (k : Nat) {w : List Nat} {ns : List (Option Int)} (h : OneOk w ns) (c : D) (pc : pureD c = true) : run p.T (k+1) i__law_inner [.tup (.str w :: c :: ns.map bdD)] st = .ok (.ref st.length, st ++ [.lst [c]]) := by
  rw [run_def t__law_inner rfl]
  obtain ⟨hs, _, hw, _, w1, w2, w3, _⟩ := one_word h
  have c1 := mem_list hw [wForm, wName, wFew] (by decide) false (decide_eq_false (by simp [w1, w2, w3])) (st ++ [.lst [.str wForm, .str wName, .str wFew]]) st.length (by simp)
  have c2 := mem_list hw [wTimes, wDiv, wWhere, wMoved, wFrom] (by decide) true (decide_eq_true hs) (st ++ [.lst [.str wTimes, .str wDiv, .str wWhere, .str wMoved, .str wFrom]]) st.length (by simp)
  have hl : ¬ ((ns.length : Int) + 1 + 1 < 2) := by omega
  simp [b__law_inner, startR, isTy, bfD, seqD, subD, okD, atD0, atD1, mkLst, c1, c2, hl, pc]
theorem law_inner_two (k : Nat) {w : List Nat} (h : w ∈ pairsL) (x y : D) (px : pureD x = true) (py : pureD y = true) : run p.T (k+1) i__law_inner [.tup [.str w, x, y]] st = .ok (.ref st.length, st ++ [.lst [x, y]]) := by
  rw [run_def t__law_inner rfl]
  obtain ⟨hw, _, w1, w2, w3, _⟩ := two_word h
  have hs : w ∉ singlesL := by
    have : ∀ w ∈ pairsL, w ∉ singlesL := by decide
    exact this w h
  have c1 := mem_list hw [wForm, wName, wFew] (by decide) false (decide_eq_false (by simp [w1, w2, w3])) (st ++ [.lst [.str wForm, .str wName, .str wFew]]) st.length (by simp)
  have c2 := mem_list hw [wTimes, wDiv, wWhere, wMoved, wFrom] (by decide) false (decide_eq_false hs) (st ++ [.lst [.str wTimes, .str wDiv, .str wWhere, .str wMoved, .str wFrom]]) st.length (by simp)
  simp [b__law_inner, startR, isTy, bfD, seqD, subD, okD, atD0, atD1, atD2, mkLst, c1, c2, px, py]
theorem law_inner_ok (k : Nat) : ∀ f : Fm, f.Ok → run p.T (k+1) i__law_inner [f.d] st = .ok (.ref st.length, st ++ [.lst (f.ch.map Fm.d)])
  | .form f, _ => law_inner_leaf st k wForm _ (by decide) (by decide)
  | .name x, _ => law_inner_leaf st k wName _ (by decide) (by decide)
  | .few1 a, _ => law_inner_leaf st k wFew _ (by decide) (by decide)
  | .few2 a b, _ => law_inner_leaf st k wFew _ (by decide) (by decide)
  | .one w c ns, h => law_inner_one st k h.1 c.d c.pure
  | .two w a b, h => law_inner_two st k h.1 a.d b.d a.pure b.pure
theorem law_rows_leaf (k : Nat) (f : Fm) (hch : f.ch = []) (hs : f.subs = [f]) (h : f.Ok) : run p.T (k+2) i__law_rows [f.d] st = .ok (.ref st.length, st ++ [.lst (f.subs.map Fm.d)]) := by
  rw [run_def t__law_rows rfl]
  have hi := fun s => law_inner_ok s k f h
  rw [hch] at hi
  simp at hi
  simp [b__law_rows, startR, mkLst, bindG, f.pure, ex_fors, hi, walkD, loopF, Itr.items, Itr.stands, hs]
theorem law_rows_ok : ∀ (f : Fm) (m : Nat), f.Ok → f.size ≤ 1000 → f.ht + 2 ≤ m → ∀ st : Store, run p.T m i__law_rows [f.d] st = .ok (.ref st.length, st ++ [.lst (f.subs.map Fm.d)])
  | .form f, m, h, _, hm, st => by
    obtain ⟨k, rfl⟩ : ∃ k, m = k + 2 := ⟨m - 2, by omega⟩
    exact law_rows_leaf st k (.form f) rfl rfl h
  | .name x, m, h, _, hm, st => by
    obtain ⟨k, rfl⟩ : ∃ k, m = k + 2 := ⟨m - 2, by omega⟩
    exact law_rows_leaf st k (.name x) rfl rfl h
  | .few1 a, m, h, _, hm, st => by
    obtain ⟨k, rfl⟩ : ∃ k, m = k + 2 := ⟨m - 2, by omega⟩
    exact law_rows_leaf st k (.few1 a) rfl rfl h
  | .few2 a b, m, h, _, hm, st => by
    obtain ⟨k, rfl⟩ : ∃ k, m = k + 2 := ⟨m - 2, by omega⟩
    exact law_rows_leaf st k (.few2 a b) rfl rfl h
  | .one w c ns, m, h, hz, hm, st => by
    have hz' : c.size + 1 ≤ 1000 := hz
    have hm' : c.ht + 1 + 2 ≤ m := hm
    obtain ⟨k, rfl⟩ : ∃ k, m = k + 2 := ⟨m - 2, by omega⟩
    rw [run_def t__law_rows rfl]
    have ih := law_rows_ok c (k + 1) h.2 (by omega) (by omega)
    have hi := law_inner_one (st ++ [.lst [(Fm.one w c ns).d]]) k h.1 c.d c.pure
    have pn : pureDs (ns.map bdD) = true := pureDs_map fun o _ => pure_bd o
    have a1 : ∀ a b d : List D, op2 .add (.ref st.length) (.ref (st.length + 2)) (st ++ [.lst a, .lst b, .lst d]) = mkLst (a ++ d) (st ++ [.lst a, .lst b, .lst d]) := fun a b d => op_add_ref (by simp) (by simp)
    have hl : c.subs.length + 1 ≤ LN := by rw [c.subs_len]; show _ ≤ 16777216; omega
    simp only [Fm.d] at hi
    simp [b__law_rows, startR, mkLst, bindG, ex_fors, walkD, loopF, Itr.items, Itr.stands, Fm.d, hi, ih, c.pure, pn, pure_ds, Fm.subs, a1, hl, pureDs_append]
  | .two w a b, m, h, hz, hm, st => by
    have hz' : a.size + b.size + 1 ≤ 1000 := hz
    have hm' : max a.ht b.ht + 1 + 2 ≤ m := hm
    obtain ⟨k, rfl⟩ : ∃ k, m = k + 2 := ⟨m - 2, by omega⟩
    rw [run_def t__law_rows rfl]
    have ih1 := law_rows_ok a (k + 1) h.2.1 (by omega) (by omega)
    have ih2 := law_rows_ok b (k + 1) h.2.2 (by omega) (by omega)
    have hi := law_inner_two (st ++ [.lst [(Fm.two w a b).d]]) k h.1 a.d b.d a.pure b.pure
    have a1 : ∀ a b d : List D, op2 .add (.ref st.length) (.ref (st.length + 2)) (st ++ [.lst a, .lst b, .lst d]) = mkLst (a ++ d) (st ++ [.lst a, .lst b, .lst d]) := fun a b d => op_add_ref (by simp) (by simp)
    have a2 : ∀ a b d e : List D, op2 .add (.ref (st.length + 2)) (.ref (st.length + 3)) (st ++ [.lst a, .lst b, .lst d, .lst e]) = mkLst (d ++ e) (st ++ [.lst a, .lst b, .lst d, .lst e]) := fun a b d e => op_add_ref (by simp) (by simp)
    have hl : a.subs.length + 1 ≤ LN := by rw [a.subs_len]; show _ ≤ 16777216; omega
    have hl2 : a.subs.length + b.subs.length + 1 ≤ LN := by rw [a.subs_len, b.subs_len]; show _ ≤ 16777216; omega
    simp only [Fm.d] at hi
    simp [b__law_rows, startR, mkLst, bindG, ex_fors, walkD, loopF, Itr.items, Itr.stands, Fm.d, hi, ih1, ih2, a.pure, b.pure, pure_ds, Fm.subs, a1, a2, hl, hl2, pureDs_append]
end
end Pw.k61
end
section
set_option Elab.async false
set_option linter.all false
set_option maxRecDepth 100000
namespace Pw.k61
open PySem
section
variable (st : Store)
theorem law_few (k : Nat) (l : List Int) (hne : l ≠ []) (hb : ∀ a ∈ l, 1 ≤ a ∧ a ≤ 1000) (hl : l.length ≤ 4) : run p.T (k+3) i__law_row_lines [.tup [.str wFew, .tup (l.map .int)]] st = .ok (.ref st.length, st ++ [.lst [.str (joinL [32] (wFew :: l.map numT))]]) := by
  rw [run_def t__law_row_lines rfl]
  have e := lc_on (C := run p.T (k+2)) (vs := [3]) (G := .name 3) (it := .wlk (.sub (.var 0) (.cst (.int 1)))) (elt := .bf .str (.var 3)) (ρ := [some (.tup [.str wFew, .tup (l.map .int)]), none, none, none]) (st := st)
    l D.int (fun a => .str (numT a)) (I := .fix (l.map .int)) (by simp [subD, okD, atD1, walkD]) rfl rfl (fun a ha => ⟨_, rfl, by simp [wipeR, bfD, (few_num (hb a ha)).2.1]⟩) (Nat.le_trans hl (by decide))
  have c1 := cmp_eq_w (show ascB wFew = true by decide) (show ascB wForm = true by decide) false (by decide)
  have c2 := cmp_eq_w (show ascB wFew = true by decide) (show ascB wFew = true by decide) true (by decide)
  have j := join_line (ws := l.map numT) (by simp; omega) (fun v hv => by
    obtain ⟨a, ha, rfl⟩ := List.mem_map.mp hv
    have := (few_num (hb a ha)).1
    omega) (st := st ++ [.lst (l.map fun a => .str (numT a))]) (n := st.length) (by simp [Function.comp_def])
  have hj : joinL [32] (wFew :: l.map numT) = [102, 101, 119, 101, 115, 116, 32] ++ joinL [32] (l.map numT) := by
    cases l with
    | nil => exact absurd rfl hne
    | cons a l => simp [joinL]
  have hlen := words_le (ws := l.map numT) (n := 4) (m := 4) (by simp; omega) (fun v hv => by
    obtain ⟨a, ha, rfl⟩ := List.mem_map.mp hv
    exact (few_num (hb a ha)).1)
  have n1 : (joinL [32] (l.map numT)).length + 1 + 1 + 1 + 1 + 1 + 1 + 1 ≤ LN := by show _ ≤ 16777216; omega
  have n2 : (joinL [32] (l.map numT)).length + 7 ≤ LN := by show _ ≤ 16777216; omega
  rw [hj]
  simp [b__law_row_lines, startR, subD, okD, atD0, c1, c2, bindG, e, mkLst, bmTy, j, mkStr, n2]
theorem foldl_app {α : Type} (f : α → List Nat) : ∀ (l : List α) (s : List (List Nat)), l.foldl (fun s a => s ++ [f a]) s = s ++ l.map f
  | [], s => by simp
  | a :: l, s => by rw [List.foldl_cons, foldl_app f l]; simp
theorem law_tail (k : Nat) (w : List Nat) (hw : ascB w = true) (h1 : w ≠ wForm) (h2 : w ≠ wFew) (h3 : w ≠ wName) (row : List D) (l : List (Option Int)) (m : Nat) (inn : List D) (hm : inn.length = m) (hi : run p.T (k+2) i__law_inner [.tup (.str w :: row)] (st ++ [.lst [.str w]]) = .ok (.ref (st.length + 1), st ++ [.lst [.str w], .lst inn]))
    (hpi : pureDs inn = true) (hc : cutL (D.str w :: row) (some (1 + (m : Int))) none = l.map bdD) (hb : ∀ o ∈ l, bdB o = true) (hl : l.length ≤ 4) (hwl : w.length ≤ 41) :
    run p.T (k+3) i__law_row_lines [.tup (.str w :: row)] st = .ok (.ref st.length, st ++ [.lst [.str (joinL [32] (w :: l.map bdT))]]) := by
  rw [run_def t__law_row_lines rfl]
  have c1 := cmp_eq_w hw (show ascB wForm = true by decide) false (decide_eq_false h1)
  have c2 := cmp_eq_w hw (show ascB wFew = true by decide) false (decide_eq_false h2)
  have c3 := cmp_eq_w hw (show ascB wName = true by decide) false (decide_eq_false h3)
  let R : Option (Option Int) × List (List Nat) → Rho × Store := fun s => ([some (.tup (.str w :: row)), some (.ref st.length), s.1.map bdD, none], st ++ [.lst (s.2.map .str)])
  have lp := loopF_inv (it := .fix (l.map bdD)) (G := .name 2) (body := ex (run p.T (k+2)) (.seq (.expr (.bm .append (.var 1) (.call i__law_word (.cons (.var 2) .nil)))) .nil)) bdD R (fun s a => (some a, s.2 ++ [bdT a]))
    (fun s l => s.2.length + l.length ≤ 10 ∧ ∀ o ∈ l, bdB o = true) (fun s => by simp) (fun s a l ⟨i1, i2⟩ => by
      have hb := i2 a List.mem_cons_self
      simp at i1
      have n1 : s.2.length < LN := by show _ < 16777216; omega
      have pp : pureDs (s.2.map D.str) = true := pureDs_map fun _ _ => by simp
      refine ⟨[some (.tup (.str w :: row)), some (.ref st.length), some (bdD a), none], by simp [R, bindG], ?_, ?_, fun o ho => i2 o (List.mem_cons_of_mem _ ho)⟩
      · simp [R, law_word_ok _ _ a hb, bmTy, bmD, n1, pp, pureDs_append]
      · simp
        omega) l (none, [w]) ⟨by simp; omega, hb⟩
  have f1 : ∀ (l : List (Option Int)) (s : Option (Option Int) × List (List Nat)), (l.foldl (fun s a => (some a, s.2 ++ [bdT a])) s).2 = s.2 ++ l.map bdT := fun l => by
    induction l with
    | nil => intro s; simp
    | cons a l ih => intro s; rw [List.foldl_cons, ih]; simp
  obtain ⟨last, hlast⟩ : ∃ o, (l.foldl (fun s a => (some a, s.2 ++ [bdT a])) ((none : Option (Option Int)), [w])) = (o, w :: l.map bdT) := ⟨_, Prod.ext rfl (by rw [f1]; rfl)⟩
  rw [hlast] at lp
  have j := join_line (ws := w :: l.map bdT) (by simp; omega) (fun v hv => by
    rcases List.mem_cons.mp hv with rfl | hv
    · omega
    · obtain ⟨o, ho, rfl⟩ := List.mem_map.mp hv
      have := bdT_len (hb o ho)
      omega) (st := st ++ [.lst (.str w :: l.map fun a => .str (bdT a))]) (n := st.length) (by simp [Function.comp_def])
  have pp : pureDs (l.map bdD) = true := pureDs_map fun o _ => pure_bd o
  subst hm
  simp [R, Function.comp_def] at lp
  simp [b__law_row_lines, startR, subD, okD, atD0, c1, c2, c3, hi, hpi, bfD, seqD, cutD, hc, bindG, mkLst, ex_fors, walkD, Itr.items, lp, bmTy, j, pp]
theorem law_row_lines_ok (k : Nat) : ∀ f : Fm, f.Ok → run p.T (k+3) i__law_row_lines [f.d] st = .ok (.ref st.length, st ++ [.lst (f.row.map .str)])
  | .form f, h => by
    rw [run_def t__law_row_lines rfl]
    have e := law_form_lines_ok st k f h
    have c := cmp_eq_w (show ascB wForm = true by decide) (show ascB wForm = true by decide) true (by decide)
    have pp : pureDs (f.ls.map D.str) = true := pureDs_map fun _ _ => by simp
    simp [b__law_row_lines, startR, Fm.d, subD, okD, atD0, atD1, c, e, Fm.row, pp]
  | .name x, h => by
    rw [run_def t__law_row_lines rfl]
    obtain ⟨_, hl, _⟩ := name_word h
    have c1 := cmp_eq_w (show ascB wName = true by decide) (show ascB wForm = true by decide) false (by decide)
    have c2 := cmp_eq_w (show ascB wName = true by decide) (show ascB wFew = true by decide) false (by decide)
    have c3 := cmp_eq_w (show ascB wName = true by decide) (show ascB wName = true by decide) true (by decide)
    have n1 : x.length + 5 ≤ LN := by show _ ≤ 16777216; omega
    simp [b__law_row_lines, startR, Fm.d, subD, okD, atD0, atD1, c1, c2, c3, mkStr, n1, mkLst, Fm.row, joinL]
  | .few1 a, h => law_few st k [a] (by simp) (fun x hx => by simp at hx; subst hx; exact h) (by simp)
  | .few2 a b, h => law_few st k [a, b] (by simp) (fun x hx => by
      have h : 1 ≤ a ∧ a < b ∧ b ≤ 1000 := h
      simp at hx
      rcases hx with rfl | rfl <;> omega) (by simp)
  | .one w c ns, h => by
    obtain ⟨_, _, w1, _, w2, w4, w3, _, w5⟩ := one_word h.1
    obtain ⟨b1, b2⟩ := one_bds h.1
    have hi := law_inner_one (st ++ [.lst [.str w]]) (k+1) h.1 c.d c.pure
    simp at hi
    exact law_tail st k w w1 w2 w3 w4 (c.d :: ns.map bdD) ns 1 [c.d] rfl hi (by simp [c.pure]) (by exact cut2 _ _ _) b1 (by omega) (by omega)
  | .two w a b, h => by
    obtain ⟨w1, _, w2, w4, w3, _, _, w5, _⟩ := two_word h.1
    have hi := law_inner_two (st ++ [.lst [.str w]]) (k+1) h.1 a.d b.d a.pure b.pure
    simp at hi
    exact law_tail st k w w1 w2 w3 w4 [a.d, b.d] [] 2 [a.d, b.d] rfl hi (by simp [a.pure, b.pure]) rfl (by simp) (by simp) (by omega)
theorem gc_at {l : Store} {n : Nat} {ds : List D} (h : listAt (st ++ l) n = some ds) (hn : st.length ≤ n) (hp : pureDs ds = true) : gc st (.ref n) (st ++ l) = (.ref st.length, st ++ [.lst ds]) := by
  obtain ⟨j, rfl⟩ : ∃ j, n = st.length + j := ⟨n - st.length, by omega⟩
  rw [listAt_k] at h
  rw [gc_ref0]
  unfold listAt at h
  split at h
  · rename_i x e
    cases h
    rw [e]
    simp [hp]
  · cases h
theorem law_lines_ok (f : Fm) (m : Nat) (h : f.Ok) (hz : f.size ≤ 1000) (hl : f.ls.length ≤ 4000) (hm : f.ht + 4 ≤ m) : run p.T m i__law_lines [f.d] st = .ok (.ref st.length, st ++ [.lst (f.ls.map .str)]) := by
  obtain ⟨k, rfl⟩ : ∃ k, m = k + 4 := ⟨m - 4, by omega⟩
  rw [run_def t__law_lines rfl]
  have e := law_rows_ok f (k+3) h hz (by omega) (st ++ [.lst []])
  let B : Store := st ++ [.lst [], .lst (f.subs.map Fm.d)]
  let R : Option Fm × Nat × Store × List (List Nat) → Rho × Store := fun s => ([some f.d, some (.ref s.2.1), s.1.map Fm.d], B ++ s.2.2.1)
  let stp : Option Fm × Nat × Store × List (List Nat) → Fm → Option Fm × Nat × Store × List (List Nat) := fun s a => (some a, (B ++ s.2.2.1).length, s.2.2.1 ++ [.lst ((s.2.2.2 ++ a.row).map .str)], s.2.2.2 ++ a.row)
  have hB : ∀ l : Store, listAt (B ++ l) (st.length + 1) = some (f.subs.map Fm.d) := fun l => by simp [B]
  have hBl : B.length = st.length + 2 := by simp [B]
  have lp := loopF_inv (it := .cell (st.length + 1) (f.subs.map Fm.d)) (G := .name 2) (body := ex (run p.T (k+3)) (.seq (.set (.name 1) (.op .add (.var 1) (.call i__law_row_lines (.cons (.var 2) .nil)))) .nil)) Fm.d R stp
    (fun s l => listAt (B ++ s.2.2.1) s.2.1 = some (s.2.2.2.map .str) ∧ s.2.2.2.length + (l.flatMap Fm.row).length ≤ 4000 ∧ ∀ a ∈ l, a.Ok) (fun s => decide_eq_true (hB _)) (fun s a l ⟨i0, i1, i2⟩ => by
      refine ⟨[some f.d, some (.ref s.2.1), some a.d], by simp [R, bindG], ?_, ?_, ?_, fun b hb => i2 b (List.mem_cons_of_mem _ hb)⟩
      · have er := law_row_lines_ok (B ++ s.2.2.1) k a (i2 a List.mem_cons_self)
        have hl : s.2.2.2.length + a.row.length ≤ LN := by simp at i1; show _ ≤ 16777216; omega
        have ha := op_add_ref (st := (B ++ s.2.2.1) ++ [.lst (a.row.map .str)]) (listAt_app _ i0 _) (listAt_0 (B ++ s.2.2.1) [.lst (a.row.map .str)])
        have pp : pureDs (s.2.2.2.map D.str) = true := pureDs_map fun _ _ => by simp
        have pp2 : pureDs (a.row.map D.str) = true := pureDs_map fun _ _ => by simp
        generalize hS : B ++ s.2.2.1 = S at er ha
        have hg : gc S (.ref (S ++ [Cell.lst (a.row.map .str)]).length) (S ++ [.lst (a.row.map .str)] ++ [.lst (s.2.2.2.map .str ++ a.row.map .str)]) = (.ref S.length, S ++ [.lst (s.2.2.2.map .str ++ a.row.map .str)]) := by
          rw [List.append_assoc]
          exact gc_at S (by simp) (by simp) (by rw [pureDs_append, pp, pp2]; rfl)
        simp [R, stp, hS] at er ha hg ⊢
        simp [er, ha, mkLst, hl, hg, bindG]
        rw [← hS]
        simp
      · simp [stp]
      · simp at i1
        simp [stp]
        omega) f.subs (none, st.length, [], []) ⟨by simp [B], by rw [f.rows]; simpa using hl, f.subs_ok h⟩
  have hf : ∀ (l : List Fm) (s : Option Fm × Nat × Store × List (List Nat)), listAt (B ++ s.2.2.1) s.2.1 = some (s.2.2.2.map .str) → st.length ≤ s.2.1 →
      listAt (B ++ (l.foldl stp s).2.2.1) (l.foldl stp s).2.1 = some ((s.2.2.2 ++ l.flatMap Fm.row).map .str) ∧ st.length ≤ (l.foldl stp s).2.1 := fun l => by
    induction l with
    | nil => intro s h1 h2; exact ⟨by simpa using h1, h2⟩
    | cons a l ih =>
      intro s h1 h2
      rw [List.foldl_cons]
      have := ih (stp s a) (by simp [stp]) (by simp [stp, hBl]; omega)
      refine ⟨?_, this.2⟩
      rw [this.1]
      simp [stp]
  obtain ⟨g1, g2⟩ := hf f.subs (none, st.length, [], []) (by simp [B]) (Nat.le_refl _)
  rw [f.rows, List.nil_append] at g1
  generalize hfin : f.subs.foldl stp (none, st.length, [], []) = fin at lp g1 g2
  have pp : pureDs (f.ls.map D.str) = true := pureDs_map fun _ _ => by simp
  have hg := gc_at st (l := [.lst [], .lst (f.subs.map Fm.d)] ++ fin.2.2.1) (n := fin.2.1) (ds := f.ls.map .str) (by rw [← List.append_assoc]; exact g1) g2 pp
  simp [R, B] at lp e hg
  simp [b__law_lines, startR, mkLst, bindG, ex_fors, e, walkD, Itr.items, pure_ds]
  simp [lp, hg]
abbrev wN : List Nat := wName
/-- the law's own text -/
theorem law_text_ok (k : Nat) (w : List Nat) (ls : List (List Nat)) (hw : w.length ≤ 20) (hl : ∀ l ∈ ls, l.length ≤ 164100) (hn : ls.length ≤ 90) (n : Nat) (h : listAt st n = some (ls.map .str)) : run p.T (k+1) i__law_text [.str w, .ref n] st = .ok (.str (textOf w ls), st) := by
  rw [run_def t__law_text rfl]
  have a1 := op_add_ref (st := st ++ [.lst [.str w]]) (listAt_0 st [.lst [.str w]]) (listAt_app st h [.lst [.str w]])
  have a2 : ∀ a b c : List D, op2 .add (.ref (st.length + 1)) (.ref (st.length + 2)) (st ++ [.lst a, .lst b, .lst c]) = mkLst (b ++ c) (st ++ [.lst a, .lst b, .lst c]) := fun a b c => op_add_ref (by simp) (by simp)
  have j := join_text hw hl hn (st := st ++ [.lst [.str w], .lst (.str w :: ls.map .str), .lst [.str wEnd], .lst (.str w :: (ls.map .str ++ [.str wEnd]))]) (n := st.length + 3) (by simp)
  have n1 : ls.length + 1 ≤ LN := by show _ ≤ 16777216; omega
  have n2 : ls.length + 1 + 1 ≤ LN := by show _ ≤ 16777216; omega
  simp at a1
  simp [b__law_text, startR, mkLst, a1, a2, bmTy, j, n1, n2]
theorem fit_bd (n : Nat) (o : Option Int) : fitD (n + 1) (bdD o) = true := by cases o <;> simp [bdD, fitD]
theorem fit_pr (n : Nat) (o : Option (Int × Int)) : fitD (n + 2) (prD o) = true := by cases o <;> simp [prD, fitD, fitD.fitDs]
theorem fit_fo (n : Nat) (f : Fo) : fitD (n + 4) f.d = true := by
  have h1 : fitDs (n + 2) (f.h.map bdD) = true := fitDs_mem.mpr fun d hd => by
    obtain ⟨o, _, rfl⟩ := List.mem_map.mp hd
    exact fit_bd (n + 1) o
  have h2 : fitDs (n + 2) (f.t.map prD) = true := fitDs_mem.mpr fun d hd => by
    obtain ⟨o, _, rfl⟩ := List.mem_map.mp hd
    exact fit_pr n o
  simp [Fo.d, foD, fitD, fitD.fitDs]
  exact ⟨h1, h2⟩
end
end Pw.k61
end
section
set_option Elab.async false
set_option linter.all false
set_option maxRecDepth 100000
namespace Pw.k61
open PySem
theorem asc_join {s : Nat} (hs : s < 128) {ws : List (List Nat)} (h : ∀ w ∈ ws, ascB w = true) : ascB (joinL [s] ws) = true := asc_of fun c hc => by
  rw [joinL_tl] at hc
  rcases join_mem hc with rfl | ⟨w, hw, hc⟩
  · exact hs
  · exact asc_mem (h w hw) hc
theorem asc_line {ws : List (List Nat)} (h : ∀ w ∈ ws, wordB w = true) : ascB (joinL [32] ws) = true := asc_join (by decide) fun w hw => wordB_asc (h w hw)
theorem asc_text {w : List Nat} {ls : List (List Nat)} (hw : ascB w = true) (h : ∀ l ∈ ls, ascB l = true) : ascB (textOf w ls) = true := asc_join (by decide) fun v hv => by
  simp [linesOf] at hv
  rcases hv with rfl | hv | rfl
  · exact hw
  · exact h v hv
  · decide
theorem Fo.Ok.asc {f : Fo} (h : f.Ok) : ∀ l ∈ f.ls, ascB l = true := fun l hl => by
  simp [Fo.ls] at hl
  rcases hl with rfl | rfl
  · exact asc_line h.hlw
  · exact asc_line h.tlw
theorem Fm.asc : ∀ f : Fm, f.Ok → ∀ l ∈ f.ls, ascB l = true
  | .form f, h, l, hl => Fo.Ok.asc h l hl
  | .name x, h, l, hl => by
    simp [Fm.ls] at hl
    subst hl
    exact asc_join (by decide) fun v hv => by
      simp at hv
      rcases hv with rfl | rfl
      · decide
      · exact (name_word h).2.2
  | .few1 a, h, l, hl => by
    simp [Fm.ls] at hl
    subst hl
    exact asc_join (by decide) fun v hv => by
      simp at hv
      rcases hv with rfl | rfl
      · decide
      · exact asc_num a
  | .few2 a b, h, l, hl => by
    simp [Fm.ls] at hl
    subst hl
    exact asc_join (by decide) fun v hv => by
      simp at hv
      rcases hv with rfl | rfl | rfl
      · decide
      · exact asc_num a
      · exact asc_num b
  | .one w c ns, h, l, hl => by
    rcases List.mem_cons.mp (show l ∈ joinL [32] (w :: ns.map bdT) :: c.ls from hl) with rfl | hl
    · exact asc_line (Fm.one_line h.1).2
    · exact c.asc h.2 l hl
  | .two w a b, h, l, hl => by
    rcases List.mem_cons.mp (show l ∈ w :: (a.ls ++ b.ls) from hl) with rfl | hl
    · exact (two_word h.1).1
    · rcases List.mem_append.mp hl with hl | hl
      · exact a.asc h.2.1 l hl
      · exact b.asc h.2.2 l hl
theorem Fm.fit : ∀ f : Fm, f.Ok → fitD (f.ht + 6) f.d = true
  | .form f, _ => by
    have := fit_fo 1 f
    simp [Fm.d, Fm.ht, fitD, fitD.fitDs, this]
  | .name x, h => by
    have := (name_word h).2.2
    simp [Fm.d, Fm.ht, fitD, fitD.fitDs, this]
  | .few1 a, _ => by simp [Fm.d, Fm.ht, fitD, fitD.fitDs]
  | .few2 a b, _ => by simp [Fm.d, Fm.ht, fitD, fitD.fitDs]
  | .one w c ns, h => by
    have h1 := (one_word h.1).2.2.1
    have h2 := c.fit h.2
    have h3 : fitDs (c.ht + 6) (ns.map bdD) = true := fitDs_mem.mpr fun d hd => by
      obtain ⟨o, _, rfl⟩ := List.mem_map.mp hd
      exact fit_bd (c.ht + 5) o
    have e : (Fm.one w c ns).ht + 6 = (c.ht + 6) + 1 := by simp [Fm.ht]
    rw [e]
    simp [Fm.d, fitD, fitD.fitDs, h1, h2]
    exact h3
  | .two w a b, h => by
    have h1 := (two_word h.1).1
    have h2 := fitD_mono (n := max a.ht b.ht + 6) (by omega) (a.fit h.2.1)
    have h3 := fitD_mono (n := max a.ht b.ht + 6) (by omega) (b.fit h.2.2)
    have e : (Fm.two w a b).ht + 6 = (max a.ht b.ht + 6) + 1 := by simp [Fm.ht]
    rw [e]
    simp [Fm.d, fitD, fitD.fitDs, h1, h2, h3]
section
variable (st : Store)
theorem form_holds (k : Nat) (f : Fo) (hf : f.Ok) : run p.T (k+6) i__law_form_holds [f.d] st = .ok (.bl true, st) := by
  rw [run_def t__law_form_holds rfl]
  have e1 := law_form_lines_ok st (k+3) f hf
  have e2 := law_text_ok (st ++ [.lst (f.ls.map .str)]) (k+4) wForm f.ls (by decide) hf.ll (by simp [Fo.ls]) st.length (by simp)
  have e3 := parse_form_ok k st f hf
  have e4 := format_form_ok (k+2) st f hf
  have c1 := cmp_ne_self (st := st) (d := f.d) (fit_fo 56 f)
  have c2 := cmp_eq_self (st := st) (d := .str (textOf wForm f.ls)) (by simp [fitD, asc_text (show ascB wForm = true by decide) hf.asc])
  simp [b__law_form_holds, startR, e1, e2, e3, e4, c1, c2, bindG, isTy]
theorem formula_holds (f : Fm) (m : Nat) (h : f.Ok) (hz : f.size ≤ 40) (hh : f.ht ≤ 9) (hm : 36 ≤ m) : run p.T m i__law_formula_holds [f.d] st = .ok (.bl true, st) := by
  obtain ⟨k, rfl⟩ : ∃ k, m = k + 2 := ⟨m - 2, by omega⟩
  rw [run_def t__law_formula_holds rfl]
  obtain ⟨l1, l2⟩ := f.lines_ok h
  have e1 := law_lines_ok st f (k+1) h (by omega) (by omega) (by omega)
  have e2 := law_text_ok (st ++ [.lst (f.ls.map .str)]) k wFormula f.ls (by decide) (fun l hl => (l2 l hl).1) (by omega) st.length (by simp)
  have e3 := parse_formula_ok st f (k+1) h hz hh (by omega)
  have e4 := format_formula_ok st f (k+1) h hz (by omega)
  have c1 := cmp_ne_self (st := st) (d := f.d) (fitD_mono (by omega) (f.fit h))
  have c2 := cmp_eq_self (st := st) (d := .str (textOf wFormula f.ls)) (by simp [fitD, asc_text (show ascB wFormula = true by decide) (f.asc h)])
  simp [b__law_formula_holds, startR, e1, e2, e3, e4, c1, c2, bindG, isTy]
end
end Pw.k61
end
section
set_option Elab.async false
set_option linter.all false
set_option maxRecDepth 100000
namespace Pw.k61
open PySem
section
variable (st : Store)
theorem law_ints_ok (k : Nat) (f : Fo) : run p.T (k+1) i__law_ints [f.d] st = .ok (.bl true, st) := by
  obtain ⟨h, t⟩ := f
  rw [run_def t__law_ints rfl]
  let R1 : Option (Option Int) → Rho × Store := fun s => ([some (foD h t), s.map bdD, none], st)
  have lp1 := loopF_inv (it := .fix (h.map bdD)) (G := .name 1) (body := ex (run p.T k) (.seq (.ifs (.and (.cmp .notN (.var 1) (.cst (.non))) (.or (.not (.tru (.isi (.var 1) ["int"]))) (.tru (.isi (.var 1) ["bool"])))) (.seq (.ret (.cst (.bl false))) .nil) .nil) .nil)) bdD R1 (fun s a => some a) (fun _ _ => True) (fun s => by simp) (fun s a l _ => by
      refine ⟨[some (foD h t), some (bdD a), none], by simp [R1, bindG], ?_, trivial⟩
      cases a <;> simp [R1, bdD, isTy]) h none trivial
  let last := h.foldl (fun s a => some a) (none : Option (Option Int))
  let R2 : Option (Option (Int × Int)) → Rho × Store := fun s => ([some (foD h t), (match s with | none => last.map bdD | some none => some .non | some (some q) => some (.int q.1)), (match s with | none => none | some none => some (.int 0) | some (some q) => some (.int q.2))], st)
  have lp2 := loopF_inv (it := .fix (t.map prD)) (G := .tup [1, 2]) (body := ex (run p.T k) (.seq (.ifs (.or (.tru (.isi (.var 2) ["bool"])) (.not (.tru (.isi (.var 2) ["int"])))) (.seq (.ret (.cst (.bl false))) .nil) .nil) (.seq (.ifs (.and (.cmp .notN (.var 1) (.cst (.non))) (.or (.not (.tru (.isi (.var 1) ["int"]))) (.tru (.isi (.var 1) ["bool"])))) (.seq (.ret (.cst (.bl false))) .nil) .nil) .nil))) prD R2 (fun s a => some a) (fun _ _ => True) (fun s => by simp) (fun s a l _ => by
      cases a with
      | none => exact ⟨[some (foD h t), some .non, some (.int 0)], by simp [R2, bindG, prD, setAll], by simp [R2, isTy], trivial⟩
      | some q => exact ⟨[some (foD h t), some (.int q.1), some (.int q.2)], by simp [R2, bindG, prD, setAll], by simp [R2, isTy], trivial⟩) t none trivial
  generalize ho : t.foldl (fun s a => some a) (none : Option (Option (Int × Int))) = o at lp2
  simp only [R1, R2] at lp1 lp2
  simp [foD] at lp1 lp2
  simp [b__law_ints, startR, ex_fors, Fo.d, foD, subD, okD, atD0, walkD, Itr.items, lp1]
  simp [atD1, walkD, Itr.items]
  rw [lp2]
  simp [isTy, atD0, atD1]
end
/-! ### what is drawn -/
structure LS where
  A : List Int
  p : Int
  c : Int
  n : Int
  b : Bool
def LS.st (s : LS) (l : Store) : Store := .lst (s.A.map .int) :: .lst [.ref 0, .int s.p, .int s.c, .int s.n, .bl s.b] :: l
structure LS.Ok (s : LS) : Prop where
  p0 : 0 ≤ s.p
  c0 : 0 ≤ s.c
theorem gc_law {x y y' : Cell} {l m : Store} {d : D} (hd : pureD d = true) (hy : bndC (l.length + 2) y' = true) : gc (x :: y :: l) d (x :: y' :: (l ++ m)) = (d, x :: y' :: l) := by
  unfold gc
  have e : (x :: y :: l).length = l.length + 2 := rfl
  rw [e]
  have ok : okPre (l.length + 2) (x :: y :: l) (x :: y' :: (l ++ m)) = true := by
    simp [hy, okPre_app]
  rw [if_pos ok, if_pos (bnd_pure hd)]
  congr 1
  show x :: y' :: (l ++ m).take l.length = _
  rw [List.take_left' rfl]
theorem gc_law0 {x y y' : Cell} {l : Store} {d : D} (hd : pureD d = true) (hy : bndC (l.length + 2) y' = true) : gc (x :: y :: l) d (x :: y' :: l) = (d, x :: y' :: l) := by
  have := gc_law (x := x) (y := y) (m := []) hd hy
  rw [List.append_nil] at this
  exact this
theorem bndC_ls {n : Nat} {p c m : Int} {b : Bool} : bndC (n + 2) (.lst [.ref 0, .int p, .int c, .int m, .bl b]) = true := by
  simp [bndC, bnds, bnd.bnds, bnd]
theorem atD4 {α : Type} (a b c d e : α) (l : List α) : atD (a :: b :: c :: d :: e :: l) 4 = some e := by
  have : (4 : Int) < ((a :: b :: c :: d :: e :: l).length : Int) := by simp; omega
  simp only [atD, L2.atI, L2.ixN, this]
  simp
theorem set5 (x0 x1 x2 x3 x4 d : D) (c : Cell) (l : Store) (i : Nat) (hi : i < 5) : setItemD (.ref 1) (.int i) d (c :: .lst [x0, x1, x2, x3, x4] :: l) = some (c :: .lst ([x0, x1, x2, x3, x4].set i d) :: l) := by
  unfold setItemD
  dsimp only
  show (L2.ixN [x0, x1, x2, x3, x4].length i).map _ = _
  have : L2.ixN [x0, x1, x2, x3, x4].length (i : Int) = some i := by
    unfold L2.ixN
    simp
    omega
  rw [this]
  rfl
def seqL : IS → IS
  | .seq a _ => a
  | x => x
def seqR : IS → IS
  | .seq _ r => r
  | x => x
theorem mulOk_r {i j : Int} (h : j.natAbs < 2 ^ 64) : mulOk i j = true := by
  unfold mulOk
  rw [decide_eq_true h]
  simp
theorem divOk_of {j : Int} (h1 : 1 ≤ j) (h2 : j ≤ 1000000) : divOk j = true := by
  unfold divOk
  have a : j ≠ 0 := by omega
  have b : j.natAbs < 1073741824 := by omega
  simp [a, b]
theorem draw_rest (k : Nat) (s : LS) (l : Store) (limit : Int) (o2 o3 o4 : Option D) (hs : s.Ok) (h1 : 1 ≤ limit) (h2 : limit ≤ 1000000) : ∃ (v : Int) (s' : LS) (ρ : Rho), ex (run p.T k) (seqR b__law_draw) [some (.ref 1), some (.int limit), o2, o3, o4] (s.st l) = .ok (.ret (.int v), ρ, s'.st l) ∧ s'.Ok ∧ 0 ≤ v ∧ v < limit ∧ s'.A = s.A := by
  obtain ⟨A, pp, cc, n, b⟩ := s
  obtain ⟨p0, c0⟩ := hs
  have s1 := fun (x0 x1 x2 x3 x4 d : D) (c : Cell) (l : Store) => set5 x0 x1 x2 x3 x4 d c l 1 (by decide)
  have s2 := fun (x0 x1 x2 x3 x4 d : D) (c : Cell) (l : Store) => set5 x0 x1 x2 x3 x4 d c l 2 (by decide)
  have s3 := fun (x0 x1 x2 x3 x4 d : D) (c : Cell) (l : Store) => set5 x0 x1 x2 x3 x4 d c l 3 (by decide)
  have s4 := fun (x0 x1 x2 x3 x4 d : D) (c : Cell) (l : Store) => set5 x0 x1 x2 x3 x4 d c l 4 (by decide)
  simp at s1 s2 s3 s4 p0 c0
  have hl0 : ¬ (limit = 0) := by omega
  cases b with
  | true =>
    have v0 := Int.fmod_nonneg_of_pos cc (show 0 < limit by omega)
    have v1 := Int.fmod_lt_of_pos cc (show 0 < limit by omega)
    have c1 : 0 ≤ cc.fdiv limit := Int.fdiv_nonneg c0 (by omega)
    by_cases hz : cc.fdiv limit = 0
    · exact ⟨cc.fmod limit, ⟨A, pp, cc.fdiv limit, 0, true⟩, [some (.ref 1), some (.int limit), o2, some (.int (cc.fmod limit)), o4], by
        simp [seqR, b__law_draw, LS.st, subD, okD, atD1, atD2, atD3, atD4, s1, s2, s3, s4, bfD, bindG, hl0, divOk_of h1 h2, hz], ⟨p0, c1⟩, v0, v1, rfl⟩
    · exact ⟨cc.fmod limit, ⟨A, pp, cc.fdiv limit, n - 1, true⟩, [some (.ref 1), some (.int limit), o2, some (.int (cc.fmod limit)), o4], by
        simp [seqR, b__law_draw, LS.st, subD, okD, atD1, atD2, atD3, atD4, s1, s2, s3, s4, bfD, bindG, hl0, divOk_of h1 h2, hz], ⟨p0, c1⟩, v0, v1, rfl⟩
  | false =>
    let m1 := (cc * 48271 + (n - 1) * 69621 + 7).fmod 2147483647
    let m2 := (m1 * m1 + cc * 31 + (n - 1)).fmod 1000003
    have b1 := Int.fmod_nonneg_of_pos (cc * 48271 + (n - 1) * 69621 + 7) (show (0 : Int) < 2147483647 by decide)
    have b2 := Int.fmod_lt_of_pos (cc * 48271 + (n - 1) * 69621 + 7) (show (0 : Int) < 2147483647 by decide)
    have v0 := Int.fmod_nonneg_of_pos m2 (show 0 < limit by omega)
    have v1 := Int.fmod_lt_of_pos m2 (show 0 < limit by omega)
    have k1 : mulOk cc 48271 = true := mulOk_r (by decide)
    have k2 : mulOk (n - 1) 69621 = true := mulOk_r (by decide)
    have k3 : mulOk m1 m1 = true := mulOk_r (by show m1.natAbs < 18446744073709551616; simp only [m1]; omega)
    have k4 : mulOk cc 31 = true := mulOk_r (by decide)
    refine ⟨m2.fmod limit, ⟨A, pp, cc, n - 1, false⟩, [some (.ref 1), some (.int limit), o2, o3, some (.int m2)], ?_, ⟨p0, c0⟩, v0, v1, rfl⟩
    simp only [m1] at k3
    simp [seqR, b__law_draw, LS.st, subD, okD, atD1, atD2, atD3, atD4, s1, s2, s3, s4, bfD, bindG, hl0, k1, k2, k3, k4, m1, m2]
/-- the law's draws -/
theorem draw_ok (k : Nat) (s : LS) (l : Store) (limit : Int) (hs : s.Ok) (h1 : 1 ≤ limit) (h2 : limit ≤ 1000000) : ∃ (v : Int) (s' : LS), run p.T (k+1) i__law_draw [.ref 1, .int limit] (s.st l) = .ok (.int v, s'.st l) ∧ s'.Ok ∧ 0 ≤ v ∧ v < limit ∧ s'.A = s.A := by
  have split : b__law_draw = .seq (seqL b__law_draw) (seqR b__law_draw) := rfl
  have out : ∀ (s' : LS) (v : Int) (ρ : Rho), outR (s.st l) (.ok (.ret (.int v), ρ, s'.st l)) = .ok (.int v, s'.st l) → True := fun _ _ _ _ => trivial
  have gcs : ∀ (s' : LS) (v : Int), s'.A = s.A → gc (s.st l) (.int v) (s'.st l) = (.int v, s'.st l) := fun s' v hA => by
    unfold LS.st
    rw [hA]
    exact gc_law0 rfl bndC_ls
  by_cases hn : s.n = 0
  · by_cases hp : (s.A.length : Int) ≤ s.p
    · refine ⟨0, s, ?_, hs, by omega, by omega, rfl⟩
      rw [run_def t__law_draw rfl]
      simp [b__law_draw, startR, LS.st, subD, okD, atD0, atD1, atD3, hn, bfD, seqD, hp]
    · obtain ⟨x, hx⟩ : ∃ x, atD (s.A.map D.int) s.p = some (.int x) := by
        have hp0 := hs.p0
        unfold atD L2.atI L2.ixN
        rw [if_pos hp0, if_pos (by simp; omega)]
        have : s.p.toNat < s.A.length := by omega
        exact ⟨s.A[s.p.toNat], by simp [this]⟩
      have s1 := fun (x0 x1 x2 x3 x4 d : D) (c : Cell) (l : Store) => set5 x0 x1 x2 x3 x4 d c l 1 (by decide)
      have s2 := fun (x0 x1 x2 x3 x4 d : D) (c : Cell) (l : Store) => set5 x0 x1 x2 x3 x4 d c l 2 (by decide)
      have s3 := fun (x0 x1 x2 x3 x4 d : D) (c : Cell) (l : Store) => set5 x0 x1 x2 x3 x4 d c l 3 (by decide)
      have s4 := fun (x0 x1 x2 x3 x4 d : D) (c : Cell) (l : Store) => set5 x0 x1 x2 x3 x4 d c l 4 (by decide)
      simp at s1 s2 s3 s4
      let c' : Int := if x < 0 then -1 - x else x
      have hc' : 0 ≤ c' := by simp only [c']; split <;> omega
      let s1' : LS := ⟨s.A, s.p + 1, c', if (1000000000000000000 : Int) ≤ c' then 60 else 6, decide ((1000000000000000000 : Int) ≤ c')⟩
      obtain ⟨v, s', ρ, e, k1, k2, k3, k4⟩ := draw_rest k s1' l limit (some (.int c')) none none ⟨by show 0 ≤ s.p + 1; have := hs.p0; omega, hc'⟩ h1 h2
      refine ⟨v, s', ?_, k1, k2, k3, k4⟩
      rw [run_def t__law_draw rfl]
      have first : ex (run p.T k) (seqL b__law_draw) [some (.ref 1), some (.int limit), none, none, none] (s.st l) = .ok (.nx, [some (.ref 1), some (.int limit), some (.int c'), none, none], s1'.st l) := by
        by_cases hx0 : x < 0
        · by_cases hbig : (1000000000000000000 : Int) ≤ -1 - x
          · simp [seqL, b__law_draw, LS.st, subD, okD, atD0, atD1, atD3, atD4, hn, bfD, seqD, hp, hx, bindG, hx0, s1, s2, s3, s4, c', s1', hbig]
          · simp [seqL, b__law_draw, LS.st, subD, okD, atD0, atD1, atD3, atD4, hn, bfD, seqD, hp, hx, bindG, hx0, s1, s2, s3, s4, c', s1', hbig]
        · by_cases hbig : (1000000000000000000 : Int) ≤ x
          · simp [seqL, b__law_draw, LS.st, subD, okD, atD0, atD1, atD3, atD4, hn, bfD, seqD, hp, hx, bindG, hx0, s1, s2, s3, s4, c', s1', hbig]
          · simp [seqL, b__law_draw, LS.st, subD, okD, atD0, atD1, atD3, atD4, hn, bfD, seqD, hp, hx, bindG, hx0, s1, s2, s3, s4, c', s1', hbig]
      show outR (s.st l) (ex (run p.T k) b__law_draw [some (.ref 1), some (.int limit), none, none, none] (s.st l)) = _
      rw [split, ex_seq, first]
      dsimp only [Res.bind_ok]
      rw [e, outR_ret, gcs s' v (by rw [k4])]
  · obtain ⟨v, s', ρ, e, k1, k2, k3, k4⟩ := draw_rest k s l limit none none none hs h1 h2
    refine ⟨v, s', ?_, k1, k2, k3, k4⟩
    rw [run_def t__law_draw rfl]
    have first : ex (run p.T k) (seqL b__law_draw) [some (.ref 1), some (.int limit), none, none, none] (s.st l) = .ok (.nx, [some (.ref 1), some (.int limit), none, none, none], s.st l) := by
      simp [seqL, b__law_draw, LS.st, subD, okD, atD3, hn]
    show outR (s.st l) (ex (run p.T k) b__law_draw [some (.ref 1), some (.int limit), none, none, none] (s.st l)) = _
    rw [split, ex_seq, first]
    dsimp only [Res.bind_ok]
    rw [e, outR_ret, gcs s' v k4]
end Pw.k61
end
section
set_option Elab.async false
set_option linter.all false
set_option maxRecDepth 100000
namespace Pw.k61
open PySem
section
variable {s s' : LS} {l a b m : Store} {d : D} {k : Nat}
@[simp] theorem st_len : (s.st l).length = l.length + 2 := rfl
@[simp] theorem st_app : s.st l ++ m = s.st (l ++ m) := rfl
@[simp] theorem listAt_st0 : listAt (s.st (l ++ m)) (l.length + 2) = listAt m 0 := by
  have := listAt_0 (s.st l) m
  exact this
@[simp] theorem listAt_stk : listAt (s.st (l ++ m)) (l.length + (k + 2)) = listAt m k := by
  have := listAt_k (s.st l) m k
  rw [st_len] at this
  rw [show l.length + (k + 2) = l.length + 2 + k from by omega]
  exact this
theorem okPre_ls {n : Nat} (hA : s'.A = s.A) : okPre (n + 2) (s.st l) (s'.st m) = okPre (n + 2) l m := by
  unfold LS.st
  rw [hA]
  simp [bndC_ls]
theorem gc_lsE (hA : s'.A = s.A) (hd : pureD d = true) (ok : okPre (l.length + a.length + 2) a b = true) : gc (s.st (l ++ a)) d (s'.st (l ++ b)) = (d, s'.st (l ++ b.take a.length)) := by
  unfold gc
  have e : (s.st (l ++ a)).length = l.length + a.length + 2 := by simp
  rw [e, if_pos (by rw [okPre_ls hA, okPre_same]; exact ok), if_pos (bnd_pure hd)]
  congr 1
  have : ∀ x : Store, (s'.st x).take (l.length + a.length + 2) = s'.st (x.take (l.length + a.length)) := fun x => rfl
  rw [this, List.take_length_add_append]
theorem gc_ls (hA : s'.A = s.A) (hd : pureD d = true) : gc (s.st l) d (s'.st l) = (d, s'.st l) := by
  have := gc_lsE (s := s) (s' := s') (l := l) (a := []) (b := []) hA hd (okPre_nil _ _)
  simpa using this
theorem gc_lsA (hA : s'.A = s.A) (hd : pureD d = true) : gc (s.st l) d (s'.st (l ++ b)) = (d, s'.st l) := by
  have := gc_lsE (s := s) (s' := s') (l := l) (a := []) (b := b) hA hd (okPre_nil _ _)
  simpa using this
theorem gc_lsR (hA : s'.A = s.A) (ok : okPre (l.length + a.length + 2) a b = true) : gc (s.st (l ++ a)) (.ref (l.length + (k + 2))) (s'.st (l ++ b)) = if k < a.length then (.ref (l.length + (k + 2)), s'.st (l ++ b.take a.length)) else match b[k]? with
    | some c => if bndC (l.length + a.length + 2) c = true then (.ref (l.length + (a.length + 2)), s'.st (l ++ (b.take a.length ++ [c]))) else (.ref (l.length + (k + 2)), s'.st (l ++ b))
    | none => (.ref (l.length + (k + 2)), s'.st (l ++ b)) := by
  unfold gc
  have e : (s.st (l ++ a)).length = l.length + a.length + 2 := by simp
  have tk : ∀ x : Store, (s'.st x).take (l.length + a.length + 2) = s'.st (x.take (l.length + a.length)) := fun x => rfl
  have hat : (s'.st (l ++ b))[l.length + (k + 2)]? = b[k]? := by
    show (_ :: _ :: (l ++ b))[l.length + k + 2]? = _
    simp
  rw [e, if_pos (by rw [okPre_ls hA, okPre_same]; exact ok)]
  by_cases h : k < a.length
  · rw [if_pos (by simp [bnd]; omega), if_pos h, tk, List.take_length_add_append]
  · rw [if_neg (by simp [bnd]; omega), if_neg h]
    dsimp only
    rw [hat]
    cases b[k]? with
    | none => rfl
    | some c =>
      dsimp only
      rw [tk, List.take_length_add_append]
      show (if _ then (D.ref (l.length + a.length + 2), s'.st (l ++ b.take a.length ++ [c])) else _) = _
      rw [List.append_assoc, Nat.add_assoc]
theorem gc_lsR0 (hA : s'.A = s.A) : gc (s.st l) (.ref (l.length + (k + 2))) (s'.st (l ++ b)) = match b[k]? with
    | some c => if bndC (l.length + 2) c = true then (.ref (l.length + 2), s'.st (l ++ [c])) else (.ref (l.length + (k + 2)), s'.st (l ++ b))
    | none => (.ref (l.length + (k + 2)), s'.st (l ++ b)) := by
  have := gc_lsR (s := s) (s' := s') (l := l) (a := []) (b := b) (k := k) hA (okPre_nil _ _)
  simpa using this
end
theorem numB_of {i : Int} (h : i.natAbs < 10 ^ 39) : numB i = true := by
  have := numT_len (k := 39) (by decide) h
  have h2 : i.natAbs < 10 ^ 40 := Nat.lt_trans h (by decide)
  simp [numB, h2]
  omega
/-- what a function of the law gives: a value, the draws' state -/
def Gives (f : Nat) (m : Nat) (args : List D) (P : D → Prop) : Prop := ∀ (s : LS) (l : Store), s.Ok → ∃ (d : D) (s' : LS), run p.T m f args (s.st l) = .ok (d, s'.st l) ∧ s'.Ok ∧ s'.A = s.A ∧ P d
theorem number_ok (k : Nat) : Gives i__law_number (k+2) [.ref 1] (fun d => ∃ i, d = .int i ∧ i.natAbs < 10 ^ 30) := by
  intro s l hs
  obtain ⟨v, s1, e1, k1, b1, b2, a1⟩ := draw_ok k s l 8 hs (by decide) (by decide)
  by_cases h5 : v < 5
  · obtain ⟨v2, s2, e2, k2, c1, c2, a2⟩ := draw_ok k s1 l 9 k1 (by decide) (by decide)
    refine ⟨.int (v2 - 3), s2, ?_, k2, a2.trans a1, _, rfl, Nat.lt_of_le_of_lt (m := 10) (by omega) (by decide)⟩
    rw [run_def t__law_number rfl]
    simp [b__law_number, startR, e1, e2, gc_ls a1, gc_ls a2, gc_ls (a2.trans a1), bindG, h5]
  · by_cases h7 : v < 7
    · obtain ⟨v2, s2, e2, k2, c1, c2, a2⟩ := draw_ok k s1 l 241 k1 (by decide) (by decide)
      refine ⟨.int (v2 - 120), s2, ?_, k2, a2.trans a1, _, rfl, Nat.lt_of_le_of_lt (m := 1000) (by omega) (by decide)⟩
      rw [run_def t__law_number rfl]
      simp [b__law_number, startR, e1, e2, gc_ls a1, gc_ls a2, gc_ls (a2.trans a1), bindG, h5, h7]
    · obtain ⟨v2, s2, e2, k2, c1, c2, a2⟩ := draw_ok k s1 l 2001 k1 (by decide) (by decide)
      obtain ⟨v3, s3, e3, k3, d1, d2, a3⟩ := draw_ok k s2 l 1000 k2 (by decide) (by decide)
      refine ⟨.int ((v2 - 1000) * 1000000000000000000000000 + v3), s3, ?_, k3, a3.trans (a2.trans a1), _, rfl, Nat.lt_of_le_of_lt (m := 1000000000000000000000001000) (by omega) (by decide)⟩
      have mo : mulOk (v2 - 1000) 1000000000000000000000000 = true := by
        unfold mulOk
        rw [decide_eq_true (show (v2 - 1000).natAbs < 2 ^ 64 from Nat.lt_of_le_of_lt (m := 1001) (by omega) (by decide))]
        rfl
      rw [run_def t__law_number rfl]
      simp [b__law_number, startR, e1, e2, e3, gc_ls a1, gc_ls (a3.trans a2), gc_ls (a3.trans (a2.trans a1)), bindG, h5, h7, mo]
theorem long_ok (k : Nat) : Gives i__law_long (k+3) [.ref 1] (fun d => ∃ i, d = .int i ∧ numB i = true) := by
  intro s l hs
  obtain ⟨v, s1, e1, k1, b1, b2, a1⟩ := draw_ok (k+1) s l 12 hs (by decide) (by decide)
  by_cases h0 : v = 0
  · obtain ⟨v2, s2, e2, k2, c1, c2, a2⟩ := draw_ok (k+1) s1 l 9 k1 (by decide) (by decide)
    refine ⟨.int (1000000000000000000000000000000000000000 + v2), s2, ?_, k2, a2.trans a1, _, rfl, ?_⟩
    · rw [run_def t__law_long rfl]
      simp [b__law_long, startR, e1, e2, gc_ls a1, gc_ls a2, gc_ls (a2.trans a1), bindG, h0]
    · have h1 := numT_len0 (i := 1000000000000000000000000000000000000000 + v2) (k := 40) (by decide) (by omega) (by omega)
      have h2 : (1000000000000000000000000000000000000000 + v2).natAbs < 10 ^ 40 := Nat.lt_of_le_of_lt (m := 1000000000000000000000000000000000000010) (by omega) (by decide)
      simp [numB, h1, h2]
  · by_cases h1 : v = 1
    · obtain ⟨v2, s2, e2, k2, c1, c2, a2⟩ := draw_ok (k+1) s1 l 9 k1 (by decide) (by decide)
      refine ⟨.int (0 - 100000000000000000000000000000000000000 - v2), s2, ?_, k2, a2.trans a1, _, rfl, numB_of (Nat.lt_of_le_of_lt (m := 100000000000000000000000000000000000010) (by omega) (by decide))⟩
      rw [run_def t__law_long rfl]
      simp [b__law_long, startR, e1, e2, gc_ls a1, gc_ls a2, gc_ls (a2.trans a1), bindG, h1]
    · obtain ⟨d, s2, e2, k2, a2, i, rfl, hi⟩ := number_ok k s1 l k1
      refine ⟨.int i, s2, ?_, k2, a2.trans a1, i, rfl, numB_of (Nat.lt_trans hi (by decide))⟩
      rw [run_def t__law_long rfl]
      simp [b__law_long, startR, e1, e2, gc_ls a1, gc_ls a2, gc_ls (a2.trans a1), bindG, h0, h1]
end Pw.k61
end
section
set_option Elab.async false
set_option linter.all false
set_option maxRecDepth 100000
namespace Pw.k61
open PySem
theorem loopF_ind {α : Type} {it : Itr} {G : IG} {body : Rho → Store → SR} (g : α → D) (Inv : List α → Rho → Store → Prop) (hst : ∀ l ρ st, Inv l ρ st → it.stands st = true)
    (h : ∀ a l ρ st, Inv (a :: l) ρ st → ∃ ρ1 ρ2 st2, bindG G (g a) ρ = some ρ1 ∧ body ρ1 st = .ok (.nx, ρ2, st2) ∧ Inv l ρ2 st2) : ∀ (l : List α) (ρ : Rho) (st : Store), Inv l ρ st →
    ∃ ρ' st', loopF it G body (l.map g) ρ st = .ok (.nx, ρ', st') ∧ Inv [] ρ' st'
  | [], ρ, st, hi => ⟨ρ, st, by
    show loopF it G body [] ρ st = _
    unfold loopF
    rw [hst _ _ _ hi]
    rfl, hi⟩
  | a :: l, ρ, st, hi => by
    obtain ⟨ρ1, ρ2, st2, e1, e2, e3⟩ := h a l ρ st hi
    obtain ⟨ρ', st', e4, e5⟩ := loopF_ind g Inv hst h l ρ2 st2 e3
    refine ⟨ρ', st', ?_, e5⟩
    show loopF it G body (g a :: l.map g) ρ st = _
    unfold loopF
    rw [hst _ _ _ hi, e1]
    dsimp only [need_true]
    rw [e2]
    dsimp only [Res.bind_ok]
    exact e4
theorem loopC_ind {α : Type} {it : Itr} {G : IG} {fc : Rho → Store → Res (Bool × Store)} {fe : Rho → Store → Res (D × Store)} {ρ : Rho} (g : α → D) (Inv : Store → Prop) (P : D → Prop) (hst : ∀ st, Inv st → it.stands st = true) (hc : ∀ ρ1 st, fc ρ1 st = .ok (true, st))
    (h : ∀ a st, Inv st → ∃ ρ1 d st2, bindG G (g a) ρ = some ρ1 ∧ fe ρ1 st = .ok (d, st2) ∧ gc st d st2 = (d, st2) ∧ Inv st2 ∧ P d) : ∀ (l : List α) (st : Store), Inv st →
    ∃ ds st', loopC it G fc fe (l.map g) ρ st = .ok (ds, st') ∧ Inv st' ∧ ds.length = l.length ∧ ∀ d ∈ ds, P d
  | [], st, hi => ⟨[], st, by
    show loopC it G fc fe [] ρ st = _
    unfold loopC
    rw [hst _ hi]
    rfl, hi, rfl, by simp⟩
  | a :: l, st, hi => by
    obtain ⟨ρ1, d, st2, e1, e2, e3, e4, e5⟩ := h a st hi
    obtain ⟨ds, st', e6, e7, e8, e9⟩ := loopC_ind g Inv P hst hc h l st2 e4
    refine ⟨d :: ds, st', ?_, e7, by simp [e8], fun x hx => ?_⟩
    · show loopC it G fc fe (g a :: l.map g) ρ st = _
      unfold loopC
      rw [hst _ hi, e1]
      dsimp only [need_true]
      rw [hc]
      dsimp only [noX_ok', Res.bind_ok]
      rw [if_pos rfl, e2]
      dsimp only [noX_ok', Res.bind_ok, gcR_ok]
      rw [e3]
      dsimp only [noX_ok', Res.bind_ok]
      rw [e6]
      rfl
    · rcases List.mem_cons.mp hx with rfl | hx
      · exact e5
      · exact e9 x hx
theorem letters_at {v : Int} (h0 : 0 ≤ v) (h1 : v < 26) : ∃ c, atD ([97, 98, 99, 100, 101, 102, 103, 104, 105, 106, 107, 108, 109, 110, 111, 112, 113, 114, 115, 116, 117, 118, 119, 120, 121, 122] : List Nat) v = some c ∧ 97 ≤ c ∧ c ≤ 122 := by
  obtain ⟨n, rfl⟩ := Int.eq_ofNat_of_zero_le h0
  have hn : n < 26 := by omega
  have all : ∀ n : Fin 26, ∃ c, atD ([97, 98, 99, 100, 101, 102, 103, 104, 105, 106, 107, 108, 109, 110, 111, 112, 113, 114, 115, 116, 117, 118, 119, 120, 121, 122] : List Nat) (n.val : Int) = some c ∧ 97 ≤ c ∧ c ≤ 122 := fun n => by
    refine ⟨97 + n.val, ?_, by omega, by omega⟩
    revert n
    decide
  exact all ⟨n, hn⟩
theorem name_ok (k : Nat) : Gives i__law_name (k+2) [.ref 1] (fun d => ∃ x, d = .str x ∧ nameB x = true) := by
  intro s l hs
  obtain ⟨v1, s1, e1, k1, b1, b1', a1⟩ := draw_ok k s l 3 hs (by decide) (by decide)
  obtain ⟨v2, s2, e2, k2, b2, b2', a2⟩ := draw_ok k s1 l 12 k1 (by decide) (by decide)
  obtain ⟨v3, s3, e3, k3, b3, b3', a3⟩ := draw_ok k s2 (l ++ [.lst [.int v1, .int v2]]) 2 k2 (by decide) (by decide)
  obtain ⟨z, hz, hz0, hz1⟩ : ∃ z, atD [D.int v1, D.int v2] v3 = some (.int z) ∧ 0 ≤ z ∧ z < 12 := by
    have : v3 = 0 ∨ v3 = 1 := by omega
    rcases this with rfl | rfl
    · exact ⟨v1, atD0 _ _, b1, by omega⟩
    · exact ⟨v2, atD1 _ _ _, b2, by omega⟩
  have A3 : s3.A = s.A := a3.trans (a2.trans a1)
  have hst := loopF_ind (it := .fix (rangeL 0 (1 + z))) (G := .name 4) (body := ex (run p.T (k+1)) (.seq (.set (.name 3) (.op .add (.var 3) (.sub (.var 1) (.call i__law_draw (.cons (.var 0) (.cons (.cst (.int 26)) .nil)))))) .nil)) (fun (j : Nat) => D.int (0 + (j : Int)))
    (fun r ρ st => ∃ (s' : LS) (x : List Nat) (o : Option D), ρ = [some (.ref 1), some (.str [97, 98, 99, 100, 101, 102, 103, 104, 105, 106, 107, 108, 109, 110, 111, 112, 113, 114, 115, 116, 117, 118, 119, 120, 121, 122]), some (.int (1 + z)), some (.str x), o] ∧ st = s'.st l ∧ s'.Ok ∧ s'.A = s.A ∧ (x.length : Int) + r.length = 1 + z ∧ ∀ c ∈ x, 97 ≤ c ∧ c ≤ 122) (fun _ _ _ _ => by simp) (fun a r ρ st ⟨s', x, o, h1, h2, h3, h4, h5, h6⟩ => by
      subst h1 h2
      obtain ⟨v, s'', e, q1, q2, q3, q4⟩ := draw_ok k s' l 26 h3 (by decide) (by decide)
      obtain ⟨c, hc, hc1, hc2⟩ := letters_at q2 q3
      have hxl : x.length + 1 ≤ LN := by simp at h5; show _ ≤ 16777216; omega
      refine ⟨_, [some (.ref 1), some (.str [97, 98, 99, 100, 101, 102, 103, 104, 105, 106, 107, 108, 109, 110, 111, 112, 113, 114, 115, 116, 117, 118, 119, 120, 121, 122]), some (.int (1 + z)), some (.str (x ++ [c])), some (.int a)], s''.st l, rfl, ?_, s'', x ++ [c], _, rfl, rfl, q1, q4.trans h4, ?_, fun y hy => ?_⟩
      · simp [e, subD, gc_ls q4, hc, mkStr, hxl, bindG]
      · simp at h5 ⊢; omega
      · rcases List.mem_append.mp hy with hy | hy
        · exact h6 y hy
        · simp at hy; subst hy; exact ⟨hc1, hc2⟩) (List.range (1 + z - 0).toNat) [some (.ref 1), some (.str [97, 98, 99, 100, 101, 102, 103, 104, 105, 106, 107, 108, 109, 110, 111, 112, 113, 114, 115, 116, 117, 118, 119, 120, 121, 122]), some (.int (1 + z)), some (.str []), none] (s3.st l) ⟨s3, [], none, rfl, rfl, k3, A3, by simp; omega, by simp⟩
  obtain ⟨ρ', st', lp, s4, x, o, h1, h2, h3, h4, h5, h6⟩ := hst
  subst h1 h2
  simp at h5
  refine ⟨.str x, s4, ?_, h3, h4, x, rfl, ?_⟩
  · rw [run_def t__law_name rfl]
    have ro : rangeOk 0 (1 + z) = true := by unfold rangeOk; exact decide_eq_true (by omega)
    have lp' : loopF (.fix (rangeL 0 (1 + z))) (.name 4) (ex (run p.T (k+1)) (.seq (.set (.name 3) (.op .add (.var 3) (.sub (.var 1) (.call i__law_draw (.cons (.var 0) (.cons (.cst (.int 26)) .nil)))))) .nil)) (rangeL 0 (1 + z)) _ _ = _ := lp
    simp [b__law_name, startR, e1, e2, e3, mkLst, subD, okD, hz, gc_lsA A3, gc_ls a1, gc_ls A3, bindG, ex_fors, ro, Itr.items]
    simp [lp', gc_ls h4]
  · refine Bool.and_eq_true_iff.mpr ⟨decide_eq_true (by omega), List.all_eq_true.mpr fun c hc => decide_eq_true (h6 c hc)⟩
end Pw.k61
end
section
set_option Elab.async false
set_option linter.all false
set_option maxRecDepth 100000
namespace Pw.k61
open PySem
section
variable {s s' : LS} {l b : Store}
theorem gc_lsN {ds : List D} (hA : s'.A = s.A) (hp : pureDs ds = true) : gc (s.st l) (.ref (l.length + 2)) (s'.st (l ++ .lst ds :: b)) = (.ref (l.length + 2), s'.st (l ++ [.lst ds])) := by
  have := gc_lsR0 (s := s) (s' := s') (l := l) (b := .lst ds :: b) (k := 0) hA
  simpa [hp] using this
end
abbrev eBd : IE := .sub (.lst (.cons (.cst (.non)) (.cons (.call i__law_long (.cons (.var 0) .nil)) .nil))) (.bf .int (.cmp .gt (.call i__law_draw (.cons (.var 0) (.cons (.cst (.int 4)) .nil))) (.cst (.int 0))))
abbrev ePr : IE := .sub (.lst (.cons (.tup (.cons (.cst (.non)) (.cons (.cst (.int 0)) .nil))) (.cons (.tup (.cons (.call i__law_long (.cons (.var 0) .nil)) (.cons (.call i__law_long (.cons (.var 0) .nil)) .nil))) .nil))) (.bf .int (.cmp .gt (.call i__law_draw (.cons (.var 0) (.cons (.cst (.int 4)) .nil))) (.cst (.int 0))))
theorem eBd_ok (k : Nat) (s : LS) (l : Store) (hs : s.Ok) (ρ : Rho) (hρ : ρ[0]? = some (some (.ref 1))) : ∃ (o : Option Int) (s' : LS), ev (run p.T (k+3)) eBd ρ (s.st l) = .ok (bdD o, s'.st l) ∧ s'.Ok ∧ s'.A = s.A ∧ bdB o = true := by
  obtain ⟨d, s1, e1, k1, a1, i, rfl, hi⟩ := long_ok k s l hs
  obtain ⟨v, s2, e2, k2, b1, b2, a2⟩ := draw_ok (k+2) s1 (l ++ [.lst [.non, .int i]]) 4 k1 (by decide) (by decide)

  by_cases h : 0 < v
  · exact ⟨some i, s2, by simp [eBd, hρ, e1, e2, mkLst, bfD, gc_ls a2, subD, okD, h, atD1, gc_lsA (a2.trans a1), bdD], k2, a2.trans a1, hi⟩
  · exact ⟨none, s2, by simp [eBd, hρ, e1, e2, mkLst, bfD, gc_ls a2, subD, okD, h, atD0, gc_lsA (a2.trans a1), bdD], k2, a2.trans a1, rfl⟩
theorem ePr_ok (k : Nat) (s : LS) (l : Store) (hs : s.Ok) (ρ : Rho) (hρ : ρ[0]? = some (some (.ref 1))) : ∃ (o : Option (Int × Int)) (s' : LS), ev (run p.T (k+3)) ePr ρ (s.st l) = .ok (prD o, s'.st l) ∧ s'.Ok ∧ s'.A = s.A ∧ prB o = true := by
  obtain ⟨d, s1, e1, k1, a1, i, rfl, hi⟩ := long_ok k s l hs
  obtain ⟨d, s2, e2, k2, a2, j, rfl, hj⟩ := long_ok k s1 l k1
  obtain ⟨v, s3, e3, k3, b1, b2, a3⟩ := draw_ok (k+2) s2 (l ++ [.lst [.tup [.non, .int 0], .tup [.int i, .int j]]]) 4 k2 (by decide) (by decide)

  by_cases h : 0 < v
  · exact ⟨some (i, j), s3, by simp [ePr, hρ, e1, e2, e3, mkTup, mkLst, bfD, gc_ls a3, subD, okD, h, atD1, gc_lsA (a3.trans (a2.trans a1)), prD], k3, a3.trans (a2.trans a1), by simp [prB, hi, hj]⟩
  · exact ⟨none, s3, by simp [ePr, hρ, e1, e2, e3, mkTup, mkLst, bfD, gc_ls a3, subD, okD, h, atD0, gc_lsA (a3.trans (a2.trans a1)), prD], k3, a3.trans (a2.trans a1), rfl⟩
theorem map_of {α : Type} {P : α → Prop} {f : α → D} : ∀ {ds : List D}, (∀ d ∈ ds, ∃ a, d = f a ∧ P a) → ∃ l : List α, ds = l.map f ∧ ∀ a ∈ l, P a
  | [], _ => ⟨[], rfl, by simp⟩
  | d :: ds, h => by
    obtain ⟨a, rfl, ha⟩ := h d List.mem_cons_self
    obtain ⟨l, rfl, hl⟩ := map_of fun d hd => h d (List.mem_cons_of_mem _ hd)
    exact ⟨a :: l, rfl, fun b hb => by
      rcases List.mem_cons.mp hb with rfl | hb
      · exact ha
      · exact hl b hb⟩
theorem text_form_ok (k : Nat) : Gives i__law_text_form (k+4) [.ref 1] (fun d => ∃ f : Fo, d = f.d ∧ f.Ok ∧ f.h.length ≤ 6 ∧ f.t.length ≤ 4) := by
  intro s l hs
  obtain ⟨v, s1, e1, k1, b1, b1', a1⟩ := draw_ok (k+2) s l 6 hs (by decide) (by decide)
  obtain ⟨ds, st', c1, ⟨s2, rfl, k2, a2⟩, n1, p1⟩ := loopC_ind (it := .fix (rangeL 0 v)) (G := .name 3) (fc := evc (run p.T (k+3)) .nil) (fe := ev (run p.T (k+3)) eBd) (ρ := [some (.ref 1), none, none, none]) (fun (j : Nat) => D.int (0 + (j : Int)))
    (fun st => ∃ s' : LS, st = s'.st l ∧ s'.Ok ∧ s'.A = s.A) (fun d => ∃ o, d = bdD o ∧ bdB o = true) (fun _ _ => by simp) (fun _ _ => rfl) (fun a st ⟨s', h1, h2, h3⟩ => by
      subst h1
      obtain ⟨o, s'', e, q1, q2, q3⟩ := eBd_ok k s' l h2 [some (.ref 1), none, none, some (.int (0 + (a : Int)))] rfl
      exact ⟨_, _, _, rfl, e, gc_ls q2 (pure_bd o), ⟨s'', rfl, q1, q2.trans h3⟩, o, rfl, q3⟩) (List.range (v - 0).toNat) (s1.st l) ⟨s1, rfl, k1, a1⟩
  obtain ⟨h, rfl, hh⟩ := map_of p1
  obtain ⟨u, s3, e3, k3, b3, b3', a3⟩ := draw_ok (k+2) s2 (l ++ [.lst (h.map bdD)]) 4 k2 (by decide) (by decide)
  obtain ⟨ds, st', c2, ⟨s4, rfl, k4, a4⟩, n2, p2⟩ := loopC_ind (it := .fix (rangeL 0 (1 + u))) (G := .name 3) (fc := evc (run p.T (k+3)) .nil) (fe := ev (run p.T (k+3)) ePr) (ρ := [some (.ref 1), some (.ref (l.length + 2)), none, none]) (fun (j : Nat) => D.int (0 + (j : Int)))
    (fun st => ∃ s' : LS, st = s'.st (l ++ [.lst (h.map bdD)]) ∧ s'.Ok ∧ s'.A = s.A) (fun d => ∃ o, d = prD o ∧ prB o = true) (fun _ _ => by simp) (fun _ _ => rfl) (fun a st ⟨s', h1, h2, h3⟩ => by
      subst h1
      obtain ⟨o, s'', e, q1, q2, q3⟩ := ePr_ok k s' (l ++ [.lst (h.map bdD)]) h2 [some (.ref 1), some (.ref (l.length + 2)), none, some (.int (0 + (a : Int)))] rfl
      exact ⟨_, _, _, rfl, e, gc_ls q2 (pure_pr o), ⟨s'', rfl, q1, q2.trans h3⟩, o, rfl, q3⟩) (List.range (1 + u - 0).toNat) (s3.st (l ++ [.lst (h.map bdD)])) ⟨s3, rfl, k3, a3.trans a2⟩
  obtain ⟨t, rfl, ht⟩ := map_of p2
  simp at n1 n2
  have hf : Fo.Ok ⟨h, t⟩ := ⟨by show h.length ≤ 4000; omega, by show 1 ≤ t.length; omega, by show t.length ≤ 1000; omega, hh, ht⟩
  refine ⟨Fo.d ⟨h, t⟩, s4, ?_, k4, a4, ⟨h, t⟩, rfl, hf, by show h.length ≤ 6; omega, by show t.length ≤ 4; omega⟩
  rw [run_def t__law_text_form rfl]
  have r1 : rangeOk 0 v = true := by unfold rangeOk; exact decide_eq_true (by omega)
  have r2 : rangeOk 0 (1 + u) = true := by unfold rangeOk; exact decide_eq_true (by omega)
  have m1 : h.length ≤ LN := by show _ ≤ 16777216; omega
  have m2 : t.length ≤ LN := by show _ ≤ 16777216; omega
  have f1 : ev (run p.T (k+3)) (.lc [3] (.name 3) (.rng .nil (.call i__law_draw (.cons (.var 0) (.cons (.cst (.int 6)) .nil)))) .nil eBd) [some (.ref 1), none, none, none] (s.st l) = .ok (.ref (l.length + 2), s2.st (l ++ [.lst (h.map bdD)])) := by
    rw [ev_lc]
    simp [e1, r1, Itr.items, wipeR]
    have c1' : loopC (.fix (rangeL 0 v)) (.name 3) (evc (run p.T (k+3)) .nil) (ev (run p.T (k+3)) eBd) (rangeL 0 v) [some (.ref 1), none, none, none] (s1.st l) = .ok (h.map bdD, s2.st l) := c1
    rw [c1']
    simp [mkLst, m1]
  have f2 : ev (run p.T (k+3)) (.lc [3] (.name 3) (.rng .nil (.op .add (.cst (.int 1)) (.call i__law_draw (.cons (.var 0) (.cons (.cst (.int 4)) .nil))))) .nil ePr) [some (.ref 1), some (.ref (l.length + 2)), none, none] (s2.st (l ++ [.lst (h.map bdD)])) = .ok (.ref (l.length + 3), s4.st (l ++ [.lst (h.map bdD), .lst (t.map prD)])) := by
    rw [ev_lc]
    simp [e3, r2, Itr.items, wipeR]
    have c2' : loopC (.fix (rangeL 0 (1 + u))) (.name 3) (evc (run p.T (k+3)) .nil) (ev (run p.T (k+3)) ePr) (rangeL 0 (1 + u)) [some (.ref 1), some (.ref (l.length + 2)), none, none] (s3.st (l ++ [.lst (h.map bdD)])) = .ok (t.map prD, s4.st (l ++ [.lst (h.map bdD)])) := c2
    rw [c2']
    simp [mkLst, m2]
  have pb : pureDs (h.map bdD) = true := pureDs_map fun o _ => pure_bd o
  have pp : pureDs (t.map prD) = true := pureDs_map fun o _ => pure_pr o
  have g2 : gc (s2.st (l ++ [.lst (h.map bdD)])) (.ref (l.length + 3)) (s4.st (l ++ [.lst (h.map bdD), .lst (t.map prD)])) = (.ref (l.length + 3), s4.st (l ++ [.lst (h.map bdD), .lst (t.map prD)])) := by
    have := gc_lsR (s := s2) (s' := s4) (l := l) (a := [.lst (h.map bdD)]) (b := [.lst (h.map bdD), .lst (t.map prD)]) (k := 1) (a4.trans a2.symm) (by simp)
    simpa [pp] using this
  simp [b__law_text_form, startR, f1, f2, gc_lsN a2 pb, bindG, g2, bfD, mkTup, gc_lsA a4, pb, pp, Fo.d, foD]
end Pw.k61
end
section
set_option Elab.async false
set_option linter.all false
set_option maxRecDepth 100000
set_option maxHeartbeats 1000000
namespace Pw.k61
open PySem
abbrev eWh : IE := .sub (.lst (.cons (.cst (.non)) (.cons (.call i__law_long (.cons (.var 0) .nil)) .nil))) (.call i__law_draw (.cons (.var 0) (.cons (.cst (.int 2)) .nil)))
abbrev eDv : IE := .sub (.lst (.cons (.op .add (.cst (.int 1)) (.call i__law_draw (.cons (.var 0) (.cons (.cst (.int 1000)) .nil)))) (.cons (.cst (.int 1000)) .nil))) (.call i__law_draw (.cons (.var 0) (.cons (.cst (.int 2)) .nil)))
theorem eWh_ok (k : Nat) (s : LS) (l : Store) (hs : s.Ok) (ρ : Rho) (hρ : ρ[0]? = some (some (.ref 1))) : ∃ (o : Option Int) (s' : LS), ev (run p.T (k+3)) eWh ρ (s.st l) = .ok (bdD o, s'.st l) ∧ s'.Ok ∧ s'.A = s.A ∧ bdB o = true := by
  obtain ⟨d, s1, e1, k1, a1, i, rfl, hi⟩ := long_ok k s l hs
  obtain ⟨v, s2, e2, k2, b1, b2, a2⟩ := draw_ok (k+2) s1 (l ++ [.lst [.non, .int i]]) 2 k1 (by decide) (by decide)
  have : v = 0 ∨ v = 1 := by omega
  rcases this with rfl | rfl
  · exact ⟨none, s2, by simp [eWh, hρ, e1, e2, mkLst, subD, okD, atD0, gc_lsA (a2.trans a1), bdD], k2, a2.trans a1, rfl⟩
  · exact ⟨some i, s2, by simp [eWh, hρ, e1, e2, mkLst, subD, okD, atD1, gc_lsA (a2.trans a1), bdD], k2, a2.trans a1, hi⟩
theorem eDv_ok (k : Nat) (s : LS) (l : Store) (hs : s.Ok) (ρ : Rho) (hρ : ρ[0]? = some (some (.ref 1))) : ∃ (i : Int) (s' : LS), ev (run p.T (k+3)) eDv ρ (s.st l) = .ok (.int i, s'.st l) ∧ s'.Ok ∧ s'.A = s.A ∧ 1 ≤ i ∧ i ≤ 1000 := by
  obtain ⟨i, s1, e1, k1, c1, c2, a1⟩ := draw_ok (k+2) s l 1000 hs (by decide) (by decide)
  obtain ⟨v, s2, e2, k2, b1, b2, a2⟩ := draw_ok (k+2) s1 (l ++ [.lst [.int (1 + i), .int 1000]]) 2 k1 (by decide) (by decide)
  have : v = 0 ∨ v = 1 := by omega
  rcases this with rfl | rfl
  · exact ⟨1 + i, s2, by simp [eDv, hρ, e1, e2, mkLst, subD, okD, atD0, gc_lsA (a2.trans a1)], k2, a2.trans a1, by omega, by omega⟩
  · exact ⟨1000, s2, by simp [eDv, hρ, e1, e2, mkLst, subD, okD, atD1, gc_lsA (a2.trans a1)], k2, a2.trans a1, by omega, by omega⟩
def leafRet : IS := seqL (seqR (seqR (match seqL (seqR b__law_text_row) with | .ifs _ a _ => a | x => x)))
theorem leaf_ret (k : Nat) (s : LS) (l : Store) (hs : s.Ok) (kind : Int) (hk : 0 ≤ kind) (r : Nat) (vs : List D) (fv : Fm) (hv : listAt (s.st l) r = some vs) (hv2 : ∀ s' : LS, s'.A = s.A → listAt (s'.st l) r = some vs) (hpv : pureDs vs = true) (hfv : D.tup [.str wFew, .tup vs] = fv.d) (hfo : fv.Ok) (hf1 : fv.size = 1) (hf0 : fv.ht = 0) (o1 o4 o5 : Option D) :
    ∃ (f : Fm) (s' : LS), ex (run p.T (k+5)) leafRet [some (.ref 1), o1, some (.int kind), some (.ref r), o4, o5] (s.st l) = .ok (.ret f.d, [some (.ref 1), o1, some (.int kind), some (.ref r), o4, o5], s'.st l) ∧ s'.Ok ∧ s'.A = s.A ∧ f.Ok ∧ f.size = 1 ∧ f.ht = 0 := by
  obtain ⟨d, s1, e1, k1, a1, fo, rfl, fok, _, _⟩ := text_form_ok (k+1) s l hs
  obtain ⟨d, s2, e2, k2, a2, x, rfl, hx⟩ := name_ok (k+3) s1 l k1
  have hv3 := hv2 s2 (a2.trans a1)
  have A := a2.trans a1
  have pf : pureD fo.d = true := pure_fo _ _
  have h3 : kind.fmod 3 = 0 ∨ kind.fmod 3 = 1 ∨ kind.fmod 3 = 2 := by
    have := Int.fmod_nonneg_of_pos kind (show (0 : Int) < 3 by decide)
    have := Int.fmod_lt_of_pos kind (show (0 : Int) < 3 by decide)
    omega
  rcases h3 with h3 | h3 | h3
  · exact ⟨.form fo, s2, by simp [leafRet, seqL, seqR, b__law_text_row, e1, e2, mkTup, mkLst, bfD, hv3, subD, okD, h3, atD0, gc_lsA A, gc_ls A, pf, hpv, Fm.d], k2, A, fok, rfl, rfl⟩
  · exact ⟨.name x, s2, by simp [leafRet, seqL, seqR, b__law_text_row, e1, e2, mkTup, mkLst, bfD, hv3, subD, okD, h3, atD1, gc_lsA A, gc_ls A, pf, hpv, Fm.d], k2, A, hx, rfl, rfl⟩
  · exact ⟨fv, s2, by rw [← hfv]; simp [leafRet, seqL, seqR, b__law_text_row, e1, e2, mkTup, mkLst, bfD, hv3, subD, okD, h3, atD2, gc_lsA A, gc_ls A, pf, hpv], k2, A, hfo, hf1, hf0⟩
end Pw.k61
end
section
set_option Elab.async false
set_option linter.all false
set_option maxRecDepth 100000
set_option maxHeartbeats 1000000
namespace Pw.k61
open PySem
def leafBlock : IS := match seqL (seqR b__law_text_row) with
  | .ifs _ a _ => a
  | x => x
def leafCond : IE := match seqL (seqR b__law_text_row) with
  | .ifs t _ _ => t
  | _ => .nil
theorem sp2 : seqL (seqR b__law_text_row) = .ifs leafCond leafBlock .nil := rfl
theorem sp3 : leafBlock = .seq (seqL leafBlock) (.seq (seqL (seqR leafBlock)) (.seq leafRet .nil)) := rfl
theorem leaf_block (k : Nat) (s : LS) (l : Store) (hs : s.Ok) (kind depth : Int) (hk : 0 ≤ kind) (o4 o5 : Option D) :
    ∃ (f : Fm) (s' : LS) (ρ' : Rho) (m : Store), ex (run p.T (k+5)) leafBlock [some (.ref 1), some (.int depth), some (.int kind), none, o4, o5] (s.st l) = .ok (.ret f.d, ρ', s'.st (l ++ m)) ∧ s'.Ok ∧ s'.A = s.A ∧ f.Ok ∧ f.size = 1 ∧ f.ht = 0 := by
  obtain ⟨v1, s1, e1, k1, b1, b1', a1⟩ := draw_ok (k+4) s l 1000 hs (by decide) (by decide)
  obtain ⟨v2, s2, e2, k2, b2, b2', a2⟩ := draw_ok (k+4) s1 l 3 k1 (by decide) (by decide)
  have A := a2.trans a1
  obtain ⟨a, b, hab, ha, hb, hsrt⟩ : ∃ a b : Int, a ≤ b ∧ 1 ≤ a ∧ b ≤ 1000 ∧ sortI [1 + v1, 1000 - v2] = [a, b] := by
    by_cases h : 1000 - v2 < 1 + v1
    · exact ⟨1000 - v2, 1 + v1, by omega, by omega, by omega, by simp [sortG, insG, h]⟩
    · exact ⟨1 + v1, 1000 - v2, by omega, by omega, by omega, by simp [sortG, insG, h]⟩
  have LA : ex (run p.T (k+5)) (seqL leafBlock) [some (.ref 1), some (.int depth), some (.int kind), none, o4, o5] (s.st l) = .ok (.nx, [some (.ref 1), some (.int depth), some (.int kind), some (.ref (l.length + 2)), o4, o5], s2.st (l ++ [.lst [.int a, .int b]])) := by
    have g1 : gc (s.st l) (.ref (l.length + 3)) (s2.st (l ++ [.lst [.int (1 + v1), .int (1000 - v2)], .lst [.int a, .int b]])) = (.ref (l.length + 2), s2.st (l ++ [.lst [.int a, .int b]])) := by
      have := gc_lsR0 (s := s) (s' := s2) (l := l) (b := [.lst [.int (1 + v1), .int (1000 - v2)], .lst [.int a, .int b]]) (k := 1) A
      simpa using this
    have g2 : gc (s.st l) (.ref (l.length + 2)) (s2.st (l ++ [.lst [.int a, .int b]])) = (.ref (l.length + 2), s2.st (l ++ [.lst [.int a, .int b]])) := gc_lsN A (by simp)
    have srt : bfD .sorted (.ref (l.length + 2)) (s2.st (l ++ [.lst [.int (1 + v1), .int (1000 - v2)]])) = .ok (.ref (l.length + 3), s2.st (l ++ [.lst [.int (1 + v1), .int (1000 - v2)], .lst [.int a, .int b]])) := by
      have hint : intsD [.int (1 + v1), .int (1000 - v2)] = some [1 + v1, 1000 - v2] := rfl
      simp only [bfD, lstD, listAt_st0, listAt_cons_0, hint, hsrt]
      simp
    simp [seqL, leafBlock, seqR, b__law_text_row, e1, e2, mkLst, srt, g1, g2, bindG]
  have hat : ∀ s' : LS, listAt (s'.st (l ++ [.lst [.int a, .int b]])) (l.length + 2) = some [.int a, .int b] := fun s' => by simp
  by_cases hEq : a = b
  · subst hEq
    have LB : ex (run p.T (k+5)) (seqL (seqR leafBlock)) [some (.ref 1), some (.int depth), some (.int kind), some (.ref (l.length + 2)), o4, o5] (s2.st (l ++ [.lst [.int a, .int a]])) = .ok (.nx, [some (.ref 1), some (.int depth), some (.int kind), some (.ref (l.length + 3)), o4, o5], s2.st (l ++ [.lst [.int a, .int a], .lst [.int a]])) := by
      have g1 : gc (s2.st (l ++ [.lst [.int a, .int a]])) (.ref (l.length + 3)) (s2.st (l ++ [.lst [.int a, .int a], .lst [.int a]])) = (.ref (l.length + 3), s2.st (l ++ [.lst [.int a, .int a], .lst [.int a]])) := by
        have := gc_lsR (s := s2) (s' := s2) (l := l) (a := [.lst [.int a, .int a]]) (b := [.lst [.int a, .int a], .lst [.int a]]) (k := 1) rfl (by simp)
        simpa using this
      have hc : cutL [D.int a, D.int a] none (some 1) = [.int a] := rfl
      simp [seqL, leafBlock, seqR, b__law_text_row, subD, okD, atD0, atD1, cutD, hc, g1, bindG]
    obtain ⟨f, s', e, q1, q2, q3, q4, q5⟩ := leaf_ret k s2 (l ++ [.lst [.int a, .int a], .lst [.int a]]) k2 kind hk (l.length + 3) [.int a] (.few1 a) (listAt_stk (k := 1)) (fun s' _ => listAt_stk (k := 1)) (by simp) rfl ⟨ha, by omega⟩ rfl rfl (some (.int depth)) o4 o5
    refine ⟨f, s', [some (.ref 1), some (.int depth), some (.int kind), some (.ref (l.length + 3)), o4, o5], [.lst [.int a, .int a], .lst [.int a]], ?_, q1, q2.trans A, q3, q4, q5⟩
    rw [sp3, ex_seq, LA]
    dsimp only [Res.bind_ok]
    rw [ex_seq, LB]
    dsimp only [Res.bind_ok]
    rw [ex_seq, e]
    rfl
  · have LB : ex (run p.T (k+5)) (seqL (seqR leafBlock)) [some (.ref 1), some (.int depth), some (.int kind), some (.ref (l.length + 2)), o4, o5] (s2.st (l ++ [.lst [.int a, .int b]])) = .ok (.nx, [some (.ref 1), some (.int depth), some (.int kind), some (.ref (l.length + 2)), o4, o5], s2.st (l ++ [.lst [.int a, .int b]])) := by
      simp [seqL, leafBlock, seqR, b__law_text_row, subD, okD, atD0, atD1, hEq]
    obtain ⟨f, s', e, q1, q2, q3, q4, q5⟩ := leaf_ret k s2 (l ++ [.lst [.int a, .int b]]) k2 kind hk (l.length + 2) [.int a, .int b] (.few2 a b) (hat _) (fun s' _ => hat s') (by simp) rfl ⟨ha, by omega, hb⟩ rfl rfl (some (.int depth)) o4 o5
    refine ⟨f, s', [some (.ref 1), some (.int depth), some (.int kind), some (.ref (l.length + 2)), o4, o5], [.lst [.int a, .int b]], ?_, q1, q2.trans A, q3, q4, q5⟩
    rw [sp3, ex_seq, LA]
    dsimp only [Res.bind_ok]
    rw [ex_seq, LB]
    dsimp only [Res.bind_ok]
    rw [ex_seq, e]
    rfl
/-- what a row that is drawn is -/
def RowP (n : Nat) (d : D) : Prop := ∃ f : Fm, d = f.d ∧ f.Ok ∧ f.size + 1 ≤ 2 ^ (n + 1) ∧ f.ht ≤ n
theorem row_leaf (k n : Nat) (s : LS) (l : Store) (hs : s.Ok) (depth : Int) (s1 : LS) (kind : Int) (e1 : run p.T (k+5) i__law_draw [.ref 1, .int 15] (s.st l) = .ok (.int kind, s1.st l)) (k1 : s1.Ok) (a1 : s1.A = s.A) (hk : 0 ≤ kind) (hc : depth = 0 ∨ kind < 3) :
    ∃ (d : D) (s' : LS), run p.T (k+6) i__law_text_row [.ref 1, .int depth] (s.st l) = .ok (d, s'.st l) ∧ s'.Ok ∧ s'.A = s.A ∧ RowP n d := by
  obtain ⟨f, s', ρ', m, e, q1, q2, q3, q4, q5⟩ := leaf_block k s1 l k1 kind depth hk none none
  refine ⟨f.d, s', ?_, q1, q2.trans a1, f, rfl, q3, by rw [q4]; have := Nat.one_le_two_pow (n := n); rw [Nat.pow_succ]; omega, by omega⟩
  have cnd : evt (run p.T (k+5)) leafCond [some (.ref 1), some (.int depth), some (.int kind), none, none, none] (s1.st l) = .ok (true, s1.st l) := by
    by_cases h0 : depth = 0
    · simp [leafCond, seqL, seqR, b__law_text_row, h0]
    · have h3 : kind < 3 := by omega
      simp [leafCond, seqL, seqR, b__law_text_row, h0, h3]
  have S1 : ex (run p.T (k+5)) (seqL b__law_text_row) [some (.ref 1), some (.int depth), none, none, none, none] (s.st l) = .ok (.nx, [some (.ref 1), some (.int depth), some (.int kind), none, none, none], s1.st l) := by
    simp [seqL, b__law_text_row, e1, gc_ls a1, bindG]
  rw [run_def t__law_text_row rfl]
  show outR (s.st l) (ex (run p.T (k+5)) (.seq (seqL b__law_text_row) (.seq (seqL (seqR b__law_text_row)) (seqR (seqR b__law_text_row)))) [some (.ref 1), some (.int depth), none, none, none, none] (s.st l)) = _
  rw [ex_seq, S1]
  dsimp only [Res.bind_ok]
  rw [ex_seq, sp2, ex_ifs, cnd]
  dsimp only [Res.bind_ok]
  rw [if_pos rfl, e]
  dsimp only [Res.bind_ok]
  rw [outR_ret, gc_lsA (q2.trans a1) f.pure]
end Pw.k61
end
section
set_option Elab.async false
set_option linter.all false
set_option maxRecDepth 100000
set_option maxHeartbeats 1000000
namespace Pw.k61
open PySem
theorem pair_at {v : Int} (h0 : 8 ≤ v) (h1 : v < 15) : ∃ w, w ∈ pairsL ∧ atD ([.str [115, 117, 109], .str [100, 105, 102, 102, 101, 114, 101, 110, 99, 101], .str [108, 101, 115, 115, 101, 114], .str [103, 114, 101, 97, 116, 101, 114], .str [111, 116, 104, 101, 114, 119, 105, 115, 101], .str [97, 102, 116, 101, 114], .str [115, 112, 108, 105, 116]] : List D) (v - 8) = some (.str w) := by
  have : v = 8 ∨ v = 9 ∨ v = 10 ∨ v = 11 ∨ v = 12 ∨ v = 13 ∨ v = 14 := by omega
  rcases this with rfl | rfl | rfl | rfl | rfl | rfl | rfl <;> exact ⟨_, by decide, rfl⟩
theorem rowP_one {n : Nat} {f : Fm} {w : List Nat} {ns : List (Option Int)} (h : OneOk w ns) (hf : f.Ok) (h1 : f.size + 1 ≤ 2 ^ (n + 1)) (h2 : f.ht ≤ n) : RowP (n + 1) (Fm.one w f ns).d :=
  ⟨_, rfl, ⟨h, hf⟩, by show f.size + 1 + 1 ≤ _; rw [Nat.pow_succ]; omega, by show f.ht + 1 ≤ n + 1; omega⟩
theorem row_step (k n : Nat) (ih : Gives i__law_text_row (k+5) [.ref 1, .int n] (RowP n)) (s : LS) (l : Store) (hs : s.Ok) (s1 : LS) (kind : Int) (e1 : run p.T (k+5) i__law_draw [.ref 1, .int 15] (s.st l) = .ok (.int kind, s1.st l)) (k1 : s1.Ok) (a1 : s1.A = s.A) (hk : 3 ≤ kind) (hk2 : kind < 15) :
    ∃ (d : D) (s' : LS), run p.T (k+6) i__law_text_row [.ref 1, .int ((n : Int) + 1)] (s.st l) = .ok (d, s'.st l) ∧ s'.Ok ∧ s'.A = s.A ∧ RowP (n + 1) d := by
  obtain ⟨d, s2, e2, k2, a2, f, rfl, hf, hz, hh⟩ := ih s1 l k1
  have A2 := a2.trans a1
  have hd : ¬ ((n : Int) + 1 = 0) := by omega
  have h3 : ¬ (kind < 3) := by omega
  have pf := f.pure
  by_cases q3 : kind = 3
  · obtain ⟨d, s3, e3, k3, a3, i, rfl, hi⟩ := long_ok (k+2) s2 l k2
    refine ⟨_, s3, ?_, k3, a3.trans A2, rowP_one (w := wTimes) (ns := [some i]) (.inr (.inl ⟨rfl, i, rfl, hi⟩)) hf hz hh⟩
    rw [run_def t__law_text_row rfl]
    simp [b__law_text_row, startR, e1, e2, e3, gc_ls a1, gc_ls a2, gc_ls a3, gc_ls (a3.trans A2), bindG, hd, q3, mkTup, pf, Fm.d, bdD]
  · by_cases q4 : kind = 4
    · obtain ⟨i, s3, e3, k3, a3, i1, i2⟩ := eDv_ok (k+2) s2 l k2 [some (.ref 1), some (.int ((n : Int) + 1)), some (.int 4), none, some f.d, none] rfl
      refine ⟨_, s3, ?_, k3, a3.trans A2, rowP_one (w := wDiv) (ns := [some i]) (.inr (.inr (.inr (.inl ⟨rfl, i, rfl, i1, i2⟩)))) hf hz hh⟩
      rw [run_def t__law_text_row rfl]
      have t : ev (run p.T (k+5)) (.tup (.cons (.cst (.str wDiv)) (.cons (.var 4) (.cons eDv .nil)))) [some (.ref 1), some (.int ((n : Int) + 1)), some (.int 4), none, some f.d, none] (s2.st l) = .ok (.tup [.str wDiv, f.d, .int i], s3.st l) := by
        rw [ev_tup, evs_cons, ev_cst]
        dsimp only [Res.bind_ok]
        rw [evs_cons, ev_var]
        dsimp only [Res.bind_ok, List.getElem?_cons_succ, List.getElem?_cons_zero]
        rw [evs_cons, e3]
        rfl
      simp [b__law_text_row, startR, e1, e2, t, gc_ls a1, gc_ls a2, gc_ls a3, gc_ls (a3.trans A2), bindG, hd, q4, pf, Fm.d, bdD, -ev_tup]
    · by_cases q5 : kind = 5
      · obtain ⟨o, s3, e3, k3, a3, i1⟩ := eWh_ok (k+2) s2 l k2 [some (.ref 1), some (.int ((n : Int) + 1)), some (.int 5), none, some f.d, none] rfl
        obtain ⟨o', s4, e4, k4, a4, i2⟩ := eWh_ok (k+2) s3 l k3 [some (.ref 1), some (.int ((n : Int) + 1)), some (.int 5), none, some f.d, none] rfl
        have A4 := a4.trans (a3.trans A2)
        refine ⟨_, s4, ?_, k4, A4, rowP_one (w := wWhere) (ns := [o, o']) (.inr (.inr (.inr (.inr ⟨rfl, o, o', rfl, i1, i2⟩)))) hf hz hh⟩
        rw [run_def t__law_text_row rfl]
        have t : ev (run p.T (k+5)) (.tup (.cons (.cst (.str wWhere)) (.cons (.var 4) (.cons eWh (.cons eWh .nil))))) [some (.ref 1), some (.int ((n : Int) + 1)), some (.int 5), none, some f.d, none] (s2.st l) = .ok (.tup [.str wWhere, f.d, bdD o, bdD o'], s4.st l) := by
          rw [ev_tup, evs_cons, ev_cst]
          dsimp only [Res.bind_ok]
          rw [evs_cons, ev_var]
          dsimp only [Res.bind_ok, List.getElem?_cons_succ, List.getElem?_cons_zero]
          rw [evs_cons, e3]
          dsimp only [Res.bind_ok]
          rw [evs_cons, e4]
          rfl
        simp [b__law_text_row, startR, e1, e2, t, gc_ls a1, gc_ls a2, gc_ls (a4.trans a3), gc_ls A4, bindG, hd, q5, pf, Fm.d, pure_bd, -ev_tup]
      · by_cases q6 : kind = 6
        · obtain ⟨d, s3, e3, k3, a3, i, rfl, hi⟩ := long_ok (k+2) s2 l k2
          refine ⟨_, s3, ?_, k3, a3.trans A2, rowP_one (w := wMoved) (ns := [some i]) (.inr (.inr (.inl ⟨rfl, i, rfl, hi⟩))) hf hz hh⟩
          rw [run_def t__law_text_row rfl]
          simp [b__law_text_row, startR, e1, e2, e3, gc_ls a1, gc_ls a2, gc_ls a3, gc_ls (a3.trans A2), bindG, hd, q6, mkTup, pf, Fm.d, bdD]
        · by_cases q7 : kind = 7
          · refine ⟨_, s2, ?_, k2, A2, rowP_one (w := wFrom) (ns := []) (.inl ⟨rfl, rfl⟩) hf hz hh⟩
            rw [run_def t__law_text_row rfl]
            simp [b__law_text_row, startR, e1, e2, gc_ls a1, gc_ls a2, gc_ls A2, bindG, hd, q7, mkTup, pf, Fm.d, bdD]
          · obtain ⟨w, hw, hat⟩ := pair_at (v := kind) (by omega) hk2
            obtain ⟨d, s3, e3, k3, a3, f2, rfl, hf2, hz2, hh2⟩ := ih s2 l k2
            refine ⟨(Fm.two w f f2).d, s3, ?_, k3, a3.trans A2, _, rfl, ⟨hw, hf, hf2⟩, by show f.size + f2.size + 1 + 1 ≤ _; rw [Nat.pow_succ]; omega, by show max f.ht f2.ht + 1 ≤ n + 1; omega⟩
            have pf2 := f2.pure
            rw [run_def t__law_text_row rfl]
            simp [b__law_text_row, startR, e1, e2, e3, gc_ls a1, gc_ls a2, gc_ls a3, gc_ls (a3.trans A2), gc_lsA (s := s2) (s' := s2) rfl, bindG, hd, h3, q3, q4, q5, q6, q7, mkTup, mkLst, subD, okD, hat, pf, pf2, Fm.d]
theorem text_row_ok : ∀ (n k : Nat), Gives i__law_text_row (k + n + 6) [.ref 1, .int n] (RowP n)
  | 0, k => by
    intro s l hs
    obtain ⟨v, s1, e1, k1, b1, b2, a1⟩ := draw_ok (k+4) s l 15 hs (by decide) (by decide)
    exact row_leaf k 0 s l hs 0 s1 v e1 k1 a1 b1 (.inl rfl)
  | n + 1, k => by
    intro s l hs
    obtain ⟨v, s1, e1, k1, b1, b2, a1⟩ := draw_ok (k+n+5) s l 15 hs (by decide) (by decide)
    by_cases h : v < 3
    · exact row_leaf (k+n+1) (n+1) s l hs ((n + 1 : Nat) : Int) s1 v e1 k1 a1 b1 (.inr h)
    · have ih := text_row_ok n k
      have := row_step (k+n+1) n ih s l hs s1 v e1 k1 a1 (by omega) b2
      exact this
end Pw.k61
end
section
set_option Elab.async false
set_option linter.all false
set_option maxRecDepth 100000
set_option maxHeartbeats 1000000
namespace Pw.k61
open PySem
def nth : Nat → IS → IS
  | 0, .seq a _ => a
  | n + 1, .seq _ r => nth n r
  | _, x => x
section
variable {s s' : LS} {b : Store} {d : D}
theorem gc_s0 (hA : s'.A = s.A) (hd : pureD d = true) : gc (s.st []) d (s'.st b) = (d, s'.st []) := by
  have := gc_lsA (s := s) (s' := s') (l := []) (b := b) hA hd
  simpa using this
end
noncomputable abbrev C60 : Callee := run p.T 60
theorem law_0 (ns : List Int) : ex C60 (nth 0 b_law) [some (.frz (ns.map .int)), none, none, none, none, none, none, none, none, none, none] [] = .ok (.nx, [some (.frz (ns.map .int)), some (.ref 1), none, none, none, none, none, none, none, none, none], (LS.mk ns 0 0 0 false).st []) := by
  have e : run p.T 60 i__law_state [.frz (ns.map .int)] [] = .ok (.ref 1, (LS.mk ns 0 0 0 false).st []) := by
    have hb : bnd.bnds 0 (ns.map D.int) = true := bnds_pure (pureDs_map fun _ _ => by simp)
    rw [show (60 : Nat) = 59 + 1 from rfl, run_def t__law_state rfl]
    simp [b__law_state, startR, hb, bfD, seqD, mkLst, LS.st, gc, bnd, bndC, bnds, bnd.bnds]
  have g : gc [] (.ref 1) ((LS.mk ns 0 0 0 false).st []) = (.ref 1, (LS.mk ns 0 0 0 false).st []) := by
    simp [LS.st, gc, bnd, bndC, bnds, bnd.bnds]
  simp [nth, b_law, C60, e, g, bindG]
theorem law_1 (s : LS) (hs : s.Ok) (o0 : Option D) : ∃ (f : Fo) (s' : LS), ex C60 (nth 1 b_law) [o0, some (.ref 1), none, none, none, none, none, none, none, none, none] (s.st []) = .ok (.nx, [o0, some (.ref 1), some f.d, none, none, none, none, none, none, none, none], s'.st []) ∧ s'.Ok ∧ s'.A = s.A ∧ f.Ok := by
  obtain ⟨d, s1, e, k1, a1, f, rfl, hf, _, _⟩ := text_form_ok 56 s [] hs
  have pf : pureD f.d = true := pure_fo _ _
  exact ⟨f, s1, by simp [nth, b_law, C60, e, gc_ls a1 pf, bindG], k1, a1, hf⟩
theorem law_2 (s : LS) (f : Fo) (hf : f.Ok) (o0 : Option D) : ex C60 (nth 2 b_law) [o0, some (.ref 1), some f.d, none, none, none, none, none, none, none, none] (s.st []) = .ok (.nx, [o0, some (.ref 1), some f.d, some (.str (textOf wForm f.ls)), none, none, none, none, none, none, none], s.st []) := by
  have e1 := law_form_lines_ok (s.st []) 58 f hf
  have e2 := law_text_ok (s.st [] ++ [.lst (f.ls.map .str)]) 59 wForm f.ls (by decide) hf.ll (by simp [Fo.ls]) (s.st []).length (listAt_0 _ _)
  simp at e1 e2
  simp [nth, b_law, C60, e1, e2, gc_s0 (s := s) (s' := s) rfl, bindG]
theorem law_3 (s : LS) (f : Fo) (hf : f.Ok) (o0 : Option D) : ex C60 (nth 3 b_law) [o0, some (.ref 1), some f.d, some (.str (textOf wForm f.ls)), none, none, none, none, none, none, none] (s.st []) = .ok (.nx, [o0, some (.ref 1), some f.d, some (.str (textOf wForm f.ls)), none, none, none, none, none, none, none], s.st []) := by
  have e1 := form_holds (s.st []) 54 f hf
  have e2 := parse_form_ok 55 (s.st []) f hf
  have e3 := law_ints_ok (s.st []) 59 f
  simp [nth, b_law, C60, e1, e2, e3]
theorem subD_tup (ds : List D) (i : Int) (st : Store) : subD (.tup ds) (.int i) st = okD (atD ds i) st := rfl
/-- a long form -/
theorem law_4 (s : LS) (hs : s.Ok) (f : Fo) (hf : f.Ok) (o0 o3 : Option D) : ∃ (o4 : Option D) (s' : LS), ex C60 (nth 4 b_law) [o0, some (.ref 1), some f.d, o3, none, none, none, none, none, none, none] (s.st []) = .ok (.nx, [o0, some (.ref 1), some f.d, o3, o4, none, none, none, none, none, none], s'.st []) ∧ s'.Ok ∧ s'.A = s.A := by
  obtain ⟨h, t⟩ := f
  obtain ⟨v, s1, e1, k1, b1, b1', a1⟩ := draw_ok 59 s [] 9 hs (by decide) (by decide)
  by_cases hv : v = 0
  · obtain ⟨v2, s2, e2, k2, b2, b2', a2⟩ := draw_ok 59 s1 [] 3 k1 (by decide) (by decide)
    obtain ⟨v3, s3, e3, k3, b3, b3', a3⟩ := draw_ok 59 s2 [] 3 k2 (by decide) (by decide)
    have A := a3.trans (a2.trans a1)
    cases t with
    | nil => have := hf.t1; simp at this
    | cons o t =>
      let b : Option Int := o.map (·.1)
      have hb : bdB b = true := by
        have := hf.tb o List.mem_cons_self
        cases o with
        | none => rfl
        | some q => exact (Bool.and_eq_true_iff.mp (show (numB q.1 && numB q.2) = true from this)).1
      let L : Fo := ⟨List.replicate (3998 + v2).toNat b, List.replicate (998 + v3).toNat o⟩
      have hL : L.Ok := ⟨by simp [L]; omega, by simp [L]; omega, by simp [L]; omega, fun x hx => by rw [List.eq_of_mem_replicate hx]; exact hb, fun x hx => by rw [List.eq_of_mem_replicate hx]; exact hf.tb o List.mem_cons_self⟩
      have hat : atD (match prD o with | .tup ds => ds | _ => []) 0 = some (bdD b) := by cases o <;> simp [prD, b, bdD, atD0]
      have e4 := form_holds (s3.st []) 54 L hL
      have dL : L.d = .tup [.tup (List.replicate (3998 + v2).toNat [bdD b]).flatten, .tup (List.replicate (998 + v3).toNat [prD o]).flatten] := by
        simp [L, Fo.d, foD]
      have c1 : (2 : Int) ≤ 3998 + v2 ∧ 3998 + v2 ≤ 1000000 := by omega
      have c2 : (2 : Int) ≤ 998 + v3 ∧ 998 + v3 ≤ 1000000 := by omega
      have c3 : (3998 + v2).toNat ≤ 1000000 := by omega
      have c4 : (998 + v3).toNat ≤ 1000000 := by omega
      have n1 : (3998 + v2).toNat ≤ LN := by show _ ≤ 16777216; omega
      have n2 : (998 + v3).toNat ≤ LN := by show _ ≤ 16777216; omega
      have mul1 : ∀ st : Store, op2 .mul (.tup [bdD b]) (.int (3998 + v2)) st = .ok (.tup (List.replicate (3998 + v2).toNat [bdD b]).flatten, st) := fun st => by
        simp [op2, mkTup, c1, c3, n1]
      have mul2 : ∀ st : Store, op2 .mul (.tup [prD o]) (.int (998 + v3)) st = .ok (.tup (List.replicate (998 + v3).toNat [prD o]).flatten, st) := fun st => by
        simp [op2, mkTup, c2, c4, n2]
      have pr : ∀ st : Store, subD (prD o) (.int 0) st = .ok (bdD b, st) := fun st => by
        cases o <;> simp [prD, subD, okD, atD0, b, bdD]
      have g : ∀ x : Store, gc (s1.st []) L.d (s3.st x) = (L.d, s3.st []) := fun x => gc_s0 (a3.trans a2) (pure_fo _ _)
      rw [dL] at e4 g
      refine ⟨some (.tup [.tup (List.replicate (3998 + v2).toNat [bdD b]).flatten, .tup (List.replicate (998 + v3).toNat [prD o]).flatten]), s3, ?_, k3, A⟩
      have hc : cutL (prD o :: t.map prD) none (some 1) = [prD o] := cut01 _ _
      have la : ∀ (s : LS) (x : Cell), listAt (s.st [x]) 2 = listAt [x] 0 := fun _ _ => rfl
      have l2 : ∀ (s : LS) (x : Cell), s.st [] ++ [x] = s.st [x] := fun _ _ => rfl
      have g0 := g []
      simp at e4 g0
      simp [nth, b_law, C60, e1, e2, e3, gc_ls a1, hv, mkLst, bfD, Fo.d, foD, subD_tup, okD, atD0, atD1, cutD, hc, pr, la, gc_s0 (s := s1) (s' := s1) rfl, mkTup, pure_bd, mul1, mul2, e4, g0, bindG]
  · exact ⟨none, s1, by simp [nth, b_law, C60, e1, gc_ls a1, hv], k1, a1⟩
end Pw.k61
end
section
set_option Elab.async false
set_option linter.all false
set_option maxRecDepth 100000
set_option maxHeartbeats 1000000
namespace Pw.k61
open PySem
abbrev wSum : List Nat := [115, 117, 109]
abbrev wSplit : List Nat := [115, 112, 108, 105, 116]
abbrev wLesser : List Nat := [108, 101, 115, 115, 101, 114]
abbrev wAfter : List Nat := [97, 102, 116, 101, 114]
/-- the slots -/
abbrev slots (o0 o2 o3 o4 o5 o6 o7 o8 o9 o10 : Option D) : Rho := [o0, some (.ref 1), o2, o3, o4, o5, o6, o7, o8, o9, o10]
section
variable (o0 o2 o3 o4 o5 o6 o7 o8 o9 o10 : Option D)
theorem law_5 (s : LS) (hs : s.Ok) : ∃ (f : Fm) (s' : LS), ex C60 (nth 5 b_law) (slots o0 o2 o3 o4 none o6 o7 o8 o9 o10) (s.st []) = .ok (.nx, slots o0 o2 o3 o4 (some f.d) o6 o7 o8 o9 o10, s'.st []) ∧ s'.Ok ∧ s'.A = s.A ∧ f.Ok ∧ f.size ≤ 15 ∧ f.ht ≤ 3 := by
  obtain ⟨v, s1, e1, k1, b1, b1', a1⟩ := draw_ok 59 s [] 4 hs (by decide) (by decide)
  obtain ⟨n, rfl⟩ := Int.eq_ofNat_of_zero_le b1
  have hn : n ≤ 3 := by omega
  have hk : 54 - n + n + 6 = 60 := by omega
  obtain ⟨d, s2, e2, k2, a2, f, rfl, hf, hz, hh⟩ := text_row_ok n (54 - n) s1 [] k1
  rw [hk] at e2
  have hp : 2 ^ (n + 1) ≤ 2 ^ 4 := Nat.pow_le_pow_right (by decide) (by omega)
  have A := a2.trans a1
  refine ⟨f, s2, ?_, k2, A, hf, by omega, by omega⟩
  simp [nth, b_law, C60, slots, e1, e2, gc_ls A f.pure, bindG]
theorem law_6 (s : LS) (f : Fm) (hf : f.Ok) (h1 : f.size ≤ 40) (h2 : f.ht ≤ 9) : ex C60 (nth 6 b_law) (slots o0 o2 o3 o4 (some f.d) o6 o7 o8 o9 o10) (s.st []) = .ok (.nx, slots o0 o2 o3 o4 (some f.d) o6 o7 o8 o9 o10, s.st []) := by
  have e := formula_holds (s.st []) f 60 hf h1 h2 (by decide)
  simp [nth, b_law, C60, slots, e]
theorem law_7 (s : LS) (hs : s.Ok) : ∃ (x : List Nat) (s' : LS), ex C60 (nth 7 b_law) (slots o0 o2 o3 o4 o5 none o7 o8 o9 o10) (s.st []) = .ok (.nx, slots o0 o2 o3 o4 o5 (some (Fm.name x).d) o7 o8 o9 o10, s'.st []) ∧ s'.Ok ∧ s'.A = s.A ∧ (Fm.name x).Ok := by
  obtain ⟨d, s1, e1, k1, a1, x, rfl, hx⟩ := name_ok 58 s [] hs
  refine ⟨x, s1, ?_, k1, a1, hx⟩
  simp [nth, b_law, C60, slots, e1, mkTup, gc_ls a1, bindG, Fm.d]
theorem law_8 (s : LS) (hs : s.Ok) : ∃ (f : Fm) (s' : LS), ex C60 (nth 8 b_law) (slots o0 o2 o3 o4 o5 o6 none o8 o9 o10) (s.st []) = .ok (.nx, slots o0 o2 o3 o4 o5 o6 (some f.d) o8 o9 o10, s'.st []) ∧ s'.Ok ∧ s'.A = s.A ∧ f.Ok ∧ f.size ≤ 1 ∧ f.ht = 0 := by
  obtain ⟨d, s1, e1, k1, a1, f, rfl, hf, hz, hh⟩ := text_row_ok 0 54 s [] hs
  simp at hz hh e1
  refine ⟨f, s1, ?_, k1, a1, hf, by omega, hh⟩
  simp [nth, b_law, C60, slots, e1, gc_ls a1 f.pure, bindG]
end
end Pw.k61
end
section
set_option Elab.async false
set_option linter.all false
set_option maxRecDepth 100000
set_option maxHeartbeats 1000000
namespace Pw.k61
open PySem
section
variable (o0 o2 o3 o4 o5 o6 o7 o8 o9 o10 : Option D)
def forBody : IS → IS
  | .fors _ _ b => b
  | x => x
variable {s s'' : LS} {g : Fm} {x : List Nat} (p8 : Option D)
theorem lA9 (s : LS) (c : Cell) : listAt (s.st [c]) 2 = listAt [c] 0 := by unfold LS.st; rfl
abbrev wrp (g : Fm) (x : List Nat) (a : Nat) : Cell := .lst [.tup [.str wFrom, g.d], .tup [.str wTimes, g.d, .int a], .tup [.str wSum, g.d, .tup [.str wName, .str x]], .tup [.str wSplit, .tup [.str wName, .str x], g.d]]
def four (g : Fm) (x : List Nat) (a : Nat) : Int → D
  | 0 => .tup [.str wFrom, g.d]
  | 1 => .tup [.str wTimes, g.d, .int a]
  | 2 => .tup [.str wSum, g.d, .tup [.str wName, .str x]]
  | _ => .tup [.str wSplit, .tup [.str wName, .str x], g.d]
theorem law_9_step (a : Nat) (v : Int) (hv : 0 ≤ v ∧ v < 4) (hA : s''.A = s.A) (e : C60 i__law_draw [.ref 1, .int 4] (s.st [wrp g x a]) = .ok (.int v, s''.st [wrp g x a])) :
    ex C60 (forBody (nth 9 b_law)) (slots o0 o2 o3 o4 o5 (some (.tup [.str wName, .str x])) (some g.d) (some (.int a)) o9 o10) (s.st []) = .ok (.nx, slots o0 o2 o3 o4 o5 (some (.tup [.str wName, .str x])) (some (four g x a v)) (some (.int a)) o9 o10, s''.st []) := by
  have pg := g.pure
  have l2 : ∀ (s : LS) (c : Cell), s.st [] ++ [c] = s.st [c] := fun _ _ => by simp
  have hv : v = 0 ∨ v = 1 ∨ v = 2 ∨ v = 3 := by omega
  rcases hv with rfl | rfl | rfl | rfl
  · simp [forBody, nth, b_law, slots, mkTup, mkLst, e, lA9, subD, okD, atD0, gc_s0 hA, pg, bindG, four]
  · simp [forBody, nth, b_law, slots, mkTup, mkLst, e, lA9, subD, okD, atD1, gc_s0 hA, pg, bindG, four]
  · simp [forBody, nth, b_law, slots, mkTup, mkLst, e, lA9, subD, okD, atD2, gc_s0 hA, pg, bindG, four]
  · simp [forBody, nth, b_law, slots, mkTup, mkLst, e, lA9, subD, okD, atD3, gc_s0 hA, pg, bindG, four]
end
end Pw.k61
end
section
set_option Elab.async false
set_option linter.all false
set_option maxRecDepth 100000
set_option maxHeartbeats 1000000
namespace Pw.k61
open PySem
section
variable (o0 o2 o3 o4 o5 o6 o7 o8 o9 o10 : Option D)
theorem four_ok {s : LS} {g : Fm} {x : List Nat} (a : Nat) (ha : a < 10) (v : Int) (hv : 0 ≤ v ∧ v < 4) (hg : g.Ok) (hx : (Fm.name x).Ok) :
    ∃ f : Fm, four g x a v = f.d ∧ f.Ok ∧ f.size ≤ g.size + 2 ∧ f.ht ≤ g.ht + 1 := by
  have hv : v = 0 ∨ v = 1 ∨ v = 2 ∨ v = 3 := by omega
  rcases hv with rfl | rfl | rfl | rfl
  · exact ⟨.one wFrom g [], by simp [four, Fm.d], ⟨.inl ⟨rfl, rfl⟩, hg⟩, by simp [Fm.size], by simp [Fm.ht]⟩
  · have nb : numB (a : Int) = true := numB_of (Nat.lt_of_lt_of_le (m := 10) (by omega) (by decide))
    exact ⟨.one wTimes g [some (a : Int)], by simp [four, Fm.d, bdD], ⟨.inr (.inl ⟨rfl, _, rfl, nb⟩), hg⟩, by simp [Fm.size], by simp [Fm.ht]⟩
  · exact ⟨.two wSum g (.name x), by simp [four, Fm.d], ⟨by decide, hg, hx⟩, by simp [Fm.size], by simp [Fm.ht]⟩
  · exact ⟨.two wSplit (.name x) g, by simp [four, Fm.d], ⟨by decide, hx, hg⟩, by simp [Fm.size]; omega, by simp [Fm.ht]⟩
end
end Pw.k61
end
section
set_option Elab.async false
set_option linter.all false
set_option maxRecDepth 100000
set_option maxHeartbeats 1000000
namespace Pw.k61
open PySem
section
variable (o0 o2 o3 o4 o5 o6 o7 o8 o9 o10 : Option D)
def Inv9 (s : LS) (x : List Nat) (r : List Nat) (ρ : Rho) (st : Store) : Prop :=
  (∀ j ∈ r, j < 10) ∧ ∃ (s' : LS) (g : Fm) (p8 : Option D), ρ = slots o0 o2 o3 o4 o5 (some (.tup [.str wName, .str x])) (some g.d) p8 o9 o10 ∧ st = s'.st [] ∧ s'.Ok ∧ s'.A = s.A ∧ g.Ok ∧ g.size + 2 * r.length ≤ 19 ∧ g.ht + r.length ≤ 9
theorem inv9_step (s : LS) (x : List Nat) (hx : (Fm.name x).Ok) (a : Nat) (r : List Nat) (ρ : Rho) (st : Store) (h : Inv9 o0 o2 o3 o4 o5 o9 o10 s x (a :: r) ρ st) :
    ∃ ρ1 ρ2 st2, bindG (.name 8) (D.int (0 + (a : Int))) ρ = some ρ1 ∧ ex C60 (forBody (nth 9 b_law)) ρ1 st = .ok (.nx, ρ2, st2) ∧ Inv9 o0 o2 o3 o4 o5 o9 o10 s x r ρ2 st2 := by
  obtain ⟨hr, s', g, p8, rfl, rfl, k, hA, hg, h1, h2⟩ := h
  have ha := hr a List.mem_cons_self
  obtain ⟨v, s'', e, q1, q2, q3, q4⟩ := draw_ok 59 s' [wrp g x a] 4 k (by decide) (by decide)
  have st9 := law_9_step o0 o2 o3 o4 o5 o9 o10 (s := s') (s'' := s'') (g := g) (x := x) a v ⟨q2, q3⟩ q4 e
  obtain ⟨f, hf, f1, f2, f3⟩ := four_ok (s := s) a ha v ⟨q2, q3⟩ hg hx
  rw [hf] at st9
  rw [List.length_cons] at h1 h2
  refine ⟨_, _, _, ?_, st9, fun j hj => hr j (List.mem_cons_of_mem _ hj), s'', f, some (.int a), rfl, rfl, q1, q4.trans hA, f1, by omega, by omega⟩
  simp [slots, bindG]
end
end Pw.k61
end
section
set_option Elab.async false
set_option linter.all false
set_option maxRecDepth 100000
set_option maxHeartbeats 1000000
namespace Pw.k61
open PySem
section
variable (o0 o2 o3 o4 o5 o6 o7 o8 o9 o10 : Option D)
theorem law_9_loop (s : LS) (x : List Nat) (hx : (Fm.name x).Ok) (ρ : Rho) (st : Store) (h : Inv9 o0 o2 o3 o4 o5 o9 o10 s x (List.range 9) ρ st) :
    ∃ ρ' st', loopF (.fix (rangeL 0 9)) (.name 8) (ex C60 (forBody (nth 9 b_law))) ((List.range 9).map fun (j : Nat) => D.int (0 + (j : Int))) ρ st = .ok (.nx, ρ', st') ∧ Inv9 o0 o2 o3 o4 o5 o9 o10 s x [] ρ' st' :=
  loopF_ind _ (Inv9 o0 o2 o3 o4 o5 o9 o10 s x) (fun _ _ _ _ => by simp) (fun a r ρ st h => inv9_step o0 o2 o3 o4 o5 o9 o10 s x hx a r ρ st h) _ ρ st h
theorem range09 : rangeL 0 9 = (List.range 9).map fun (j : Nat) => D.int (0 + (j : Int)) := by
  unfold rangeL
  simp
theorem law_9 (s : LS) (hs : s.Ok) (x : List Nat) (hx : (Fm.name x).Ok) (f : Fm) (hf : f.Ok) (h1 : f.size ≤ 1) (h2 : f.ht = 0) : ∃ (g : Fm) (s' : LS) (p8 : Option D), ex C60 (nth 9 b_law) (slots o0 o2 o3 o4 o5 (some (.tup [.str wName, .str x])) (some f.d) o8 o9 o10) (s.st []) = .ok (.nx, slots o0 o2 o3 o4 o5 (some (.tup [.str wName, .str x])) (some g.d) p8 o9 o10, s'.st []) ∧ s'.Ok ∧ s'.A = s.A ∧ g.Ok ∧ g.size ≤ 19 ∧ g.ht ≤ 9 := by
  obtain ⟨ρ', st', e, _, s', g, p8, rfl, rfl, r3, r4, r5, r6, r7⟩ := law_9_loop o0 o2 o3 o4 o5 o9 o10 s x hx (slots o0 o2 o3 o4 o5 (some (.tup [.str wName, .str x])) (some f.d) o8 o9 o10) (s.st []) ⟨fun j hj => by simp at hj; omega, s, f, o8, rfl, rfl, hs, rfl, hf, by simp; omega, by simp; omega⟩
  refine ⟨g, s', p8, ?_, r3, r4, r5, by simpa using r6, by simpa using r7⟩
  have sp : nth 9 b_law = .fors (.name 8) (.rng .nil (.cst (.int 9))) (forBody (nth 9 b_law)) := by simp only [nth, b_law, forBody]
  rw [sp, ex_fors]
  have ei : evi C60 (.rng .nil (.cst (.int 9))) (slots o0 o2 o3 o4 o5 (some (.tup [.str wName, .str x])) (some f.d) o8 o9 o10) (s.st []) = .ok (.fix (rangeL 0 9), s.st []) := by
    simp [rangeOk]
  rw [ei]
  dsimp only [Res.bind_ok]
  rw [← range09] at e
  exact e
end
end Pw.k61
end
section
set_option Elab.async false
set_option linter.all false
set_option maxRecDepth 100000
set_option maxHeartbeats 1000000
namespace Pw.k61
open PySem
section
variable (o0 o2 o3 o4 o5 o6 o7 o8 o9 o10 : Option D)
theorem law_10 (s : LS) (f : Fm) (hf : f.Ok) (h1 : f.size ≤ 40) (h2 : f.ht ≤ 9) : ex C60 (nth 10 b_law) (slots o0 o2 o3 o4 o5 o6 (some f.d) o8 o9 o10) (s.st []) = .ok (.nx, slots o0 o2 o3 o4 o5 o6 (some f.d) o8 o9 o10, s.st []) := by
  have e := formula_holds (s.st []) f 60 hf h1 h2 (by decide)
  simp [nth, b_law, C60, slots, e]
def leafF (x : List Nat) : Fm := .name x
def wd (x : List Nat) : Nat → Fm
  | 0 => .two wSum (.name x) (.name x)
  | n + 1 => .two wLesser (wd x n) (.two wAfter (.name x) (.name x))
theorem wd_ok (x : List Nat) (hx : (Fm.name x).Ok) : ∀ n, (wd x n).Ok
  | 0 => ⟨by decide, hx, hx⟩
  | n + 1 => ⟨by decide, wd_ok x hx n, by decide, hx, hx⟩
theorem wd_size (x : List Nat) : ∀ n, (wd x n).size = 3 + 4 * n
  | 0 => by simp [wd, Fm.size]
  | n + 1 => by simp [wd, Fm.size, wd_size x n]; omega
theorem wd_ht (x : List Nat) : ∀ n, (wd x n).ht = 1 + n
  | 0 => by simp [wd, Fm.ht]
  | n + 1 => by simp [wd, Fm.ht, wd_ht x n]; omega
theorem law_11 (s : LS) (x : List Nat) : ex C60 (nth 11 b_law) (slots o0 o2 o3 o4 o5 (some (.tup [.str wName, .str x])) o7 o8 o9 o10) (s.st []) = .ok (.nx, slots o0 o2 o3 o4 o5 (some (.tup [.str wName, .str x])) o7 o8 (some (wd x 0).d) o10, s.st []) := by
  simp [nth, b_law, C60, slots, mkTup, wd, Fm.d, bindG]
def Inv12 (s : LS) (x : List Nat) (r : List Nat) (ρ : Rho) (st : Store) : Prop :=
  r.length ≤ 4 ∧ ∃ p8, ρ = slots o0 o2 o3 o4 o5 (some (.tup [.str wName, .str x])) o7 p8 (some (wd x (4 - r.length)).d) o10 ∧ st = s.st []
theorem inv12_step (s : LS) (x : List Nat) (a : Nat) (r : List Nat) (ρ : Rho) (st : Store) (h : Inv12 o0 o2 o3 o4 o5 o7 o10 s x (a :: r) ρ st) :
    ∃ ρ1 ρ2 st2, bindG (.name 8) (D.int (0 + (a : Int))) ρ = some ρ1 ∧ ex C60 (forBody (nth 12 b_law)) ρ1 st = .ok (.nx, ρ2, st2) ∧ Inv12 o0 o2 o3 o4 o5 o7 o10 s x r ρ2 st2 := by
  obtain ⟨hr, p8, rfl, rfl⟩ := h
  rw [List.length_cons] at hr ⊢
  have h4 : 4 - r.length = (4 - (r.length + 1)) + 1 := by omega
  refine ⟨slots o0 o2 o3 o4 o5 (some (.tup [.str wName, .str x])) o7 (some (.int a)) (some (wd x (4 - (r.length + 1))).d) o10, slots o0 o2 o3 o4 o5 (some (.tup [.str wName, .str x])) o7 (some (.int a)) (some (wd x (4 - r.length)).d) o10, s.st [], ?_, ?_, by omega, _, rfl, rfl⟩
  · simp [slots, bindG]
  · rw [h4]
    simp [forBody, nth, b_law, slots, mkTup, wd, Fm.d, bindG]
theorem range04 : rangeL 0 4 = (List.range 4).map fun (j : Nat) => D.int (0 + (j : Int)) := by
  unfold rangeL
  simp
theorem law_12_loop (s : LS) (x : List Nat) (ρ : Rho) (st : Store) (h : Inv12 o0 o2 o3 o4 o5 o7 o10 s x (List.range 4) ρ st) :
    ∃ ρ' st', loopF (.fix (rangeL 0 4)) (.name 8) (ex C60 (forBody (nth 12 b_law))) ((List.range 4).map fun (j : Nat) => D.int (0 + (j : Int))) ρ st = .ok (.nx, ρ', st') ∧ Inv12 o0 o2 o3 o4 o5 o7 o10 s x [] ρ' st' :=
  loopF_ind _ (Inv12 o0 o2 o3 o4 o5 o7 o10 s x) (fun _ _ _ _ => by simp) (fun a r ρ st h => inv12_step o0 o2 o3 o4 o5 o7 o10 s x a r ρ st h) _ ρ st h
theorem law_12 (s : LS) (x : List Nat) : ∃ p8, ex C60 (nth 12 b_law) (slots o0 o2 o3 o4 o5 (some (.tup [.str wName, .str x])) o7 o8 (some (wd x 0).d) o10) (s.st []) = .ok (.nx, slots o0 o2 o3 o4 o5 (some (.tup [.str wName, .str x])) o7 p8 (some (wd x 4).d) o10, s.st []) := by
  obtain ⟨ρ', st', e, _, p8, rfl, rfl⟩ := law_12_loop o0 o2 o3 o4 o5 o7 o10 s x (slots o0 o2 o3 o4 o5 (some (.tup [.str wName, .str x])) o7 o8 (some (wd x 0).d) o10) (s.st []) ⟨by simp, o8, by simp, rfl⟩
  refine ⟨p8, ?_⟩
  have sp : nth 12 b_law = .fors (.name 8) (.rng .nil (.cst (.int 4))) (forBody (nth 12 b_law)) := by simp only [nth, b_law, forBody]
  rw [sp, ex_fors]
  have ei : evi C60 (.rng .nil (.cst (.int 4))) (slots o0 o2 o3 o4 o5 (some (.tup [.str wName, .str x])) o7 o8 (some (wd x 0).d) o10) (s.st []) = .ok (.fix (rangeL 0 4), s.st []) := by
    simp [rangeOk]
  rw [ei]
  dsimp only [Res.bind_ok]
  rw [← range04] at e
  exact e
theorem law_13 (s : LS) (x : List Nat) (hx : (Fm.name x).Ok) : ex C60 (nth 13 b_law) (slots o0 o2 o3 o4 o5 o6 o7 o8 (some (wd x 4).d) o10) (s.st []) = .ok (.nx, slots o0 o2 o3 o4 o5 o6 o7 o8 (some (wd x 4).d) o10, s.st []) := by
  have e := formula_holds (s.st []) (.two wSum (wd x 4) (.one wFrom (wd x 4) [])) 60 ⟨by decide, wd_ok x hx 4, .inl ⟨rfl, rfl⟩, wd_ok x hx 4⟩ (by simp only [Fm.size, wd_size]; decide) (by simp only [Fm.ht, wd_ht]; decide) (by decide)
  rw [Fm.d, Fm.d] at e
  generalize (wd x 4).d = W at e
  simp at e
  simp [nth, b_law, C60, slots, mkTup, e]
theorem law_14 (s : LS) (hs : s.Ok) : ∃ (f : Fo) (s' : LS), ex C60 (nth 14 b_law) (slots o0 o2 o3 o4 o5 o6 o7 o8 o9 none) (s.st []) = .ok (.nx, slots o0 o2 o3 o4 o5 o6 o7 o8 o9 (some f.d), s'.st []) ∧ s'.Ok ∧ s'.A = s.A ∧ f.Ok := by
  obtain ⟨d, s1, e, k1, a1, f, rfl, hf, _, _⟩ := text_form_ok 56 s [] hs
  have pf : pureD f.d = true := pure_fo _ _
  exact ⟨f, s1, by simp [nth, b_law, C60, slots, e, gc_ls a1 pf, bindG], k1, a1, hf⟩
theorem law_15 (s : LS) (f g : Fo) (m : Fm) (hf : f.Ok) (hg : g.Ok) (hm : m.Ok) (h1 : m.size ≤ 40) (h2 : m.ht ≤ 9) : ex C60 (nth 15 b_law) (slots o0 (some f.d) (some (.str (textOf wForm f.ls))) o4 (some m.d) o6 o7 o8 o9 (some g.d)) (s.st []) = .ok (.ret (.bl true), slots o0 (some f.d) (some (.str (textOf wForm f.ls))) o4 (some m.d) o6 o7 o8 o9 (some g.d), s.st []) := by
  have e1 := form_holds (s.st []) 54 g hg
  have e2 := parse_form_ok 55 (s.st []) f hf
  have e3 := formula_holds (s.st []) m 60 hm h1 h2 (by decide)
  have e4 := cmp_eq_self (st := s.st []) (fit_fo 56 f)
  simp [nth, b_law, C60, slots, e1, e2, e3, e4]
end
end Pw.k61
end
section
set_option Elab.async false
set_option linter.all false
set_option maxRecDepth 100000
set_option maxHeartbeats 1000000
namespace Pw.k61
open PySem
theorem b_law_eq : b_law = .seq (nth 0 b_law) (.seq (nth 1 b_law) (.seq (nth 2 b_law) (.seq (nth 3 b_law) (.seq (nth 4 b_law) (.seq (nth 5 b_law) (.seq (nth 6 b_law) (.seq (nth 7 b_law) (.seq (nth 8 b_law) (.seq (nth 9 b_law) (.seq (nth 10 b_law) (.seq (nth 11 b_law) (.seq (nth 12 b_law) (.seq (nth 13 b_law) (.seq (nth 14 b_law) (.seq (nth 15 b_law) .nil))))))))))))))) := by
  simp only [nth, b_law]
theorem seq_nx {C : Callee} {a b : IS} {ρ ρ' : Rho} {st st' : Store} {z : SR} (h : ex C a ρ st = .ok (.nx, ρ', st')) (h2 : ex C b ρ' st' = z) : ex C (.seq a b) ρ st = z := by
  rw [ex_seq, h]
  exact h2
theorem seq_ret {C : Callee} {a b : IS} {ρ ρ' : Rho} {st st' : Store} {d : D} (h : ex C a ρ st = .ok (.ret d, ρ', st')) : ex C (.seq a b) ρ st = .ok (.ret d, ρ', st') := by
  rw [ex_seq, h]
  rfl
theorem body (ns : List Int) (hn : ns.length ≤ 63) : ∃ (ρ : Rho) (st : Store), ex C60 b_law [some (.frz (ns.map .int)), none, none, none, none, none, none, none, none, none, none] [] = .ok (.ret (.bl true), ρ, st) := by
  rw [b_law_eq]
  have k0 : (LS.mk ns 0 0 0 false).Ok := ⟨Int.le_refl 0, Int.le_refl 0⟩
  obtain ⟨f, s1, e1, k1, a1, hf⟩ := law_1 _ k0 (some (.frz (ns.map .int)))
  obtain ⟨o4, s2, e4, k2, a2⟩ := law_4 s1 k1 f hf (some (.frz (ns.map .int))) (some (.str (textOf wForm f.ls)))
  obtain ⟨m, s3, e5, k3, a3, hm, m1, m2⟩ := law_5 (some (.frz (ns.map .int))) (some f.d) (some (.str (textOf wForm f.ls))) o4 none none none none none s2 k2
  obtain ⟨x, s4, e7, k4, a4, hx⟩ := law_7 (some (.frz (ns.map .int))) (some f.d) (some (.str (textOf wForm f.ls))) o4 (some m.d) none none none none s3 k3
  obtain ⟨q, s5, e8, k5, a5, hq, q1, q2⟩ := law_8 (some (.frz (ns.map .int))) (some f.d) (some (.str (textOf wForm f.ls))) o4 (some m.d) (some (Fm.name x).d) none none none s4 k4
  obtain ⟨g, s6, p8, e9, k6, a6, hg, g1, g2⟩ := law_9 (some (.frz (ns.map .int))) (some f.d) (some (.str (textOf wForm f.ls))) o4 (some m.d) none none none s5 k5 x hx q hq q1 q2
  obtain ⟨p9, e12⟩ := law_12 (some (.frz (ns.map .int))) (some f.d) (some (.str (textOf wForm f.ls))) o4 (some m.d) (some g.d) p8 none s6 x
  obtain ⟨h, s7, e14, k7, a7, hh⟩ := law_14 (some (.frz (ns.map .int))) (some f.d) (some (.str (textOf wForm f.ls))) o4 (some m.d) (some (Fm.name x).d) (some g.d) p9 (some (wd x 4).d) s6 k6
  have e15 := law_15 (some (.frz (ns.map .int))) o4 (some (Fm.name x).d) (some g.d) p9 (some (wd x 4).d) s7 f h m hf hh hm (by omega) (by omega)
  rw [show (Fm.name x).d = .tup [.str wName, .str x] from by unfold Fm.d; rfl] at e7 e8 e14 e15
  apply Exists.intro
  apply Exists.intro
  refine seq_nx (law_0 ns) ?_
  refine seq_nx e1 ?_
  refine seq_nx (law_2 s1 f hf _) ?_
  refine seq_nx (law_3 s1 f hf _) ?_
  refine seq_nx e4 ?_
  refine seq_nx e5 ?_
  refine seq_nx (law_6 _ _ _ _ _ _ _ _ _ s3 m hm (by omega) (by omega)) ?_
  refine seq_nx e7 ?_
  refine seq_nx e8 ?_
  refine seq_nx e9 ?_
  refine seq_nx (law_10 _ _ _ _ _ _ _ _ _ s6 g hg (by omega) (by omega)) ?_
  refine seq_nx (law_11 _ _ _ _ _ _ _ _ _ s6 x) ?_
  refine seq_nx e12 ?_
  refine seq_nx (law_13 _ _ _ _ _ _ _ _ _ s6 x hx) ?_
  refine seq_nx e14 ?_
  exact seq_ret e15
theorem math (ns : List Int) (hn : ns.length ≤ 63) : ∃ st, Pw.run p.T 61 50 [.frz (ns.map .int)] [] = .ok (.bl true, st) := by
  obtain ⟨ρ, st, e⟩ := body ns hn
  refine ⟨[], ?_⟩
  rw [show (61 : Nat) = 60 + 1 from rfl, run_def t_law rfl]
  simp [startR, e, gc, bnd]
end Pw.k61
end
section
set_option Elab.async false
set_option linter.all false
set_option maxRecDepth 100000
set_option maxHeartbeats 0
namespace Pw.k61
open PySem PySem.Spec PyProof.Rows L2
theorem c0 : ckDf p d0 = true := by decide +kernel
theorem a0 : BindP d0 := fun _ _ _ _ _ _ us hl => match us, hl with | [_], _ => rfl
theorem c1 : ckDf p d1 = true := by decide +kernel
theorem a1 : BindP d1 := fun _ _ _ _ _ _ us hl => match us, hl with | [_, _, _], _ => rfl
theorem c2 : ckDf p d2 = true := by decide +kernel
theorem a2 : BindP d2 := fun _ _ _ _ _ _ us hl => match us, hl with | [_], _ => rfl
theorem c3 : ckDf p d3 = true := by decide +kernel
theorem a3 : BindP d3 := fun _ _ _ _ _ _ us hl => match us, hl with | [_], _ => rfl
theorem c4 : ckDf p d4 = true := by decide +kernel
theorem a4 : BindP d4 := fun _ _ _ _ _ _ us hl => match us, hl with | [_], _ => rfl
theorem c5 : ckDf p d5 = true := by decide +kernel
theorem a5 : BindP d5 := fun _ _ _ _ _ _ us hl => match us, hl with | [_], _ => rfl
theorem c6 : ckDf p d6 = true := by decide +kernel
theorem a6 : BindP d6 := fun _ _ _ _ _ _ us hl => match us, hl with | [_], _ => rfl
theorem c7 : ckDf p d7 = true := by decide +kernel
theorem a7 : BindP d7 := fun _ _ _ _ _ _ us hl => match us, hl with | [_], _ => rfl
theorem c8 : ckDf p d8 = true := by decide +kernel
theorem a8 : BindP d8 := fun _ _ _ _ _ _ us hl => match us, hl with | [_], _ => rfl
theorem c9 : ckDf p d9 = true := by decide +kernel
theorem a9 : BindP d9 := fun _ _ _ _ _ _ us hl => match us, hl with | [_], _ => rfl
theorem c10 : ckDf p d10 = true := by decide +kernel
theorem a10 : BindP d10 := fun _ _ _ _ _ _ us hl => match us, hl with | [_], _ => rfl
theorem c11 : ckDf p d11 = true := by decide +kernel
theorem a11 : BindP d11 := fun _ _ _ _ _ _ us hl => match us, hl with | [_], _ => rfl
theorem c12 : ckDf p d12 = true := by decide +kernel
theorem a12 : BindP d12 := fun _ _ _ _ _ _ us hl => match us, hl with | [_], _ => rfl
theorem c13 : ckDf p d13 = true := by decide +kernel
theorem a13 : BindP d13 := fun _ _ _ _ _ _ us hl => match us, hl with | [_], _ => rfl
theorem c14 : ckDf p d14 = true := by decide +kernel
theorem a14 : BindP d14 := fun _ _ _ _ _ _ us hl => match us, hl with | [_], _ => rfl
theorem c15 : ckDf p d15 = true := by decide +kernel
theorem a15 : BindP d15 := fun _ _ _ _ _ _ us hl => match us, hl with | [_, _], _ => rfl
theorem c16 : ckDf p d16 = true := by decide +kernel
theorem a16 : BindP d16 := fun _ _ _ _ _ _ us hl => match us, hl with | [_, _], _ => rfl
theorem c17 : ckDf p d17 = true := by decide +kernel
theorem a17 : BindP d17 := fun _ _ _ _ _ _ us hl => match us, hl with | [_, _], _ => rfl
theorem c18 : ckDf p d18 = true := by decide +kernel
theorem a18 : BindP d18 := fun _ _ _ _ _ _ us hl => match us, hl with | [_, _], _ => rfl
theorem c19 : ckDf p d19 = true := by decide +kernel
theorem a19 : BindP d19 := fun _ _ _ _ _ _ us hl => match us, hl with | [_, _], _ => rfl
theorem c20 : ckDf p d20 = true := by decide +kernel
theorem a20 : BindP d20 := fun _ _ _ _ _ _ us hl => match us, hl with | [_], _ => rfl
theorem c21 : ckDf p d21 = true := by decide +kernel
theorem a21 : BindP d21 := fun _ _ _ _ _ _ us hl => match us, hl with | [_], _ => rfl
theorem c22 : ckDf p d22 = true := by decide +kernel
theorem a22 : BindP d22 := fun _ _ _ _ _ _ us hl => match us, hl with | [_], _ => rfl
theorem c23 : ckDf p d23 = true := by decide +kernel
theorem a23 : BindP d23 := fun _ _ _ _ _ _ us hl => match us, hl with | [_, _], _ => rfl
theorem c24 : ckDf p d24 = true := by decide +kernel
theorem a24 : BindP d24 := fun _ _ _ _ _ _ us hl => match us, hl with | [_], _ => rfl
theorem c25 : ckDf p d25 = true := by decide +kernel
theorem a25 : BindP d25 := fun _ _ _ _ _ _ us hl => match us, hl with | [_], _ => rfl
theorem c26 : ckDf p d26 = true := by decide +kernel
theorem a26 : BindP d26 := fun _ _ _ _ _ _ us hl => match us, hl with | [_], _ => rfl
theorem c27 : ckDf p d27 = true := by decide +kernel
theorem a27 : BindP d27 := fun _ _ _ _ _ _ us hl => match us, hl with | [_], _ => rfl
theorem c28 : ckDf p d28 = true := by decide +kernel
theorem a28 : BindP d28 := fun _ _ _ _ _ _ us hl => match us, hl with | [_], _ => rfl
theorem c29 : ckDf p d29 = true := by decide +kernel
theorem a29 : BindP d29 := fun _ _ _ _ _ _ us hl => match us, hl with | [_], _ => rfl
theorem c30 : ckDf p d30 = true := by decide +kernel
theorem a30 : BindP d30 := fun _ _ _ _ _ _ us hl => match us, hl with | [_, _, _, _], _ => rfl
theorem c31 : ckDf p d31 = true := by decide +kernel
theorem a31 : BindP d31 := fun _ _ _ _ _ _ us hl => match us, hl with | [_], _ => rfl
theorem c32 : ckDf p d32 = true := by decide +kernel
theorem a32 : BindP d32 := fun _ _ _ _ _ _ us hl => match us, hl with | [_], _ => rfl
theorem c33 : ckDf p d33 = true := by decide +kernel
theorem a33 : BindP d33 := fun _ _ _ _ _ _ us hl => match us, hl with | [_], _ => rfl
theorem c34 : ckDf p d34 = true := by decide +kernel
theorem a34 : BindP d34 := fun _ _ _ _ _ _ us hl => match us, hl with | [_, _], _ => rfl
theorem c35 : ckDf p d35 = true := by decide +kernel
theorem a35 : BindP d35 := fun _ _ _ _ _ _ us hl => match us, hl with | [_], _ => rfl
theorem c36 : ckDf p d36 = true := by decide +kernel
theorem a36 : BindP d36 := fun _ _ _ _ _ _ us hl => match us, hl with | [_], _ => rfl
theorem c37 : ckDf p d37 = true := by decide +kernel
theorem a37 : BindP d37 := fun _ _ _ _ _ _ us hl => match us, hl with | [_], _ => rfl
theorem c38 : ckDf p d38 = true := by decide +kernel
theorem a38 : BindP d38 := fun _ _ _ _ _ _ us hl => match us, hl with | [_], _ => rfl
theorem c39 : ckDf p d39 = true := by decide +kernel
theorem a39 : BindP d39 := fun _ _ _ _ _ _ us hl => match us, hl with | [_], _ => rfl
theorem c40 : ckDf p d40 = true := by decide +kernel
theorem a40 : BindP d40 := fun _ _ _ _ _ _ us hl => match us, hl with | [_], _ => rfl
theorem c41 : ckDf p d41 = true := by decide +kernel
theorem a41 : BindP d41 := fun _ _ _ _ _ _ us hl => match us, hl with | [_], _ => rfl
theorem c42 : ckDf p d42 = true := by decide +kernel
theorem a42 : BindP d42 := fun _ _ _ _ _ _ us hl => match us, hl with | [_], _ => rfl
theorem c43 : ckDf p d43 = true := by decide +kernel
theorem a43 : BindP d43 := fun _ _ _ _ _ _ us hl => match us, hl with | [_], _ => rfl
theorem c44 : ckDf p d44 = true := by decide +kernel
theorem a44 : BindP d44 := fun _ _ _ _ _ _ us hl => match us, hl with | [_], _ => rfl
theorem c45 : ckDf p d45 = true := by decide +kernel
theorem a45 : BindP d45 := fun _ _ _ _ _ _ us hl => match us, hl with | [_, _], _ => rfl
theorem c46 : ckDf p d46 = true := by decide +kernel
theorem a46 : BindP d46 := fun _ _ _ _ _ _ us hl => match us, hl with | [_, _], _ => rfl
theorem c47 : ckDf p d47 = true := by decide +kernel
theorem a47 : BindP d47 := fun _ _ _ _ _ _ us hl => match us, hl with | [_], _ => rfl
theorem c48 : ckDf p d48 = true := by decide +kernel
theorem a48 : BindP d48 := fun _ _ _ _ _ _ us hl => match us, hl with | [_], _ => rfl
theorem c49 : ckDf p d49 = true := by decide +kernel
theorem a49 : BindP d49 := fun _ _ _ _ _ _ us hl => match us, hl with | [_], _ => rfl
theorem c50 : ckDf p d50 = true := by decide +kernel
theorem a50 : BindP d50 := fun _ _ _ _ _ _ us hl => match us, hl with | [_], _ => rfl
theorem ck : ∀ (i : Nat) (df : Df), p.defs[i]? = some df → ckDf p df = true
  | 0, _, h => by cases h; exact c0
  | 1, _, h => by cases h; exact c1
  | 2, _, h => by cases h; exact c2
  | 3, _, h => by cases h; exact c3
  | 4, _, h => by cases h; exact c4
  | 5, _, h => by cases h; exact c5
  | 6, _, h => by cases h; exact c6
  | 7, _, h => by cases h; exact c7
  | 8, _, h => by cases h; exact c8
  | 9, _, h => by cases h; exact c9
  | 10, _, h => by cases h; exact c10
  | 11, _, h => by cases h; exact c11
  | 12, _, h => by cases h; exact c12
  | 13, _, h => by cases h; exact c13
  | 14, _, h => by cases h; exact c14
  | 15, _, h => by cases h; exact c15
  | 16, _, h => by cases h; exact c16
  | 17, _, h => by cases h; exact c17
  | 18, _, h => by cases h; exact c18
  | 19, _, h => by cases h; exact c19
  | 20, _, h => by cases h; exact c20
  | 21, _, h => by cases h; exact c21
  | 22, _, h => by cases h; exact c22
  | 23, _, h => by cases h; exact c23
  | 24, _, h => by cases h; exact c24
  | 25, _, h => by cases h; exact c25
  | 26, _, h => by cases h; exact c26
  | 27, _, h => by cases h; exact c27
  | 28, _, h => by cases h; exact c28
  | 29, _, h => by cases h; exact c29
  | 30, _, h => by cases h; exact c30
  | 31, _, h => by cases h; exact c31
  | 32, _, h => by cases h; exact c32
  | 33, _, h => by cases h; exact c33
  | 34, _, h => by cases h; exact c34
  | 35, _, h => by cases h; exact c35
  | 36, _, h => by cases h; exact c36
  | 37, _, h => by cases h; exact c37
  | 38, _, h => by cases h; exact c38
  | 39, _, h => by cases h; exact c39
  | 40, _, h => by cases h; exact c40
  | 41, _, h => by cases h; exact c41
  | 42, _, h => by cases h; exact c42
  | 43, _, h => by cases h; exact c43
  | 44, _, h => by cases h; exact c44
  | 45, _, h => by cases h; exact c45
  | 46, _, h => by cases h; exact c46
  | 47, _, h => by cases h; exact c47
  | 48, _, h => by cases h; exact c48
  | 49, _, h => by cases h; exact c49
  | 50, _, h => by cases h; exact c50
  | n + 51, _, h => by cases h
theorem bd : ∀ (i : Nat) (df : Df), p.defs[i]? = some df → BindP df
  | 0, _, h => by cases h; exact a0
  | 1, _, h => by cases h; exact a1
  | 2, _, h => by cases h; exact a2
  | 3, _, h => by cases h; exact a3
  | 4, _, h => by cases h; exact a4
  | 5, _, h => by cases h; exact a5
  | 6, _, h => by cases h; exact a6
  | 7, _, h => by cases h; exact a7
  | 8, _, h => by cases h; exact a8
  | 9, _, h => by cases h; exact a9
  | 10, _, h => by cases h; exact a10
  | 11, _, h => by cases h; exact a11
  | 12, _, h => by cases h; exact a12
  | 13, _, h => by cases h; exact a13
  | 14, _, h => by cases h; exact a14
  | 15, _, h => by cases h; exact a15
  | 16, _, h => by cases h; exact a16
  | 17, _, h => by cases h; exact a17
  | 18, _, h => by cases h; exact a18
  | 19, _, h => by cases h; exact a19
  | 20, _, h => by cases h; exact a20
  | 21, _, h => by cases h; exact a21
  | 22, _, h => by cases h; exact a22
  | 23, _, h => by cases h; exact a23
  | 24, _, h => by cases h; exact a24
  | 25, _, h => by cases h; exact a25
  | 26, _, h => by cases h; exact a26
  | 27, _, h => by cases h; exact a27
  | 28, _, h => by cases h; exact a28
  | 29, _, h => by cases h; exact a29
  | 30, _, h => by cases h; exact a30
  | 31, _, h => by cases h; exact a31
  | 32, _, h => by cases h; exact a32
  | 33, _, h => by cases h; exact a33
  | 34, _, h => by cases h; exact a34
  | 35, _, h => by cases h; exact a35
  | 36, _, h => by cases h; exact a36
  | 37, _, h => by cases h; exact a37
  | 38, _, h => by cases h; exact a38
  | 39, _, h => by cases h; exact a39
  | 40, _, h => by cases h; exact a40
  | 41, _, h => by cases h; exact a41
  | 42, _, h => by cases h; exact a42
  | 43, _, h => by cases h; exact a43
  | 44, _, h => by cases h; exact a44
  | 45, _, h => by cases h; exact a45
  | 46, _, h => by cases h; exact a46
  | 47, _, h => by cases h; exact a47
  | 48, _, h => by cases h; exact a48
  | 49, _, h => by cases h; exact a49
  | 50, _, h => by cases h; exact a50
  | n + 51, _, h => by cases h
def names : List PySem.Str := (["PostError", "InvalidLine", "is_integer", "is_between", "is_name", "is_figures", "is_ascending", "MAX_HEAD", "MAX_PERIOD", "is_bound", "_is_pair", "form_fault", "PAIRS", "SINGLES", "MAX_TUPLES", "MAX_DEPTH", "is_values", "_is_leaf", "is_right_row", "inner_of"] : List PySem.Str) ++ (["tuples_of", "MAX_SIGNS", "words_of", "integer_of", "optional_of", "optional_word", "NO_FORM", "words_at", "begin", "finish", "_pair_word", "form_lines", "_pair_of", "read_form", "format_form", "parse_form", "_row_lines", "_member_word", "formula_lines", "_row_of"] : List PySem.Str) ++ (["read_formula", "format_formula", "parse_formula", "_law_state", "_law_draw", "_law_number", "_law_name", "_law_inner", "_law_rows", "_law_word", "_law_form_lines", "_law_row_lines", "_law_lines", "_law_long", "_law_text_form", "_law_text_row", "_law_text", "_law_formula_holds", "_law_form_holds", "_law_ints"] : List PySem.Str)
abbrev R : PySem.W.OpenRow := PySem.W.OpenLaw.row PySem.Challenge.rw_postsooth_k61_whole_texts_of_forms_and_f
abbrev hk : PySem.W.Hook := hookP 5 p
def ob (s : PySem.W.SharedT) : AlP := obsPG 5 p (HandSHeadRun.getT s)
theorem ob_eq (s : PySem.W.SharedT) : ob s = hk.obs s.abs := obsPG_eq (HandSHeadRun.getT_eq s)
theorem run_eq (w : World) : HandSHeadRun.RunEq R (PySem.W.view R.prog [67]) hk ob 4000 names w := by
  intro os
  kernel_rfl
end Pw.k61
end
section
set_option Elab.async false
set_option linter.all false
set_option maxRecDepth 100000
set_option maxHeartbeats 0
namespace Pw.k61
open PySem PySem.W PySem.Calls PyProof.Rows
theorem walks {k : Nat} (hr : L2.Room k callerA) (math : ∀ ns : List Int, ns.length ≤ 63 → ∃ st, Pw.run p.T k 50 [.frz (ns.map .int)] [] = .ok (.bl true, st)) :
    WalkO (view (OpenLaw.row PySem.Challenge.rw_postsooth_k61_whole_texts_of_forms_and_f).prog [67]) names (XL (view (OpenLaw.row PySem.Challenge.rw_postsooth_k61_whole_texts_of_forms_and_f).prog [67]) []) hk.says (OpenLaw.row PySem.Challenge.rw_postsooth_k61_whole_texts_of_forms_and_f).toRowW (HandSHeadRun.topDef (OpenLaw.row PySem.Challenge.rw_postsooth_k61_whole_texts_of_forms_and_f).prog 67) [] (fun f vs => PySem.call f vs) := by
    refine L2.walk_ofE (l := PySem.Challenge.rw_postsooth_k61_whole_texts_of_forms_and_f) (n := 63) (k := k) (x := "script") (CX := Pw.CXa (PySem.Challenge.rw_postsooth_k61_whole_texts_of_forms_and_f).prog) rfl (by decide) (by kernel_rfl) hr ?F (fun _ _ _ _ z => Pw.CXa_none z)
    intro w mg fa h Y G hmg0
    obtain ⟨K, KX, c⟩ := Y
    have hmg : mg ("law" : PySem.Str) = some (.ref fa) := by
      have e : (HandSHeadRun.topDef (OpenLaw.row PySem.Challenge.rw_postsooth_k61_whole_texts_of_forms_and_f).prog 67).name = ("law" : PySem.Str) := by kernel_rfl
      rw [← e]
      exact hmg0
    have e1 : p.defs[50]? = some d50 := rfl
    have e2 := hmg.symm.trans (SaysP.glo c KX G e1)
    obtain ⟨fd, hb, hs, hF⟩ := law_facts (P := (PySem.Challenge.rw_postsooth_k61_whole_texts_of_forms_and_f).prog) (w := w) (n := 63) (k := k) KX G c ck bd e1 (x := "script") rfl math
    have e3 : fa = He.ga K d50.d.name := by
      injection e2 with e2
      injection e2
    subst e3
    exact ⟨K, fd, _, KX, hb, hs, fun base _ _ => fnOk_any (hF base)⟩
theorem ends {k : Nat} (hr : L2.Room k callerA) (math : ∀ ns : List Int, ns.length ≤ 63 → ∃ st, Pw.run p.T k 50 [.frz (ns.map .int)] [] = .ok (.bl true, st)) : PySem.Challenge.rw_postsooth_k61_whole_texts_of_forms_and_f.Holds := by
  w_on; o_law
  refine HandSHeadRun.head_any (r := OpenLaw.row PySem.Challenge.rw_postsooth_k61_whole_texts_of_forms_and_f) (q := view (OpenLaw.row PySem.Challenge.rw_postsooth_k61_whole_texts_of_forms_and_f).prog [67]) (H := hk) (ob := ob) (M := 4000) (loose := names) (d := HandSHeadRun.topDef (OpenLaw.row PySem.Challenge.rw_postsooth_k61_whole_texts_of_forms_and_f).prog 67) (kwd := []) ob_eq
    (by kernel_rfl) (fun s => by kernel_rfl) run_eq (by kernel_rfl) (by kernel_rfl) (by kernel_rfl) (by rfl) (by first | assumption | decide +kernel) (by decide +kernel) ⟨rfl, rfl, rfl, rfl, rfl, by decide +kernel⟩ ?hw ?hc
  case hw => w_witness2
  case hc => exact walks hr math
end Pw.k61
end
theorem PySem.Challenge.cw_postsooth_k61_whole_texts_of_forms_and_f_holds : PySem.Challenge.rw_postsooth_k61_whole_texts_of_forms_and_f.Holds :=
  Pw.k61.ends (k := 61) ⟨rfl, by decide, by decide⟩ Pw.k61.math
