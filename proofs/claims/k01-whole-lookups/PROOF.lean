import PyProof.Rows.All
import Wide.All
import OpenK.AllK
import Wide.FinOn
import HandS.ForMost
import HandS.Exc
import HandS.CallSlots
import HandS.Wide
import HandS.Style
import HandS.More
import HandS.IsInst
import HandS.SortInts
import PyProof.Rows.SortShellAny
import HandS.WordsDict
import HandS.Text
import HandS.Set
import HandS.SetFor
import HandS.SetTxt0
import HandS.Ends
import HandS.Words
import HandS.Codes
import PySem.Challenge.RW_wordmeanings_k01_whole_lookups
set_option Elab.async false
set_option linter.all false
set_option maxRecDepth 100000
section
set_option linter.all false
set_option maxRecDepth 100000
/-! MPCore: a small deterministic Python over an own heap: values, objects, the results, the own syntax, what it computes. -/
namespace MP
open PySem

def LIM : Nat := 100000

/-! ### texts, compared quickly -/
def eqL : List Nat → List Nat → Bool
  | [], [] => true
  | a :: as, b :: bs => bif Nat.beq a b then eqL as bs else false
  | _, _ => false
def ltL : List Nat → List Nat → Bool
  | _, [] => false
  | [], _ :: _ => true
  | a :: as, b :: bs => bif Nat.blt a b then true else bif Nat.beq a b then ltL as bs else false
def strEq (a b : Str) : Bool := eqL a.cps.toList b.cps.toList
def strLt (a b : Str) : Bool := ltL a.cps.toList b.cps.toList
theorem eqL_iff : ∀ a b : List Nat, eqL a b = true ↔ a = b
  | [], [] => by simp [eqL]
  | [], _ :: _ => by simp [eqL]
  | _ :: _, [] => by simp [eqL]
  | a :: as, b :: bs => by
    have ih := eqL_iff as bs
    cases h : Nat.beq a b with
    | true =>
      have e : a = b := Nat.eq_of_beq_eq_true h
      simp [eqL, h, ih, e]
    | false =>
      have e : a ≠ b := fun q => by subst q; simp at h
      simp [eqL, h, e]
theorem ltL_eq : ∀ a b : List Nat, ltL a b = decide (a < b)
  | [], [] => by simp [ltL]
  | _ :: _, [] => by simp [ltL]
  | [], _ :: _ => by simp [ltL]
  | a :: as, b :: bs => by
    have ih := ltL_eq as bs
    unfold ltL
    rw [ih]
    cases h : Nat.blt a b with
    | true =>
      have e : a < b := by simpa [Nat.blt_eq] using h
      simp [List.cons_lt_cons_iff, e]
    | false =>
      have e : ¬ a < b := fun q => by simp [Nat.blt_eq.mpr q] at h
      cases h2 : Nat.beq a b with
      | true =>
        have e2 : a = b := Nat.eq_of_beq_eq_true h2
        subst e2
        simp [List.cons_lt_cons_iff]
      | false =>
        have e2 : a ≠ b := fun q => by subst q; simp at h2
        simp [List.cons_lt_cons_iff, e, e2]
theorem strEq_iff {a b : Str} : strEq a b = true ↔ a = b := by
  unfold strEq
  rw [eqL_iff]
  constructor
  · intro h
    obtain ⟨⟨x⟩⟩ := a
    obtain ⟨⟨y⟩⟩ := b
    have h' : x = y := h
    rw [h']
  · intro h; rw [h]
theorem strEq_eq (a b : Str) : strEq a b = decide (a = b) := by
  by_cases h : a = b
  · rw [strEq_iff.mpr h]; simp [h]
  · have : strEq a b ≠ true := fun q => h (strEq_iff.mp q)
    rw [Bool.eq_false_iff.mpr this]; simp [h]
theorem strEq_beq (a b : Str) : strEq a b = (a == b) := by
  rw [strEq_eq, Bool.beq_eq_decide_eq]
theorem strEq_refl (a : Str) : strEq a a = true := strEq_iff.mpr rfl
theorem strLt_eq (a b : Str) : strLt a b = decide (a.cps.toList < b.cps.toList) := ltL_eq _ _
def lookK {β : Type} (kvs : List (Str × β)) (k : Str) : Option β :=
  match kvs with
  | [] => none
  | (j, v) :: r => bif strEq j k then some v else lookK r k

/-- a value: an address is a number in the order of allocation; scr: the script -/
inductive OV where
  | non | bl (b : Bool) | int (i : Int) | str (x : Str) | ref (n : Nat) | scr
  deriving DecidableEq
inductive OO where
  | lst (xs : List OV)
  | tup (xs : List OV)
  | dct (fz : Bool) (kvs : List (Str × OV))
  | ins (c : Nat) (fs : List (Str × OV))
inductive Tr where
  | e
  | nd (l : Tr) (v : Option OO) (r : Tr)
def Tr.get : Tr → Nat → Option OO
  | .e, _ => none
  | .nd l v r, i => bif i == 0 then v else bif i % 2 == 1 then l.get (i / 2) else r.get (i / 2 - 1)
def Tr.set : Nat → Tr → Nat → OO → Tr
  | 0, t, _, _ => t
  | f + 1, .e, i, o => bif i == 0 then .nd .e (some o) .e else bif i % 2 == 1 then .nd (Tr.set f .e (i / 2) o) none .e else .nd .e none (Tr.set f .e (i / 2 - 1) o)
  | f + 1, .nd l v r, i, o => bif i == 0 then .nd l (some o) r else bif i % 2 == 1 then .nd (Tr.set f l (i / 2) o) v r else .nd l v (Tr.set f r (i / 2 - 1) o)
theorem Tr.get_nd (l r : Tr) (v : Option OO) (i : Nat) : (Tr.nd l v r).get i = bif i == 0 then v else bif i % 2 == 1 then l.get (i / 2) else r.get (i / 2 - 1) := rfl
theorem Tr.get_e (i : Nat) : Tr.e.get i = none := rfl
theorem Tr.get_set_same : ∀ (f : Nat) (t : Tr) (i : Nat) (o : OO), i < f → (t.set f i o).get i = some o
  | 0, _, _, _, h => absurd h (Nat.not_lt_zero _)
  | f + 1, t, i, o, h => by
    rcases Nat.eq_zero_or_pos i with h0 | h0
    · subst h0; cases t <;> rfl
    · have e0 : (i == 0) = false := by simp; omega
      by_cases h1 : i % 2 = 1
      · have e1 : (i % 2 == 1) = true := by simp [h1]
        have ih := fun t => Tr.get_set_same f t (i / 2) o (by omega)
        cases t <;> simp [Tr.set, Tr.get_nd, e0, e1, ih]
      · have e1 : (i % 2 == 1) = false := by simp [h1]
        have ih := fun t => Tr.get_set_same f t (i / 2 - 1) o (by omega)
        cases t <;> simp [Tr.set, Tr.get_nd, e0, e1, ih]
theorem Tr.get_set_ne : ∀ (f : Nat) (t : Tr) (i j : Nat) (o : OO), j ≠ i → (t.set f i o).get j = t.get j
  | 0, _, _, _, _, _ => rfl
  | f + 1, t, i, j, o, h => by
    by_cases hi : i = 0
    · subst hi
      have e0 : (j == 0) = false := by simp; omega
      cases t <;> simp [Tr.set, Tr.get_nd, Tr.get_e, e0]
    · have e0 : (i == 0) = false := by simp [hi]
      by_cases hj : j = 0
      · subst hj
        by_cases h1 : i % 2 = 1
        · have e1 : (i % 2 == 1) = true := by simp [h1]
          cases t <;> simp [Tr.set, Tr.get_nd, Tr.get_e, e0, e1]
        · have e1 : (i % 2 == 1) = false := by simp [h1]
          cases t <;> simp [Tr.set, Tr.get_nd, Tr.get_e, e0, e1]
      · have f0 : (j == 0) = false := by simp [hj]
        by_cases h1 : i % 2 = 1
        · have e1 : (i % 2 == 1) = true := by simp [h1]
          by_cases h2 : j % 2 = 1
          · have f1 : (j % 2 == 1) = true := by simp [h2]
            have ih := fun t => Tr.get_set_ne f t (i / 2) (j / 2) o (by omega)
            cases t <;> simp [Tr.set, Tr.get_nd, Tr.get_e, e0, e1, f0, f1, ih]
          · have f1 : (j % 2 == 1) = false := by simp [h2]
            cases t <;> simp [Tr.set, Tr.get_nd, Tr.get_e, e0, e1, f0, f1]
        · have e1 : (i % 2 == 1) = false := by simp [h1]
          by_cases h2 : j % 2 = 1
          · have f1 : (j % 2 == 1) = true := by simp [h2]
            cases t <;> simp [Tr.set, Tr.get_nd, Tr.get_e, e0, e1, f0, f1]
          · have f1 : (j % 2 == 1) = false := by simp [h2]
            have ih := fun t => Tr.get_set_ne f t (i / 2 - 1) (j / 2 - 1) o (by omega)
            cases t <;> simp [Tr.set, Tr.get_nd, Tr.get_e, e0, e1, f0, f1, ih]

/-- the own heap: its size, its objects, the script's ints -/
structure OH where
  n : Nat
  t : Tr
  scr : List OV
def OH.get (h : OH) (i : Nat) : Option OO := h.t.get i
def OH.put (h : OH) (i : Nat) (o : OO) : OH := ⟨h.n, h.t.set (i + 1) i o, h.scr⟩
def OH.new (h : OH) (o : OO) : OH := ⟨h.n + 1, h.t.set (h.n + 1) h.n o, h.scr⟩
theorem OH.get_put {h : OH} {i j : Nat} {o : OO} : (h.put i o).get j = if j = i then some o else h.get j := by
  by_cases e : j = i
  · subst e; rw [if_pos rfl]; exact Tr.get_set_same _ _ _ _ (Nat.lt_succ_self _)
  · rw [if_neg e]; exact Tr.get_set_ne _ _ _ _ _ e
theorem OH.get_new {h : OH} {j : Nat} {o : OO} : (h.new o).get j = if j = h.n then some o else h.get j := by
  by_cases e : j = h.n
  · subst e; rw [if_pos rfl]; exact Tr.get_set_same _ _ _ _ (Nat.lt_succ_self _)
  · rw [if_neg e]; exact Tr.get_set_ne _ _ _ _ _ e

/-! ### results -/
inductive R (α : Type) where
  | ok (a : α) (h : OH)
  | ex (c : Nat) (h : OH)
  | no
def R.bind {α β : Type} (x : R α) (f : α → OH → R β) : R β :=
  match x with
  | .ok a h => f a h
  | .ex c h => .ex c h
  | .no => .no
abbrev En := List (Option OV)
inductive Fl where
  | nx | bk | ct | rt (v : OV)
/-- a statement's result -/
inductive RS where
  | ok (f : Fl) (e : En) (h : OH)
  | ex (c : Nat) (e : En) (h : OH)
  | no
def R.thenS {α : Type} (x : R α) (e : En) (f : α → OH → RS) : RS :=
  match x with
  | .ok a h => f a h
  | .ex c h => .ex c e h
  | .no => .no
def RS.bind (x : RS) (f : Fl → En → OH → RS) : RS :=
  match x with
  | .ok a e h => f a e h
  | .ex c e h => .ex c e h
  | .no => .no
def R.of {α : Type} (o : Option α) (h : OH) : R α := match o with | some a => .ok a h | none => .no
def newR (o : OO) (h : OH) : R OV := .ok (.ref h.n) (h.new o)

/-! ### the own syntax -/
inductive BOp where | add | sub | mul | fdiv | mod | pow
  deriving DecidableEq
inductive COp where | lt | le | gt | ge | eq | ne | isin | nin | is | isn
  deriving DecidableEq
inductive BF where | len | all | any | list | dict | max | min | sorted | abs | tuple | str
  deriving DecidableEq
inductive BM where | append | extend | insert | pop0 | pop | reverse | clear | index | get2 | pop2 | endswith | join
  deriving DecidableEq
/-- what isinstance asks for -/
inductive CI where | str | lst | tup | int | bool | own (c : Nat)
  deriving DecidableEq
inductive A where
  | non | bl (b : Bool) | int (i : Int) | str (x : Str)
  | var (i : Nat) | gc (x : Str) (v : OV)
  | bin (op : BOp) (a b : A) | neg (a : A) | not (a : A)
  | cmp (op : COp) (a b : A) | chain (o1 o2 : COp) (a b c : A)
  | and (a b : A) | or (a b : A) | ife (t a b : A)
  | lst (es : A) | tup (es : A) | dct (ks : List Str) (es : A)
  | ix (a b : A) | sl (a lo hi : A) | rev (a : A)
  | fld (a : A) (f : Str)
  | call (f : Nat) (es : A) | make (c : Nat) (es : A) | meth (a : A) (ms : List (Nat × Nat)) (m : Str) (es : A)
  | bf (b : BF) (es : A) | bm (a : A) (m : BM) (es : A)
  | isi (a : A) (c : CI)
  | sset (a : A) | lset (a : A)
  | comp (e t it c : A) (own : List Nat)
  | nil | cons (a b : A)
  | iex (a : A) | ikv (i : Nat) | ir1 (a : A) | ir2 (a b : A) | ien (a : A) | izp (a b : A)
  | tn (i : Nat) | tt (n : Nat) (ts : A) | tf (a : A) (f : Str) | ts (a i : A)
  | sex (e : A) | sas (t e : A) | spar (is : List Nat) (es : A) | aug (i : Nat) (e : A)
  | ret (e : A) | retn | sif (c a b : A) | swh (c b : A) | sfor (t it b : A)
  | spass | scont | sbrk | sraise (c : Nat)
  | stry (b : A) (c : Nat) (s : A)
  | sno | snil | scons (a b : A)
  | mu (a : A) | pu (a : A)

/-! ### tables -/
structure CT where
  init : Option Nat
  meths : List (Str × Nat)
  mro : List Nat
structure FT where
  np : Nat
  ns : Nat
  body : A
structure Tb where
  funs : List FT
  clss : List CT
/-- an ordinary class -/
def okC (T : Tb) (c : Nat) : Bool := match T.clss[c]? with | some t => t.init.isSome | none => false
/-! ### operations on values -/
def lstOf (h : OH) : OV → Option (List OV)
  | .ref n => match h.get n with | some (.lst xs) => some xs | _ => none
  | .scr => some h.scr
  | _ => none
def seqOf (h : OH) : OV → Option (List OV)
  | .ref n => match h.get n with | some (.lst xs) => some xs | some (.tup xs) => some xs | _ => none
  | .scr => some h.scr
  | _ => none
def mulOk (i j : Int) : Bool := decide (i.natAbs < 2 ^ 64) || decide (j.natAbs < 2 ^ 64) || (decide (i.natAbs < 2 ^ 1000) && decide (j.natAbs < 2 ^ 1000))
def binV (op : BOp) (x y : OV) (h : OH) : R OV :=
  match op, x, y with
  | .add, .int i, .int j => .ok (.int (i + j)) h
  | .add, .str a, .str b => if a.length + b.length ≤ LIM then .ok (.str (a ++ b)) h else .no
  | .add, .ref a, .ref b => match h.get a, h.get b with
    | some (.lst xs), some (.lst ys) => if xs.length + ys.length ≤ LIM then newR (.lst (xs ++ ys)) h else .no
    | _, _ => .no
  | .sub, .int i, .int j => .ok (.int (i - j)) h
  | .mul, .int i, .int j => if mulOk i j = true then .ok (.int (i * j)) h else .no
  | .mul, .ref a, .int k => match h.get a with
    | some (.lst xs) => if 0 ≤ k ∧ k < 1000 ∧ xs.length < 1000 then newR (.lst (List.replicate k.toNat xs).flatten) h else .no
    | _ => .no
  | .fdiv, .int i, .int j => if 0 < j ∧ j < 1073741824 then .ok (.int (i / j)) h else .no
  | .mod, .int i, .int j => if 0 < j then .ok (.int (i % j)) h else .no
  | .pow, .int i, .int j => if 0 ≤ j ∧ j ≤ 1000 ∧ i.natAbs < 2 ^ 64 then .ok (.int (i ^ j.toNat)) h else .no
  | _, _, _ => .no
def flatO : OV → Bool
  | .non => true | .bl _ => true | .int _ => true | .str _ => true
  | _ => false
def eqF : OV → OV → Bool
  | .non, .non => true
  | .bl a, .bl b => a == b
  | .bl a, .int b => (if a then 1 else 0) == b
  | .int a, .bl b => a == (if b then 1 else 0)
  | .int a, .int b => a == b
  | .str a, .str b => strEq a b
  | _, _ => false
def mapO {α β : Type} (f : α → Option β) : List α → Option (List β)
  | [] => some []
  | x :: xs => match f x with
    | some y => match mapO f xs with | some ys => some (y :: ys) | none => none
    | none => none
/-- a tree read off the heap, to a depth -/
def rdP : Nat → OH → OV → Option PyData
  | _, _, .non => some .none
  | _, _, .bl b => some (.bool b)
  | _, _, .int i => some (.int i)
  | _, _, .str x => some (.str x)
  | 0, _, _ => none
  | n + 1, h, .ref i => match h.get i with
    | some (.lst xs) => (mapO (rdP n h) xs).map .list
    | some (.tup xs) => (mapO (rdP n h) xs).map .tuple
    | _ => none
  | n + 1, h, .scr => (mapO (rdP n h) h.scr).map .list
/-- two dicts with flat values -/
def eqDct (k1 k2 : List (Str × OV)) : Option Bool :=
  if k1.all (fun p => flatO p.2) && k2.all (fun p => flatO p.2) then
    some (k1.length == k2.length && k1.all fun p => match lookK k2 p.1 with | some v => eqF p.2 v | none => false) else none
/-- PyData.eqv, quickly -/
def eqP : PyData → PyData → Bool
  | .none, .none => true
  | .bool a, .bool b => a == b
  | .bool a, .int j => (if a then 1 else 0) == j
  | .int i, .bool b => i == (if b then 1 else 0)
  | .int i, .int j => i == j
  | .str x, .str y => strEq x y
  | .list xs, .list ys => eqPs xs ys
  | .tuple xs, .tuple ys => eqPs xs ys
  | _, _ => false
where eqPs : List PyData → List PyData → Bool
  | [], [] => true
  | x :: xs, y :: ys => bif eqP x y then eqPs xs ys else false
  | _, _ => false
def eqO (h : OH) (x y : OV) : Option Bool :=
  match rdP 20 h x, rdP 20 h y with
  | some d, some e => if SeqAt.shaped d && SeqAt.shaped e then some (eqP d e) else none
  | _, _ => none
def inO (h : OH) (x y : OV) : Option Bool :=
  match y with
  | .str b => match x with | .str a => (match a.cps.toList with | [c] => some (b.cps.toList.any (Nat.beq c)) | _ => some (!(Builtin.Str.occurrences b a 0 b.length 1).isEmpty)) | _ => none
  | .ref n => match h.get n with
    | some (.lst xs) => if flatO x && xs.all flatO then some (xs.any fun y => eqF y x) else none
    | some (.tup xs) => if flatO x && xs.all flatO then some (xs.any fun y => eqF y x) else none
    | some (.dct _ kvs) => match x with | .str k => some (lookK kvs k).isSome | _ => none
    | _ => none
  | _ => none
def cmpO (op : COp) (x y : OV) (h : OH) : Option Bool :=
  match op with
  | .lt => match x, y with | .int i, .int j => some (decide (i < j)) | .str a, .str b => some (strLt a b) | _, _ => none
  | .le => match x, y with | .int i, .int j => some (decide (i ≤ j)) | _, _ => none
  | .gt => match x, y with | .int i, .int j => some (decide (j < i)) | _, _ => none
  | .ge => match x, y with | .int i, .int j => some (decide (j ≤ i)) | _, _ => none
  | .eq => eqO h x y
  | .ne => (eqO h x y).map (!·)
  | .isin => inO h x y
  | .nin => (inO h x y).map (!·)
  | .is => match y with | .non => some (decide (x = .non)) | .bl b => (match x with | .bl a => some (decide (a = b)) | _ => none) | _ => none
  | .isn => match y with | .non => some (!decide (x = .non)) | .bl b => (match x with | .bl a => some (!decide (a = b)) | _ => none) | _ => none
def cmpV (op : COp) (x y : OV) (h : OH) : R OV := R.of ((cmpO op x y h).map .bl) h
def truO (h : OH) : OV → Option Bool
  | .non => some false
  | .bl b => some b
  | .int i => some (i != 0)
  | .str x => if x.length ≤ LIM then some ((x.length : Int) != 0) else none
  | .ref n => match h.get n with
    | some (.lst xs) => some (!xs.isEmpty)
    | some (.tup xs) => some (!xs.isEmpty)
    | _ => none
  | .scr => some (!h.scr.isEmpty)
def ixV (x y : OV) (h : OH) : R OV :=
  match y with
  | .int i => match x with
    | .str z => if z.length ≤ LIM then R.of ((L2.atI z.cps.toList i).map fun c => OV.str ⟨#[c]⟩) h else .no
    | _ => R.of ((seqOf h x).bind fun xs => L2.atI xs i) h
  | .str k => match x with
    | .ref n => match h.get n with | some (.dct _ kvs) => R.of (lookK kvs k) h | _ => .no
    | _ => .no
  | _ => .no
def cut {α : Type} (xs : List α) (lo hi : Option Int) : List α := (xs.drop (HT.sIx xs.length 0 lo)).take (HT.sIx xs.length xs.length hi - HT.sIx xs.length 0 lo)
def slV (x : OV) (lo hi : Option Int) (h : OH) : R OV :=
  match x with
  | .str z => if z.length ≤ LIM then .ok (.str (L2.cutS z lo hi)) h else .no
  | _ => match lstOf h x with | some xs => newR (.lst (cut xs lo hi)) h | none => .no
def hasK {β : Type} (kvs : List (Str × β)) (k : Str) : Bool :=
  match kvs with
  | [] => false
  | (j, _) :: r => bif strEq j k then true else hasK r k
def replK {β : Type} (kvs : List (Str × β)) (k : Str) (v : β) : List (Str × β) :=
  match kvs with
  | [] => []
  | (j, w) :: r => bif strEq j k then (j, v) :: replK r k v else (j, w) :: replK r k v
def putK {β : Type} (kvs : List (Str × β)) (k : Str) (v : β) : List (Str × β) := bif hasK kvs k then replK kvs k v else kvs ++ [(k, v)]
def dropK {β : Type} (kvs : List (Str × β)) (k : Str) : List (Str × β) :=
  match kvs with
  | [] => []
  | (j, w) :: r => bif strEq j k then dropK r k else (j, w) :: dropK r k
/-- an attribute: in its place, or at the end -/
def putF {β : Type} (fs : List (Str × β)) (k : Str) (v : β) : List (Str × β) :=
  match fs with
  | [] => [(k, v)]
  | (j, w) :: r => bif strEq j k then (j, v) :: r else (j, w) :: putF r k v
def setV (x y v : OV) (h : OH) : R Unit :=
  match x with
  | .ref n => match h.get n with
    | some (.lst xs) => match y with | .int i => (match L2.ixN xs.length i with | some j => .ok () (h.put n (.lst (xs.set j v))) | none => .no) | _ => .no
    | some (.dct false kvs) => match y with | .str k => if kvs.length ≤ LIM then .ok () (h.put n (.dct false (putK kvs k v))) else .no | _ => .no
    | _ => .no
  | _ => .no
def fldV (T : Tb) (x : OV) (f : Str) (h : OH) : R OV :=
  match x with
  | .ref n => match h.get n with | some (.ins c fs) => if okC T c = true then R.of (lookK fs f) h else .no | _ => .no
  | _ => .no
def setF (T : Tb) (x : OV) (f : Str) (v : OV) (h : OH) : R Unit :=
  match x with
  | .ref n => match h.get n with | some (.ins c fs) => if okC T c = true ∧ fs.length < 900 then .ok () (h.put n (.ins c (putF fs f v))) else .no | _ => .no
  | _ => .no

/-! ### sorting -/
def insBy {α : Type} (lt : α → α → Bool) (x : α) : List α → List α
  | [] => [x]
  | y :: ys => if lt y x then y :: insBy lt x ys else x :: y :: ys
def sortBy {α : Type} (lt : α → α → Bool) : List α → List α
  | [] => []
  | x :: xs => insBy lt x (sortBy lt xs)
def strsOf : List OV → Option (List Str)
  | [] => some []
  | .str x :: r => match strsOf r with | some xs => some (x :: xs) | none => none
  | _ => none
def intsOf : List OV → Option (List Int)
  | [] => some []
  | .int x :: r => match intsOf r with | some xs => some (x :: xs) | none => none
  | _ => none
def boolsOf : List OV → Option (List Bool)
  | [] => some []
  | .bl x :: r => match boolsOf r with | some xs => some (x :: xs) | none => none
  | _ => none
def dedup (lt : Str → Str → Bool) : List Str → List Str
  | [] => []
  | x :: xs => if xs.any (strEq x) then dedup lt xs else x :: dedup lt xs
def setSorted (xs : List Str) : List Str := sortBy strLt (dedup strLt xs)
/-- the place in the order of a tuple: its first text, or its first int and its second text -/
inductive TKey where
  | s (x : Str)
  | is (i : Int) (x : Str)
def tkeyOf (h : OH) : OV → Option TKey
  | .ref n => match h.get n with
    | some (.tup (.str x :: _)) => some (.s x)
    | some (.tup [.int i, .str x]) => some (.is i x)
    | _ => none
  | _ => none
def TKey.lt : TKey → TKey → Option Bool
  | .s a, .s b => if strEq a b = true then none else some (strLt a b)
  | .is i a, .is j b => if i = j then (if strEq a b = true then none else some (strLt a b)) else some (decide (i < j))
  | _, _ => none
/-- all unlike and of one kind -/
def tkeysOk : List TKey → Bool
  | [] => true
  | k :: r => r.all (fun j => (TKey.lt k j).isSome) && tkeysOk r
/-- the order of the keys, all of them -/
def tlt : TKey → TKey → Bool
  | .s a, .s b => strLt a b
  | .s _, .is _ _ => true
  | .is _ _, .s _ => false
  | .is i a, .is j b => if i = j then strLt a b else decide (i < j)
def pairLt (a b : TKey × OV) : Bool := tlt a.1 b.1
def sortedV (xs : List OV) (h : OH) : R OV :=
  match strsOf xs with
  | some ss => newR (.lst ((sortBy strLt ss).map .str)) h
  | none => match intsOf xs with
    | some is => newR (.lst ((sortBy (fun a b => decide (a < b)) is).map .int)) h
    | none => match mapO (tkeyOf h) xs with
      | some ks => if tkeysOk ks then newR (.lst ((sortBy pairLt (ks.zip xs)).map (·.2))) h else .no
      | none => .no

/-! ### built-in functions and methods -/
def pairsOf (h : OH) : List OV → Option (List (Str × OV))
  | [] => some []
  | .ref n :: r => match h.get n with
    | some (.tup [.str k, v]) => match pairsOf h r with | some ps => some ((k, v) :: ps) | none => none
    | _ => none
  | _ => none
def mergeP {β : Type} (kvs : List (Str × β)) : List (Str × β) → List (Str × β)
  | [] => kvs
  | (k, v) :: r => mergeP (putK kvs k v) r
def maxI (x : Int) : List Int → Int
  | [] => x
  | y :: r => maxI (if x < y then y else x) r
def charsOf (z : Str) : List OV := z.cps.toList.map fun c => .str ⟨#[c]⟩
def bfV (b : BF) (xs : List OV) (h : OH) : R OV :=
  match b, xs with
  | .len, [x] => match x with
    | .str z => if z.length ≤ LIM then .ok (.int z.length) h else .no
    | .ref n => match h.get n with
      | some (.lst ys) => .ok (.int ys.length) h
      | some (.tup ys) => .ok (.int ys.length) h
      | some (.dct false kvs) => .ok (.int kvs.length) h
      | _ => .no
    | .scr => .ok (.int h.scr.length) h
    | _ => .no
  | .all, [x] => match (lstOf h x).bind boolsOf with | some bs => .ok (.bl (bs.all id)) h | none => .no
  | .any, [x] => match (lstOf h x).bind boolsOf with | some bs => .ok (.bl (bs.any id)) h | none => .no
  | .list, [x] => match x with
    | .ref n => match h.get n with
      | some (.lst ys) => newR (.lst ys) h
      | some (.tup ys) => newR (.lst ys) h
      | some (.dct false kvs) => newR (.lst (kvs.map fun p => .str p.1)) h
      | _ => .no
    | .scr => newR (.lst h.scr) h
    | _ => .no
  | .dict, [x] => match x with
    | .ref n => match h.get n with
      | some (.dct false kvs) => newR (.dct false kvs) h
      | some (.lst ys) => match pairsOf h ys with | some ps => newR (.dct false (mergeP [] ps)) h | none => .no
      | _ => .no
    | _ => .no
  | .max, [x] => match (lstOf h x).bind intsOf with | some (i :: is) => .ok (.int (maxI i is)) h | _ => .no
  | .min, [.int i, .int j] => .ok (.int (if j < i then j else i)) h
  | .sorted, [x] => match lstOf h x with | some ys => sortedV ys h | none => .no
  | .abs, [.int i] => .ok (.int (if i < 0 then -i else i)) h
  | .tuple, [x] => match x with
    | .ref n => match h.get n with
      | some (.lst ys) => newR (.tup ys) h
      | some (.tup _) => .ok x h
      | _ => .no
    | _ => .no
  | _, _ => .no
def firstAt (x : OV) : List OV → Nat → Option Nat
  | [], _ => none
  | y :: r, i => if eqF y x then some i else firstAt x r (i + 1)
def joinS (a : Str) : List Str → Str
  | [] => Str.empty
  | [x] => x
  | x :: r => x ++ (a ++ joinS a r)
def bmV (m : BM) (x : OV) (vs : List OV) (h : OH) : R OV :=
  match m, vs with
  | .append, [v] => match x with
    | .ref n => match h.get n with | some (.lst xs) => if xs.length < LIM then .ok .non (h.put n (.lst (xs ++ [v]))) else .no | _ => .no
    | _ => .no
  | .extend, [v] => match x, v with
    | .ref n, .ref k => match h.get n, h.get k with | some (.lst xs), some (.lst ys) => if xs.length + ys.length ≤ LIM then .ok .non (h.put n (.lst (xs ++ ys))) else .no | _, _ => .no
    | _, _ => .no
  | .insert, [.int i, v] => match x with
    | .ref n => match h.get n with | some (.lst xs) => if 0 ≤ i ∧ i < 1000000 ∧ xs.length < LIM then .ok .non (h.put n (.lst (xs.take i.toNat ++ [v] ++ xs.drop i.toNat))) else .no | _ => .no
    | _ => .no
  | .pop0, [] => match x with
    | .ref n => match h.get n with | some (.lst xs) => (match xs[xs.length - 1]? with | some y => .ok y (h.put n (.lst xs.dropLast)) | none => .no) | _ => .no
    | _ => .no
  | .pop, [v] => match x with
    | .ref n => match h.get n, v with
      | some (.lst xs), .int i => if -1000000 ≤ i ∧ i < 1000000 then (match L2.ixN xs.length i with | some k => (match xs[k]? with | some y => .ok y (h.put n (.lst (xs.eraseIdx k))) | none => .no) | none => .no) else .no
      | some (.dct false kvs), .str k => (match lookK kvs k with | some y => .ok y (h.put n (.dct false (dropK kvs k))) | none => .no)
      | _, _ => .no
    | _ => .no
  | .pop2, [.str k, d] => match x with
    | .ref n => match h.get n with
      | some (.dct false kvs) => (match lookK kvs k with | some y => .ok y (h.put n (.dct false (dropK kvs k))) | none => .ok d h)
      | _ => .no
    | _ => .no
  | .reverse, [] => match x with
    | .ref n => match h.get n with | some (.lst xs) => .ok .non (h.put n (.lst xs.reverse)) | _ => .no
    | _ => .no
  | .clear, [] => match x with
    | .ref n => match h.get n with | some (.lst xs) => .ok .non (h.put n (.lst [])) | _ => .no
    | _ => .no
  | .index, [v] => match x with
    | .ref n => match h.get n with
      | some (.lst xs) => if flatO v && xs.all flatO then (match firstAt v xs 0 with | some i => .ok (.int i) h | none => .no) else .no
      | _ => .no
    | _ => .no
  | .get2, [.str k, d] => match x with
    | .ref n => match h.get n with | some (.dct false kvs) => .ok ((lookK kvs k).getD d) h | _ => .no
    | _ => .no
  | .endswith, [.str b] => match x with | .str a => .ok (.bl (Txt.endswith a b)) h | _ => .no
  | .join, [v] => match x with
    | .str a => match (lstOf h v).bind strsOf with
      | some ys => if (ys.map (·.length)).sum + ys.length * a.length ≤ LIM then .ok (.str (Txt.join a ys)) h else .no
      | none => .no
    | _ => .no
  | _, _ => .no

/-! ### what isinstance tells -/
def isOwn (T : Tb) (k : Nat) (c : CI) : Bool :=
  match c with
  | .own d => (match T.clss[k]? with | some t => t.mro.contains d | none => false)
  | _ => false
def isiT (T : Tb) (h : OH) (v : OV) (c : CI) : Option Bool :=
  match v with
  | .non => some false
  | .bl _ => some (c == .bool || c == .int)
  | .int _ => some (c == .int)
  | .str _ => some (c == .str)
  | .ref n => match h.get n with
    | some (.lst _) => some (c == .lst)
    | some (.tup _) => some (c == .tup)
    | some (.dct false _) => some false
    | some (.ins k _) => if okC T k = true then some (isOwn T k c) else none
    | _ => none
  | .scr => none
def isiV (T : Tb) (h : OH) (v : OV) (c : CI) : R OV := R.of ((isiT T h v c).map .bl) h
/-- a receiver's kind -/
inductive RK where | lst | dct | str
  deriving DecidableEq
def rcvK (x : OV) (h : OH) : Option RK :=
  match x with
  | .str _ => some .str
  | .ref n => match h.get n with
    | some (.lst _) => some .lst
    | some (.dct false _) => some .dct
    | _ => none
  | _ => none
def okKind (m : BM) (k : RK) : Bool :=
  match m with
  | .get2 => k == .dct
  | .pop2 => k == .dct
  | .pop => k == .dct || k == .lst
  | .endswith => k == .str
  | .join => k == .str
  | _ => k == .lst
def bmK (k : RK) (m : BM) (x : OV) (vs : List OV) (h : OH) : R OV := if rcvK x h = some k then bmV m x vs h else .no
/-! ### what is walked -/
inductive Src where
  | lst (a : Nat) | scr | tup (a : Nat) | rng (lo : Int) (n : Nat) | chr (z : Str) | keys (a : Nat) (own : Bool) | enum (a : Nat) | zip (a b : Nat)
/-- the i-th item -/
def itemV (s : Src) (i : Nat) (h : OH) : R OV :=
  match s with
  | .lst a => match h.get a with | some (.lst xs) => R.of xs[i]? h | _ => .no
  | .scr => R.of h.scr[i]? h
  | .tup a => match h.get a with | some (.tup xs) => R.of xs[i]? h | _ => .no
  | .rng lo n => if i < n then .ok (.int (lo + i)) h else .no
  | .chr z => R.of (z.cps.toList[i]?.map fun c => .str ⟨#[c]⟩) h
  | .keys a _ => match h.get a with | some (.dct true kvs) => R.of (kvs[i]?.map fun p => .str p.1) h | _ => .no
  | .enum a => match h.get a with | some (.lst xs) => (match xs[i]? with | some x => newR (.tup [.int i, x]) h | none => .no) | _ => .no
  | .zip a b => match h.get a, h.get b with
    | some (.lst xs), some (.lst ys) => (match xs[i]?, ys[i]? with | some x, some y => newR (.tup [x, y]) h | _, _ => .no)
    | _, _ => .no
/-- nothing is left behind n items -/
def endV (s : Src) (n : Nat) (h : OH) : Bool :=
  match s with
  | .lst a => match h.get a with | some (.lst xs) => xs.length == n | _ => false
  | .scr => h.scr.length == n
  | .tup a => match h.get a with | some (.tup xs) => xs.length == n | _ => false
  | .rng _ k => k == n
  | .chr z => z.cps.toList.length == n
  | .keys a _ => match h.get a with | some (.dct true kvs) => kvs.length == n | _ => false
  | .enum a => match h.get a with | some (.lst xs) => xs.length == n | _ => false
  | .zip a b => match h.get a, h.get b with | some (.lst xs), some (.lst ys) => xs.length == n && ys.length == n || xs.length == n && n < ys.length || n < xs.length && ys.length == n | _, _ => false
def srcV (v : OV) (h : OH) : R (Src × Nat) :=
  match v with
  | .scr => .ok (.scr, h.scr.length) h
  | .str z => .ok (.chr z, z.cps.toList.length) h
  | .ref n => match h.get n with
    | some (.lst xs) => .ok (.lst n, xs.length) h
    | some (.tup xs) => .ok (.tup n, xs.length) h
    | _ => .no
  | _ => .no
/-- .. a dict, too: it is locked for the walk -/
def srcK (v : OV) (h : OH) : R (Src × Nat) :=
  match v with
  | .ref n => match h.get n with
    | some (.dct false kvs) => .ok (.keys n true, kvs.length) (h.put n (.dct true kvs))
    | some (.dct true kvs) => .ok (.keys n false, kvs.length) h
    | _ => srcV v h
  | _ => srcV v h
/-- a dict that was locked for a walk is let go -/
def unlock (s : Src) (h : OH) : Option OH :=
  match s with
  | .keys a true => match h.get a with | some (.dct true kvs) => some (h.put a (.dct false kvs)) | _ => none
  | _ => some h
def wipeE (e : En) : List Nat → En
  | [] => e
  | v :: vs => (wipeE e vs).set v none

/-! ### loops -/
def whM : Nat → (En → OH → R Bool) → (En → OH → RS) → En → OH → RS
  | 0, _, _, _, _ => .no
  | n + 1, t, b, e, h => (t e h).thenS e fun c h1 => if c = true then (b e h1).bind fun f e1 h2 => match f with
      | .nx => whM n t b e1 h2
      | .ct => whM n t b e1 h2
      | .bk => .ok .nx e1 h2
      | .rt v => .ok (.rt v) e1 h2
    else .ok .nx e h1
def forM (s : Src) (tg : OV → En → OH → R En) (b : En → OH → RS) : Nat → Nat → En → OH → RS
  | 0, i, e, h => if endV s i h = true then .ok .nx e h else .no
  | n + 1, i, e, h => (itemV s i h).thenS e fun x h1 => (tg x e h1).thenS e fun e1 h2 => (b e1 h2).bind fun f e2 h3 => match f with
      | .nx => forM s tg b n (i + 1) e2 h3
      | .ct => forM s tg b n (i + 1) e2 h3
      | .bk => .ok .nx e2 h3
      | .rt v => .ok (.rt v) e2 h3
def lcM (s : Src) (tg : OV → En → OH → R En) (c : En → OH → R Bool) (m : En → OH → R OV) (e : En) (D : Nat) : Nat → Nat → OH → R Unit
  | 0, i, h => if endV s i h = true then .ok () h else .no
  | n + 1, i, h => (itemV s i h).bind fun x h1 => (tg x e h1).bind fun e1 h2 => (c e1 h2).bind fun k h3 =>
      if k = true then (m e1 h3).bind fun y h4 => match h4.get D with
        | some (.lst ys) => if ys.length < LIM then lcM s tg c m e D n (i + 1) (h4.put D (.lst (ys ++ [y]))) else .no
        | _ => .no
      else lcM s tg c m e D n (i + 1) h3

/-! ### what a piece of syntax does -/
structure Den where
  ex : En → OH → R OV := fun _ _ => .no
  xs : En → OH → R (List OV) := fun _ _ => .no
  ts : En → OH → R Bool := fun _ _ => .no
  op : En → OH → R (Option Int) := fun _ _ => .no
  it : En → OH → R (Src × Nat) := fun _ _ => .no
  tg : OV → En → OH → R En := fun _ _ _ => .no
  tgs : List OV → En → OH → R En := fun _ _ _ => .no
  st : En → OH → RS := fun _ _ => .no
def truR (x : R OV) : R Bool := x.bind fun v h => R.of (truO h v) h
def Den.E (m : En → OH → R OV) : Den := { ex := m, ts := fun e h => truR (m e h), op := fun e h => (m e h).bind fun v h => match v with | .int i => .ok (some i) h | _ => .no }
def getV (e : En) (i : Nat) : Option OV := match e[i]? with | some (some v) => some v | _ => none
def setAll (e : En) : List Nat → List OV → Option En
  | [], [] => some e
  | i :: is, v :: vs => setAll (e.set i (some v)) is vs
  | _, _ => none
def WHN : Nat := 3000
def boolR (x : R OV) (f : Bool → OH → R OV) : R OV := x.bind fun v h => match v with | .bl b => f b h | _ => .no
def noEx {α : Type} : R α → R α
  | .ok a h => .ok a h
  | _ => .no
/-! one word a construct -/
def dNon : Den := .E fun _ h => .ok .non h
def dBl (b : Bool) : Den := .E fun _ h => .ok (.bl b) h
def dInt (i : Int) : Den := .E fun _ h => .ok (.int i) h
def dStr (x : Str) : Den := .E fun _ h => .ok (.str x) h
def dVar (i : Nat) : Den := .E fun e h => R.of (getV e i) h
def dGc (v : OV) : Den := .E fun _ h => .ok v h
def dBin (op : BOp) (a b : Den) : Den := .E fun e h => (a.ex e h).bind fun x h => (b.ex e h).bind fun y h => noEx (binV op x y h)
def negV (x : OV) (h : OH) : R OV := match x with | .int i => .ok (.int (-i)) h | _ => .no
def dNeg (a : Den) : Den := .E fun e h => (a.ex e h).bind fun x h => noEx (negV x h)
def dNot (a : Den) : Den :=
  { ex := fun e h => boolR (a.ex e h) fun b h => .ok (.bl (!b)) h, ts := fun e h => (a.ts e h).bind fun b h => .ok (!b) h }
def dCmp (op : COp) (a b : Den) : Den := .E fun e h => (a.ex e h).bind fun x h => (b.ex e h).bind fun y h => noEx (cmpV op x y h)
def dChain (o1 o2 : COp) (a b c : Den) : Den :=
  .E fun e h => (a.ex e h).bind fun x h => (b.ex e h).bind fun y h => boolR (noEx (cmpV o1 x y h)) fun k h => if k = true then (c.ex e h).bind fun z h => noEx (cmpV o2 y z h) else .ok (.bl false) h
def dAnd (a b : Den) : Den :=
  { ex := fun e h => boolR (a.ex e h) fun k h => if k = true then b.ex e h else .ok (.bl false) h,
    ts := fun e h => (a.ts e h).bind fun k h => if k = true then b.ts e h else .ok false h }
def dOr (a b : Den) : Den :=
  { ex := fun e h => boolR (a.ex e h) fun k h => if k = true then .ok (.bl true) h else b.ex e h,
    ts := fun e h => (a.ts e h).bind fun k h => if k = true then .ok true h else b.ts e h }
def dIfe (t a b : Den) : Den := { ex := fun e h => (t.ts e h).bind fun k h => if k = true then a.ex e h else b.ex e h }
def mkLst (xs : List OV) (h : OH) : R OV := if xs.length ≤ LIM then newR (.lst xs) h else .no
def mkTup (xs : List OV) (h : OH) : R OV := if xs.length ≤ LIM then newR (.tup xs) h else .no
def dLst (es : Den) : Den := .E fun e h => (es.xs e h).bind fun xs h => noEx (mkLst xs h)
def dTup (es : Den) : Den := .E fun e h => (es.xs e h).bind fun xs h => noEx (mkTup xs h)
def dctV (ks : List Str) (n : Nat) (xs : List OV) (h : OH) : R OV :=
  if xs.length = ks.length then (match h.get n with | some (.dct false []) => .ok (.ref n) (h.put n (.dct false (mergeP [] (ks.zip xs)))) | _ => .no) else .no
def dDct (ks : List Str) (es : Den) : Den :=
  .E fun e h => if ks.length ≤ 15 then (es.xs e (h.new (.dct false []))).bind fun xs h2 => noEx (dctV ks h.n xs h2) else .no
def dIx (a b : Den) : Den := .E fun e h => (a.ex e h).bind fun x h => (b.ex e h).bind fun y h => noEx (ixV x y h)
def dSl (a lo hi : Den) : Den := .E fun e h => (a.ex e h).bind fun x h => (lo.op e h).bind fun i h => (hi.op e h).bind fun j h => noEx (slV x i j h)
def revV (x : OV) (h : OH) : R OV := match lstOf h x with | some xs => newR (.lst xs.reverse) h | none => .no
def dRev (a : Den) : Den := .E fun e h => (a.ex e h).bind fun x h => noEx (revV x h)
def dFld (T : Tb) (a : Den) (f : Str) : Den := .E fun e h => (a.ex e h).bind fun x h => noEx (fldV T x f h)
def dCall (call : Nat → List OV → OH → R OV) (f : Nat) (es : Den) : Den := .E fun e h => (es.xs e h).bind fun xs h => call f xs h
def nonR (x : R OV) (n : Nat) : R OV := x.bind fun v h => match v with | .non => .ok (.ref n) h | _ => .no
def mkIns (T : Tb) (call : Nat → List OV → OH → R OV) (c : Nat) (xs : List OV) (h : OH) : R OV :=
  match (T.clss[c]?).bind (·.init) with
  | some f => nonR (call f (.ref h.n :: xs) (h.new (.ins c []))) h.n
  | none => .no
def dMake (T : Tb) (call : Nat → List OV → OH → R OV) (c : Nat) (es : Den) : Den := .E fun e h => (es.xs e h).bind fun xs h => noEx (mkIns T call c xs h)
def hasM (h : OH) (c : Nat) (m : Str) : OV → Bool
  | .ref n => match h.get n with
    | some (.ins k fs) => Nat.beq k c && (lookK fs m).isNone
    | _ => false
  | _ => false
def pickM (h : OH) (m : Str) (x : OV) : List (Nat × Nat) → Option Nat
  | [] => none
  | (c, f) :: r => bif hasM h c m x then some f else pickM h m x r
def dMeth (call : Nat → List OV → OH → R OV) (a : Den) (ms : List (Nat × Nat)) (m : Str) (es : Den) : Den :=
  .E fun e h => (a.ex e h).bind fun x h => match pickM h m x ms with
    | some f => (es.xs e h).bind fun xs h => call f (x :: xs) h
    | none => .no
def dBf (b : BF) (es : Den) : Den := .E fun e h => (es.xs e h).bind fun xs h => noEx (bfV b xs h)
def dBm (a : Den) (m : BM) (es : Den) : Den := .E fun e h => (a.ex e h).bind fun x h => match rcvK x h with
    | some k => if okKind m k = true then (es.xs e h).bind fun xs h => noEx (bmK k m x xs h) else .no
    | none => .no
def dIsi (T : Tb) (a : Den) (c : CI) : Den := .E fun e h => (a.ex e h).bind fun x h => noEx (isiV T h x c)
def ssetV (x : OV) (h : OH) : R OV := match (lstOf h x).bind strsOf with | some ss => if ss.length ≤ 4000 then newR (.lst ((setSorted ss).map .str)) h else .no | none => .no
def lsetV (x : OV) (h : OH) : R OV := match (lstOf h x).bind strsOf with | some ss => if ss.length ≤ 4000 then .ok (.int (dedup strLt ss).length) h else .no | none => .no
def dSset (a : Den) : Den := .E fun e h => (a.ex e h).bind fun x h => noEx (ssetV x h)
def dLset (a : Den) : Den := .E fun e h => (a.ex e h).bind fun x h => noEx (lsetV x h)
def unlR (s : Src) (D : Nat) (h : OH) : R OV := match unlock s h with | some h => .ok (.ref D) h | none => .no
def dComp (m t it c : Den) (own : List Nat) : Den :=
  .E fun e h => noEx ((it.it e h).bind fun s h => (lcM s.1 t.tg c.ts m.ex (wipeE e own) h.n s.2 0 (h.new (.lst []))).bind fun _ h2 => unlR s.1 h.n h2)
def dNil : Den := { xs := fun _ h => .ok [] h, ts := fun _ h => .ok true h, op := fun _ h => .ok none h, tgs := fun vs e h => match vs with | [] => .ok e h | _ => .no }
def dCons (a b : Den) : Den :=
  { xs := fun e h => (a.ex e h).bind fun x h => (b.xs e h).bind fun xs h => .ok (x :: xs) h,
    tgs := fun vs e h => match vs with | v :: vs => (a.tg v e h).bind fun e h => b.tgs vs e h | [] => .no }
def dIex (a : Den) : Den := { it := fun e h => (a.ex e h).bind fun x h => noEx (srcV x h) }
def dIkv (i : Nat) : Den := { it := fun e h => (R.of (getV e i) h).bind fun x h => noEx (srcK x h) }
def rngOk (i : Int) : Bool := decide (-1000000000 ≤ i) && decide (i < 1000000000)
def ir1V (x : OV) (h : OH) : R (Src × Nat) := match x with | .int j => if rngOk j = true then .ok (.rng 0 j.toNat, j.toNat) h else .no | _ => .no
def ir2V (x y : OV) (h : OH) : R (Src × Nat) := match x, y with
  | .int i, .int j => if rngOk i = true ∧ rngOk j = true then .ok (.rng i (j - i).toNat, (j - i).toNat) h else .no
  | _, _ => .no
def ienV (x : OV) (h : OH) : R (Src × Nat) := match x with | .ref n => (match h.get n with | some (.lst xs) => .ok (.enum n, xs.length) h | _ => .no) | _ => .no
def izpV (x y : OV) (h : OH) : R (Src × Nat) := match x, y with
  | .ref n, .ref k => (match h.get n, h.get k with | some (.lst xs), some (.lst ys) => .ok (.zip n k, min xs.length ys.length) h | _, _ => .no)
  | _, _ => .no
def dIr1 (a : Den) : Den := { it := fun e h => (a.ex e h).bind fun x h => noEx (ir1V x h) }
def dIr2 (a b : Den) : Den := { it := fun e h => (a.ex e h).bind fun x h => (b.ex e h).bind fun y h => noEx (ir2V x y h) }
def dIen (a : Den) : Den := { it := fun e h => (a.ex e h).bind fun x h => noEx (ienV x h) }
def dIzp (a b : Den) : Den := { it := fun e h => (a.ex e h).bind fun x h => (b.ex e h).bind fun y h => noEx (izpV x y h) }
def dTn (i : Nat) : Den := { tg := fun v e h => .ok (e.set i (some v)) h }
def tupOf (h : OH) : OV → Option (List OV)
  | .ref n => match h.get n with | some (.tup xs) => some xs | _ => none
  | _ => none
def dTt (n : Nat) (ts : Den) : Den := { tg := fun v e h => match tupOf h v with | some xs => if xs.length = n then noEx (ts.tgs xs e h) else .no | none => .no }
def dTf (T : Tb) (a : Den) (f : Str) : Den := { tg := fun v e h => (a.ex e h).bind fun x h => (noEx (setF T x f v h)).bind fun _ h => .ok e h }
def dTs (a i : Den) : Den := { tg := fun v e h => (a.ex e h).bind fun x h => (i.ex e h).bind fun y h => (noEx (setV x y v h)).bind fun _ h => .ok e h }
def dSex (a : Den) : Den := { st := fun e h => (a.ex e h).thenS e fun _ h => .ok .nx e h }
def dSas (t a : Den) : Den := { st := fun e h => (a.ex e h).thenS e fun x h => (t.tg x e h).thenS e fun e h => .ok .nx e h }
def dSpar (is : List Nat) (es : Den) : Den := { st := fun e h => (es.xs e h).thenS e fun vs h => match setAll e is vs with | some e => .ok .nx e h | none => .no }
def dAug (i : Nat) (a : Den) : Den :=
  { st := fun e h => match getV e i with
      | some (.int x) => (a.ex e h).thenS e fun y h => (match y with | .int y => .ok .nx (e.set i (some (.int (x + y)))) h | _ => .no)
      | _ => .no }
def dRet (a : Den) : Den := { st := fun e h => (a.ex e h).thenS e fun x h => .ok (.rt x) e h }
def dRetn : Den := { st := fun e h => .ok (.rt .non) e h }
def dSif (c a b : Den) : Den := { st := fun e h => (c.ts e h).thenS e fun k h => if k = true then a.st e h else b.st e h }
def dSwh (c b : Den) : Den := { st := fun e h => whM WHN c.ts b.st e h }
def isKeys : Src → Bool
  | .keys _ _ => true
  | _ => false
def dSfor (t it b : Den) : Den :=
  { st := fun e h => (it.it e h).thenS e fun s h => if isKeys s.1 = true then .no else forM s.1 t.tg b.st s.2 0 e h }
def dSpass : Den := { st := fun e h => .ok .nx e h }
def dSno : Den := {}
def dSnil : Den := { st := fun e h => .ok .nx e h }
def dScont : Den := { st := fun e h => .ok .ct e h }
def dSbrk : Den := { st := fun e h => .ok .bk e h }
def dSraise (c : Nat) : Den := { st := fun e h => .ex c e h }
def dStry (T : Tb) (b : Den) (c : Nat) (s : Den) : Den :=
  { st := fun e h => match b.st e h with
      | .ok f e h => .ok f e h
      | .ex k e h => (match T.clss[k]? with | some t => if t.mro.contains c then s.st e h else .ex k e h | none => .no)
      | .no => .no }
def dScons (a b : Den) : Den := { st := fun e h => (a.st e h).bind fun f e h => match f with | .nx => b.st e h | _ => .ok f e h }

/-- what a piece of syntax does, by the recursor alone (the kernel reckons with it) -/
noncomputable def den (T : Tb) (call : Nat → List OV → OH → R OV) (a : A) : Den :=
  A.rec (motive := fun _ => Den)
    dNon
    (fun b => dBl  b)
    (fun i => dInt  i)
    (fun x => dStr  x)
    (fun i => dVar  i)
    (fun x v => dGc  v)
    (fun op a b ad bd => dBin  op ad bd)
    (fun a ad => dNeg  ad)
    (fun a ad => dNot  ad)
    (fun op a b ad bd => dCmp  op ad bd)
    (fun o1 o2 a b c ad bd cd => dChain  o1 o2 ad bd cd)
    (fun a b ad bd => dAnd  ad bd)
    (fun a b ad bd => dOr  ad bd)
    (fun t a b td ad bd => dIfe  td ad bd)
    (fun es esd => dLst  esd)
    (fun es esd => dTup  esd)
    (fun ks es esd => dDct  ks esd)
    (fun a b ad bd => dIx  ad bd)
    (fun a lo hi ad lod hid => dSl  ad lod hid)
    (fun a ad => dRev  ad)
    (fun a f ad => dFld T ad f)
    (fun f es esd => dCall call f esd)
    (fun c es esd => dMake T call c esd)
    (fun a ms m es ad esd => dMeth call ad ms m esd)
    (fun b es esd => dBf  b esd)
    (fun a m es ad esd => dBm  ad m esd)
    (fun a cs ad => dIsi T ad cs)
    (fun a ad => dSset  ad)
    (fun a ad => dLset  ad)
    (fun e t it c own ed td itd cd => dComp  ed td itd cd own)
    dNil
    (fun a b ad bd => dCons  ad bd)
    (fun a ad => dIex  ad)
    (fun i => dIkv  i)
    (fun a ad => dIr1  ad)
    (fun a b ad bd => dIr2  ad bd)
    (fun a ad => dIen  ad)
    (fun a b ad bd => dIzp  ad bd)
    (fun i => dTn  i)
    (fun n ts tsd => dTt n tsd)
    (fun a f ad => dTf T ad f)
    (fun a i ad id => dTs  ad id)
    (fun e ed => dSex  ed)
    (fun t e td ed => dSas  td ed)
    (fun is es esd => dSpar  is esd)
    (fun i e ed => dAug  i ed)
    (fun e ed => dRet  ed)
    dRetn
    (fun c a b cd ad bd => dSif  cd ad bd)
    (fun c b cd bd => dSwh  cd bd)
    (fun t it b td itd bd => dSfor  td itd bd)
    dSpass
    dScont
    dSbrk
    (fun c => dSraise  c)
    (fun b c s bd sd => dStry T bd c sd)
    dSno
    dSnil
    (fun a b ad bd => dScons  ad bd)
    (fun _ ad => ad)
    (fun _ ad => ad)
    a
/-- the same, to be run -/
def denX (T : Tb) (call : Nat → List OV → OH → R OV) : A → Den
  | .non  => dNon  
  | .bl b => dBl  b
  | .int i => dInt  i
  | .str x => dStr  x
  | .var i => dVar  i
  | .gc x v => dGc  v
  | .bin op a b => dBin  op (denX T call a) (denX T call b)
  | .neg a => dNeg  (denX T call a)
  | .not a => dNot  (denX T call a)
  | .cmp op a b => dCmp  op (denX T call a) (denX T call b)
  | .chain o1 o2 a b c => dChain  o1 o2 (denX T call a) (denX T call b) (denX T call c)
  | .and a b => dAnd  (denX T call a) (denX T call b)
  | .or a b => dOr  (denX T call a) (denX T call b)
  | .ife t a b => dIfe  (denX T call t) (denX T call a) (denX T call b)
  | .lst es => dLst  (denX T call es)
  | .tup es => dTup  (denX T call es)
  | .dct ks es => dDct  ks (denX T call es)
  | .ix a b => dIx  (denX T call a) (denX T call b)
  | .sl a lo hi => dSl  (denX T call a) (denX T call lo) (denX T call hi)
  | .rev a => dRev  (denX T call a)
  | .fld a f => dFld T (denX T call a) f
  | .call f es => dCall call f (denX T call es)
  | .make c es => dMake T call c (denX T call es)
  | .meth a ms m es => dMeth call (denX T call a) ms m (denX T call es)
  | .bf b es => dBf  b (denX T call es)
  | .bm a m es => dBm  (denX T call a) m (denX T call es)
  | .isi a cs => dIsi T (denX T call a) cs
  | .sset a => dSset  (denX T call a)
  | .lset a => dLset  (denX T call a)
  | .comp e t it c own => dComp  (denX T call e) (denX T call t) (denX T call it) (denX T call c) own
  | .nil  => dNil  
  | .cons a b => dCons  (denX T call a) (denX T call b)
  | .iex a => dIex  (denX T call a)
  | .ikv i => dIkv  i
  | .ir1 a => dIr1  (denX T call a)
  | .ir2 a b => dIr2  (denX T call a) (denX T call b)
  | .ien a => dIen  (denX T call a)
  | .izp a b => dIzp  (denX T call a) (denX T call b)
  | .tn i => dTn  i
  | .tt n ts => dTt n (denX T call ts)
  | .tf a f => dTf T (denX T call a) f
  | .ts a i => dTs  (denX T call a) (denX T call i)
  | .sex e => dSex  (denX T call e)
  | .sas t e => dSas  (denX T call t) (denX T call e)
  | .spar is es => dSpar  is (denX T call es)
  | .aug i e => dAug  i (denX T call e)
  | .ret e => dRet  (denX T call e)
  | .retn  => dRetn  
  | .sif c a b => dSif  (denX T call c) (denX T call a) (denX T call b)
  | .swh c b => dSwh  (denX T call c) (denX T call b)
  | .sfor t it b => dSfor  (denX T call t) (denX T call it) (denX T call b)
  | .spass  => dSpass  
  | .scont  => dScont  
  | .sbrk  => dSbrk  
  | .sraise c => dSraise  c
  | .stry b c s => dStry T (denX T call b) c (denX T call s)
  | .sno => dSno
  | .snil  => dSnil  
  | .scons a b => dScons  (denX T call a) (denX T call b)
  | .mu a => denX T call a
  | .pu a => denX T call a
def startE (F : FT) (vs : List OV) : En := vs.map some ++ List.replicate (F.ns - vs.length) none
def outR : RS → R OV
  | .ok f _ h => match f with | .rt v => .ok v h | .nx => .ok .non h | _ => .no
  | .ex c _ h => .ex c h
  | .no => .no
noncomputable def callN (T : Tb) : Nat → Nat → List OV → OH → R OV
  | 0, _, _, _ => .no
  | k + 1, f, vs, h => match T.funs[f]? with
    | some F => if vs.length = F.np then outR ((den T (callN T k) F.body).st (startE F vs) h) else .no
    | none => .no
def callX (T : Tb) : Nat → Nat → List OV → OH → R OV
  | 0, _, _, _ => .no
  | k + 1, f, vs, h => match T.funs[f]? with
    | some F => if vs.length = F.np then outR ((denX T (callX T k) F.body).st (startE F vs) h) else .no
    | none => .no
def h0 (ns : List Int) : OH := ⟨0, .e, ns.map .int⟩
end MP

end
section
set_option linter.all false
set_option maxRecDepth 100000
/-! MPBase: how the own heap lies in the abstract heap of the hand layer; readings. -/
namespace MP
open PySem L2

/-- what stays fixed: the written part, the classes' addresses, the script's address -/
structure Fx where
  K : PySem.W.Frag
  ca : Nat → Addr
  sa : Addr

/-- the map from own addresses, and what a locked dict's object is -/
structure Mp where
  ad : Nat → Addr
  lk : Nat → Obj
instance : CoeFun Mp (fun _ => Nat → Addr) := ⟨Mp.ad⟩
def Mp.zero : Mp := ⟨fun _ => 0, fun _ => { cls := .none, data := .dict #[] }⟩
def locked : OO → Bool
  | .dct true _ => true
  | _ => false

section
variable (F : Fx)
def tr (m : Mp) : OV → V
  | .non => .non
  | .bl b => .bl b
  | .int i => .int i
  | .str x => .str x
  | .ref n => .ref (m n)
  | .scr => .ref F.sa
abbrev trs (m : Mp) (xs : List OV) : List V := xs.map (tr F m)
abbrev trk (m : Mp) (kvs : List (Str × OV)) : List (Key × V) := kvs.map fun p => (Sum.inr p.1, tr F m p.2)
abbrev trf (m : Mp) (fs : List (Str × OV)) : List (Str × V) := fs.map fun p => (p.1, tr F m p.2)
abbrev trE (m : Mp) (e : En) : L2.St := e.map (Option.map (tr F m))
def RepO (m : Mp) (H : Hp) (i : Nat) : OO → Prop
  | .lst xs => H (m i) = some (.lst (trs F m xs))
  | .tup xs => H (m i) = some (.tup (trs F m xs))
  | .dct false kvs => H (m i) = some (.dK (trk F m kvs))
  | .dct true kvs => H (m i) = some (.frz (m.lk i) (.dK (trk F m kvs)))
  | .ins c fs => ∃ dx, H (m i) = some (.ins (F.ca c) dx (trf F m fs))
end
def val (n : Nat) : OV → Prop
  | .ref i => i < n
  | _ => True
def valO (n : Nat) : OO → Prop
  | .lst xs => ∀ x ∈ xs, val n x
  | .tup xs => ∀ x ∈ xs, val n x
  | .dct _ kvs => ∀ p ∈ kvs, val n p.2
  | .ins _ fs => ∀ p ∈ fs, val n p.2
def vals (n : Nat) (xs : List OV) : Prop := ∀ x ∈ xs, val n x
def valE (n : Nat) (e : En) : Prop := ∀ x, some x ∈ e → val n x
/-- the script as it lies: locked, or an object of the module -/
def ScrAt (F : Fx) (H : Hp) (ns : List Int) : Prop :=
  (∃ o, H F.sa = some (.frz o (.lst (ns.map V.int)))) ∨
    ∃ (o : Obj) (its : Array Value) (n : Nat), F.K.lookup F.sa = some o ∧ o.cls = .type "list" ∧ o.dict = none ∧ o.data = .seq its n ∧ its.size ≤ sizeLine ∧ L2.Vals (ns.map V.int) its.toList
structure Ok (F : Fx) (m : Mp) (h : OH) (H : Hp) : Prop where
  rep : ∀ i, i < h.n → ∃ o, h.get i = some o ∧ valO h.n o ∧ RepO F m H i o
  out : ∀ i, h.n ≤ i → h.get i = none
  inj : ∀ i j, i < h.n → j < h.n → m i = m j → i = j
  scr : ∃ ns : List Int, h.scr = ns.map OV.int ∧ ScrAt F H ns
structure Nx (F : Fx) (m : Mp) (h : OH) (m' : Mp) (h' : OH) (H' : Hp) : Prop where
  ok : Ok F m' h' H'
  le : h.n ≤ h'.n
  eq : ∀ i, i < h.n → m' i = m i
  fr : ∀ i kvs, h.get i = some (.dct true kvs) → h'.get i = some (.dct true kvs) ∧ m'.lk i = m.lk i

section
variable {F : Fx} {m m' m1 m2 : Mp} {h h' h1 h2 : OH} {H H' H1 H2 : Hp} {n n' : Nat}
theorem Nx.refl (ok : Ok F m h H) : Nx F m h m h H := ⟨ok, Nat.le_refl _, fun _ _ => rfl, fun _ _ e => ⟨e, rfl⟩⟩
theorem Nx.trans (a : Nx F m h m1 h1 H1) (b : Nx F m1 h1 m2 h2 H2) : Nx F m h m2 h2 H2 :=
  ⟨b.ok, Nat.le_trans a.le b.le, fun i hi => (b.eq i (Nat.lt_of_lt_of_le hi a.le)).trans (a.eq i hi),
    fun i kvs e => let ⟨e1, l1⟩ := a.fr i kvs e; let ⟨e2, l2⟩ := b.fr i kvs e1; ⟨e2, l2.trans l1⟩⟩
theorem val.mono {v : OV} (x : val n v) (l : n ≤ n') : val n' v := by
  cases v with
  | ref i => exact Nat.lt_of_lt_of_le x l
  | _ => trivial
theorem vals.mono {xs : List OV} (x : vals n xs) (l : n ≤ n') : vals n' xs := fun y hy => (x y hy).mono l
theorem valE.mono {e : En} (x : valE n e) (l : n ≤ n') : valE n' e := fun y hy => (x y hy).mono l
theorem valO.mono {o : OO} (x : valO n o) (l : n ≤ n') : valO n' o := by
  cases o with
  | lst xs => exact fun y hy => (x y hy).mono l
  | tup xs => exact fun y hy => (x y hy).mono l
  | dct b xs => exact fun y hy => (x y hy).mono l
  | ins b xs => exact fun y hy => (x y hy).mono l
theorem tr_eq {v : OV} (x : val n v) (q : ∀ i, i < n → m' i = m i) : tr F m' v = tr F m v := by
  cases v with
  | ref i => exact congrArg V.ref (q i x)
  | _ => rfl
theorem trs_eq {xs : List OV} (x : vals n xs) (q : ∀ i, i < n → m' i = m i) : trs F m' xs = trs F m xs :=
  List.map_congr_left fun v hv => tr_eq (x v hv) q
theorem trk_eq {xs : List (Str × OV)} (x : ∀ p ∈ xs, val n p.2) (q : ∀ i, i < n → m' i = m i) : trk F m' xs = trk F m xs :=
  List.map_congr_left fun v hv => by rw [tr_eq (x v hv) q]
theorem trf_eq {xs : List (Str × OV)} (x : ∀ p ∈ xs, val n p.2) (q : ∀ i, i < n → m' i = m i) : trf F m' xs = trf F m xs :=
  List.map_congr_left fun v hv => by rw [tr_eq (x v hv) q]
theorem trE_eq {e : En} (x : valE n e) (q : ∀ i, i < n → m' i = m i) : trE F m' e = trE F m e :=
  List.map_congr_left fun o ho => by
    cases o with
    | none => rfl
    | some v => exact congrArg some (tr_eq (x v ho) q)
theorem Nx.tr (a : Nx F m h m1 h1 H1) {v : OV} (x : val h.n v) : tr F m1 v = tr F m v := tr_eq x a.eq
theorem Nx.trs (a : Nx F m h m1 h1 H1) {v : List OV} (x : vals h.n v) : trs F m1 v = trs F m v := trs_eq x a.eq
theorem Nx.trE (a : Nx F m h m1 h1 H1) {e : En} (x : valE h.n e) : trE F m1 e = trE F m e := trE_eq x a.eq
theorem Ok.lt (ok : Ok F m h H) {i : Nat} {o : OO} (e : h.get i = some o) : i < h.n := by
  rcases Nat.lt_or_ge i h.n with q | q
  · exact q
  · rw [ok.out i q] at e; cases e
theorem Ok.at_ (ok : Ok F m h H) {i : Nat} {o : OO} (e : h.get i = some o) : valO h.n o ∧ RepO F m H i o := by
  obtain ⟨o', e', v, r⟩ := ok.rep i (ok.lt e)
  rw [e] at e'; cases e'
  exact ⟨v, r⟩
theorem Ok.lst (ok : Ok F m h H) {i : Nat} {xs : List OV} (e : h.get i = some (.lst xs)) : vals h.n xs ∧ H (m i) = some (.lst (trs F m xs)) := ok.at_ e
theorem Ok.tup (ok : Ok F m h H) {i : Nat} {xs : List OV} (e : h.get i = some (.tup xs)) : vals h.n xs ∧ H (m i) = some (.tup (trs F m xs)) := ok.at_ e
theorem Ok.dct (ok : Ok F m h H) {i : Nat} {xs : List (Str × OV)} (e : h.get i = some (.dct false xs)) : (∀ p ∈ xs, val h.n p.2) ∧ H (m i) = some (.dK (trk F m xs)) := ok.at_ e
theorem Ok.ins (ok : Ok F m h H) {i c : Nat} {xs : List (Str × OV)} (e : h.get i = some (.ins c xs)) : (∀ p ∈ xs, val h.n p.2) ∧ ∃ dx, H (m i) = some (.ins (F.ca c) dx (trf F m xs)) := ok.at_ e
theorem Ok.rd (ok : Ok F m h H) {i : Nat} {b : Bool} {xs : List (Str × OV)} (e : h.get i = some (.dct b xs)) : (∀ p ∈ xs, val h.n p.2) ∧ Rd H (m i) (.dK (trk F m xs)) := by
  cases b with
  | false => exact ⟨(ok.dct e).1, .inl (ok.dct e).2⟩
  | true => exact ⟨(ok.at_ e).1, .inr ⟨_, (ok.at_ e).2⟩⟩
/-- where an object of ours stands something is tracked -/
theorem RepO.any {i : Nat} {o : OO} (r : RepO F m H i o) : ∃ u, H (m i) = some u ∧ ∀ ob xs, u ≠ .frz ob (.lst xs) := by
  cases o with
  | lst xs => exact ⟨_, r, fun _ _ q => nomatch q⟩
  | tup xs => exact ⟨_, r, fun _ _ q => nomatch q⟩
  | dct b xs =>
    cases b with
    | false => exact ⟨_, r, fun _ _ q => nomatch q⟩
    | true => exact ⟨_, r, fun _ _ q => by injection q with _ q; cases q⟩
  | ins c xs =>
    obtain ⟨dx, r⟩ := r
    exact ⟨_, r, fun _ _ q => nomatch q⟩
theorem Ok.any (ok : Ok F m h H) {i : Nat} (l : i < h.n) : ∃ u, H (m i) = some u ∧ ∀ ob xs, u ≠ .frz ob (.lst xs) := by
  obtain ⟨o, _, _, r⟩ := ok.rep i l
  exact r.any
theorem ScrAt.sql {ns : List Int} (s : ScrAt F H ns) : SqL F.K H F.sa (ns.map V.int) := by
  rcases s with ⟨o, e⟩ | s
  · exact .inl (.inr ⟨o, e⟩)
  · exact .inr s
theorem trs_int (ns : List Int) : trs F m (ns.map OV.int) = ns.map V.int := by
  show List.map _ (List.map _ _) = _
  rw [List.map_map]; rfl
theorem Ok.scrL (ok : Ok F m h H) : SqL F.K H F.sa (trs F m h.scr) ∧ vals h.n h.scr := by
  obtain ⟨ns, e, s⟩ := ok.scr
  rw [e, trs_int]
  refine ⟨s.sql, fun x hx => ?_⟩
  obtain ⟨i, _, rfl⟩ := List.mem_map.mp hx
  trivial
theorem Ok.isL (ok : Ok F m h H) {v : OV} {xs : List OV} (e : lstOf h v = some xs) : vals h.n xs ∧ ∃ a, tr F m v = .ref a ∧ SqL F.K H a (trs F m xs) := by
  cases v with
  | ref i =>
    simp only [MP.lstOf] at e
    split at e
    · rename_i ys q
      cases e
      exact ⟨(ok.lst q).1, _, rfl, SqL.of (ok.lst q).2⟩
    · cases e
  | scr =>
    cases e
    exact ⟨ok.scrL.2, _, rfl, ok.scrL.1⟩
  | _ => cases e
/-- a map and its one more address -/
def extM (m : Mp) (n : Nat) (p : Addr) : Mp := ⟨fun i => if i = n then p else m i, m.lk⟩
theorem extM_self : extM m n p n = p := if_pos rfl
theorem extM_lt {i : Nat} {p : Addr} (l : i < n) : extM m n p i = m i := if_neg (Nat.ne_of_lt l)
theorem RepO.grow {i : Nat} {o : OO} (r : RepO F m H i o) (v : valO n o) (q : ∀ i, i < n → m' i = m i) (a : m' i = m i) (l : locked o = true → m'.lk i = m.lk i) (e : H' (m i) = H (m i)) : RepO F m' H' i o := by
  cases o with
  | lst xs => show H' (m' i) = _; rw [a, e, trs_eq v q]; exact r
  | tup xs => show H' (m' i) = _; rw [a, e, trs_eq v q]; exact r
  | dct b xs =>
    cases b with
    | false => show H' (m' i) = _; rw [a, e, trk_eq v q]; exact r
    | true => show H' (m' i) = _; rw [a, e, trk_eq v q, l rfl]; exact r
  | ins c xs =>
    obtain ⟨dx, r⟩ := r
    exact ⟨dx, by rw [a, e, trf_eq v q]; exact r⟩
/-- a new object -/
theorem Ok.grow {p : Addr} {o : OO} (ok : Ok F m h H) (s : Same H H') (np : H p = none) (v : valO h.n o) (r : RepO F (extM m h.n p) H' h.n o) : Nx F m h (extM m h.n p) (h.new o) H' := by
  have q : ∀ i, i < h.n → extM m h.n p i = m i := fun i l => extM_lt l
  have hn : (h.new o).n = h.n + 1 := rfl
  refine ⟨⟨fun i l => ?_, fun i l => ?_, fun i j l1 l2 e => ?_, ?_⟩, Nat.le_succ _, q, fun i kvs e => ⟨by rw [OH.get_new, if_neg (Nat.ne_of_lt (ok.lt e))]; exact e, rfl⟩⟩
  · rw [hn] at l ⊢
    rcases Nat.lt_or_ge i h.n with l' | l'
    · obtain ⟨o', e, v', r'⟩ := ok.rep i l'
      refine ⟨o', by rw [OH.get_new, if_neg (Nat.ne_of_lt l')]; exact e, v'.mono (Nat.le_succ _), ?_⟩
      obtain ⟨u, hu, _⟩ := r'.any
      exact r'.grow v' q (q i l') (fun _ => rfl) (by rw [hu]; exact s _ _ hu)
    · have ei : i = h.n := by omega
      subst ei
      exact ⟨o, by rw [OH.get_new, if_pos rfl], v.mono (Nat.le_succ _), r⟩
  · rw [hn] at l
    rw [OH.get_new, if_neg (by omega)]
    exact ok.out i (by omega)
  · rw [hn] at l1 l2
    have no : ∀ k, k < h.n → m k ≠ p := fun k l z => by
      obtain ⟨u, hu, _⟩ := ok.any l
      rw [z, np] at hu; cases hu
    rcases Nat.lt_or_ge i h.n with a | a
    · rcases Nat.lt_or_ge j h.n with b | b
      · rw [q i a, q j b] at e
        exact ok.inj i j a b e
      · have ej : j = h.n := by omega
        subst ej
        rw [q i a, extM_self] at e
        exact absurd e (no i a)
    · have ei : i = h.n := by omega
      subst ei
      rcases Nat.lt_or_ge j h.n with b | b
      · rw [q j b, extM_self] at e
        exact absurd e.symm (no j b)
      · omega
  · obtain ⟨ns, e, sc⟩ := ok.scr
    refine ⟨ns, e, ?_⟩
    rcases sc with ⟨ob, z⟩ | z
    · exact .inl ⟨ob, s _ _ z⟩
    · exact .inr z
theorem same_upd {p : Addr} {u : HO} (np : H p = none) : Same H (upd H p u) := fun b o e => by rw [upd_ne (ne_of_none e np)]; exact e
theorem Ok.newL {p : Addr} {xs : List OV} (ok : Ok F m h H) (np : H p = none) (v : vals h.n xs) : Nx F m h (extM m h.n p) (h.new (.lst xs)) (upd H p (.lst (trs F m xs))) :=
  ok.grow (same_upd np) np v (by show upd H p _ (extM m h.n p h.n) = _; rw [extM_self, upd_same, trs_eq v fun i l => extM_lt l])
theorem Ok.newT {p : Addr} {xs : List OV} (ok : Ok F m h H) (np : H p = none) (v : vals h.n xs) : Nx F m h (extM m h.n p) (h.new (.tup xs)) (upd H p (.tup (trs F m xs))) :=
  ok.grow (same_upd np) np v (by show upd H p _ (extM m h.n p h.n) = _; rw [extM_self, upd_same, trs_eq v fun i l => extM_lt l])
theorem Ok.newD {p : Addr} {kvs : List (Str × OV)} (ok : Ok F m h H) (np : H p = none) (v : ∀ q ∈ kvs, val h.n q.2) : Nx F m h (extM m h.n p) (h.new (.dct false kvs)) (upd H p (.dK (trk F m kvs))) :=
  ok.grow (o := .dct false kvs) (same_upd np) np v (by show upd H p _ (extM m h.n p h.n) = _; rw [extM_self, upd_same, trk_eq v fun i l => extM_lt l])
/-- an object changes -/
theorem Ok.put' {i : Nat} {o : OO} {u : HO} (ok : Ok F m h H) (l : i < h.n) (v : valO h.n o) (ea : m'.ad = m.ad) (el : ∀ j, j ≠ i → m'.lk j = m.lk j) (r : RepO F m' (upd H (m i) u) i o) : Ok F m' (h.put i o) (upd H (m i) u) := by
  have hn : (h.put i o).n = h.n := rfl
  have hm : ∀ j, m' j = m j := fun j => congrFun ea j
  refine ⟨fun j lj => ?_, fun j lj => ?_, fun j k lj lk e => ok.inj j k lj lk (by rw [← hm, ← hm]; exact e), ?_⟩
  · rw [hn] at lj ⊢
    by_cases e : j = i
    · subst e
      exact ⟨o, by rw [OH.get_put, if_pos rfl], v, r⟩
    · obtain ⟨o', e', v', r'⟩ := ok.rep j lj
      refine ⟨o', by rw [OH.get_put, if_neg e]; exact e', v', r'.grow v' (fun j _ => hm j) (hm j) (fun _ => el j e) ?_⟩
      rw [upd_ne fun z => e (ok.inj j i lj l z)]
  · rw [hn] at lj
    rw [OH.get_put, if_neg (by omega)]
    exact ok.out j lj
  · obtain ⟨ns, e, sc⟩ := ok.scr
    refine ⟨ns, e, ?_⟩
    rcases sc with ⟨ob, z⟩ | z
    · refine .inl ⟨ob, ?_⟩
      rw [upd_ne fun q => ?_]
      · exact z
      · obtain ⟨w, hw, hne⟩ := ok.any l
        rw [← q, z] at hw
        cases hw
        exact hne _ _ rfl
    · exact .inr z
theorem Ok.put {i : Nat} {o o0 : OO} {u : HO} (ok : Ok F m h H) (g : h.get i = some o0) (nl : locked o0 = false) (v : valO h.n o) (r : RepO F m (upd H (m i) u) i o) : Nx F m h m (h.put i o) (upd H (m i) u) := by
  refine ⟨ok.put' (ok.lt g) v rfl (fun _ _ => rfl) r, Nat.le_refl _, fun _ _ => rfl, fun j kvs e => ⟨?_, rfl⟩⟩
  rw [OH.get_put, if_neg fun z => ?_]
  · exact e
  · rw [z, g] at e; cases e; cases nl
theorem Ok.putL {i : Nat} {o0 : OO} {xs : List OV} (ok : Ok F m h H) (g : h.get i = some o0) (nl : locked o0 = false) (v : vals h.n xs) : Nx F m h m (h.put i (.lst xs)) (upd H (m i) (.lst (trs F m xs))) := ok.put (o := .lst xs) g nl v upd_same
theorem Ok.putD {i : Nat} {o0 : OO} {xs : List (Str × OV)} (ok : Ok F m h H) (g : h.get i = some o0) (nl : locked o0 = false) (v : ∀ p ∈ xs, val h.n p.2) : Nx F m h m (h.put i (.dct false xs)) (upd H (m i) (.dK (trk F m xs))) := ok.put (o := .dct false xs) g nl v upd_same
/-- a dict is locked, and let go -/
def Mp.lock (m : Mp) (i : Nat) (od : Obj) : Mp := ⟨m.ad, fun j => if j = i then od else m.lk j⟩
theorem Ok.lockD {i : Nat} {xs : List (Str × OV)} {od : Obj} (ok : Ok F m h H) (g : h.get i = some (.dct false xs)) : Nx F m h (m.lock i od) (h.put i (.dct true xs)) (upd H (m i) (.frz od (.dK (trk F m xs)))) := by
  refine ⟨ok.put' (o := .dct true xs) (ok.lt g) (ok.dct g).1 rfl (fun j e => if_neg e) ?_, Nat.le_refl _, fun _ _ => rfl, fun j kvs e => ?_⟩
  · show upd H (m i) _ (m i) = some (.frz (if i = i then od else m.lk i) _)
    rw [if_pos rfl]; exact upd_same
  · have ne : j ≠ i := fun z => by rw [z, g] at e; cases e
    exact ⟨by rw [OH.get_put, if_neg ne]; exact e, if_neg ne⟩
theorem Ok.unlockD {i : Nat} {xs : List (Str × OV)} (ok : Ok F m h H) (g : h.get i = some (.dct true xs)) : Ok F m (h.put i (.dct false xs)) (upd H (m i) (.dK (trk F m xs))) :=
  ok.put' (o := .dct false xs) (ok.lt g) (ok.at_ g).1 rfl (fun _ _ => rfl) upd_same
end

/-! ### what a computation's result means -/
section
variable (F : Fx)
/-- the result is as P wants it at whatever heap and map represent it; an exception as Ex wants it -/
def Out {α : Type} (m : Mp) (h : OH) (x : R α) (P : (Mp) → OH → Hp → α → Prop) (Ex : Nat → Hp → Prop) : Prop :=
  match x with
  | .ok a h' => ∀ m' H', Nx F m h m' h' H' → P m' h' H' a
  | .ex c h' => ∀ m' H', Nx F m h m' h' H' → Ex c H'
  | .no => False
end
section
variable {F : Fx} {α β : Type} {m : Mp} {h : OH} {H : Hp} {x : R α} {f : α → OH → R β} {P P' : (Mp) → OH → Hp → α → Prop} {B : (Mp) → OH → Hp → β → Prop} {Ex Ex' : Nat → Hp → Prop}
theorem Out.mono (o : Out F m h x P Ex) (k : ∀ m' h' H' a, Nx F m h m' h' H' → P m' h' H' a → P' m' h' H' a) (kx : ∀ c H', Ex c H' → Ex' c H') : Out F m h x P' Ex' := by
  cases x with
  | ok a h' => exact fun m' H' n => k _ _ _ _ n (o m' H' n)
  | ex c h' => exact fun m' H' n => kx _ _ (o m' H' n)
  | no => exact o
theorem Out.bind (o : Out F m h (x.bind f) B Ex) : Out F m h x (fun m1 h1 H1 a => Out F m1 h1 (f a h1) B Ex) Ex := by
  cases x with
  | ok a h1 =>
    intro m1 H1 n1
    have o' : Out F m h (f a h1) B Ex := o
    show Out F m1 h1 (f a h1) B Ex
    cases e : f a h1 with
    | ok b h2 =>
      rw [e] at o'
      exact fun m2 H2 n2 => o' m2 H2 (n1.trans n2)
    | ex c h2 =>
      rw [e] at o'
      exact fun m2 H2 n2 => o' m2 H2 (n1.trans n2)
    | no => rw [e] at o'; exact o'
  | ex c h1 => exact o
  | no => exact o
theorem Out.ok {a : α} {h' : OH} (o : Out F m h (.ok a h') P Ex) {m' : Mp} {H' : Hp} (n : Nx F m h m' h' H') : P m' h' H' a := o m' H' n
end
abbrev Cv (F : Fx) (c : Nat) : Value := .ref (F.ca c)

/-! ### readings -/
section
variable (F : Fx)
def rdE (W : WX) (f : En → OH → R OV) : TE := fun s H Q => ∃ m h e, Ok F m h H ∧ valE h.n e ∧ s = trE F m e ∧
  Out F m h (f e h) (fun m' h' H' v => val h'.n v → Q (tr F m' v) H') fun c H' => W (Cv F c) none s H'
def rdT (W : WX) (f : En → OH → R Bool) : TT := fun s H Q => ∃ m h e, Ok F m h H ∧ valE h.n e ∧ s = trE F m e ∧
  Out F m h (f e h) (fun _ _ H' v => Q v H') fun c H' => W (Cv F c) none s H'
def rdA (W : WX) (f : En → OH → R (List OV)) : TA := fun s H Q => ∃ m h e, Ok F m h H ∧ valE h.n e ∧ s = trE F m e ∧
  Out F m h (f e h) (fun m' h' H' v => vals h'.n v → Q (trs F m' v) H') fun c H' => W (Cv F c) none s H'
def rdO (W : WX) (f : En → OH → R (Option Int)) : TO := fun s H Q => ∃ m h e, Ok F m h H ∧ valE h.n e ∧ s = trE F m e ∧
  Out F m h (f e h) (fun _ _ H' v => Q v H') fun c H' => W (Cv F c) none s H'
end
/-- a statement's result -/
def OutS (F : Fx) (m : Mp) (h : OH) (x : RS) (P : (Mp) → OH → Hp → Fl → En → Prop) (Ex : (Mp) → Nat → En → Hp → Prop) : Prop :=
  match x with
  | .ok a e h' => ∀ m' H', Nx F m h m' h' H' → P m' h' H' a e
  | .ex c e h' => ∀ m' H', Nx F m h m' h' H' → Ex m' c e H'
  | .no => False
def flD (F : Fx) (D : Ends) (m : Mp) (h : OH) (H : Hp) (a : Fl) (e : En) : Prop :=
  valE h.n e → match a with
    | .nx => D.nx (trE F m e) H
    | .bk => D.bk (trE F m e) H
    | .ct => D.ct (trE F m e) H
    | .rt v => val h.n v → D.rt (tr F m v) H
def rdS (F : Fx) (W : WX) (f : En → OH → RS) : TS := fun D s H => ∃ m h e, Ok F m h H ∧ valE h.n e ∧ s = trE F m e ∧
  OutS F m h (f e h) (fun m' h' H' a e' => flD F D m' h' H' a e') fun m' c e' H' => W (Cv F c) none (trE F m' e') H'
/-- an operation on two values, on one, a call -/
def rOp (F : Fx) (f : OV → OV → OH → R OV) : R2 := fun x y H Q => ∃ m h a b, Ok F m h H ∧ val h.n a ∧ val h.n b ∧ x = tr F m a ∧ y = tr F m b ∧
  Out F m h (f a b h) (fun m' h' H' v => val h'.n v → Q (tr F m' v) H') fun _ _ => False
def rUn (F : Fx) (f : OV → OH → R OV) : V → Hp → VK → Prop := fun x H Q => ∃ m h a, Ok F m h H ∧ val h.n a ∧ x = tr F m a ∧
  Out F m h (f a h) (fun m' h' H' v => val h'.n v → Q (tr F m' v) H') fun _ _ => False
def rFn (F : Fx) (f : List OV → OH → R OV) : List V → Hp → VK → Prop := fun xs H Q => ∃ m h a, Ok F m h H ∧ vals h.n a ∧ xs = trs F m a ∧
  Out F m h (f a h) (fun m' h' H' v => val h'.n v → Q (tr F m' v) H') fun _ _ => False
def rMt (F : Fx) (f : OV → List OV → OH → R OV) : V → List V → Hp → VK → Prop := fun x xs H Q => ∃ m h b a, Ok F m h H ∧ val h.n b ∧ vals h.n a ∧ x = tr F m b ∧ xs = trs F m a ∧
  Out F m h (f b a h) (fun m' h' H' v => val h'.n v → Q (tr F m' v) H') fun _ _ => False
end MP

end
section
set_option linter.all false
set_option maxRecDepth 100000
/-! MPOps: the operations on values, each by its rule of the hand layer. -/
namespace MP
open PySem L2

/-! ### lists of values, carried over -/
section
variable {F : Fx} {m : Mp} {h : OH} {H : Hp}
theorem lim_le {n : Nat} (x : n ≤ LIM) : n ≤ sizeLine := Nat.le_trans x (by decide)
theorem lim_lt {n : Nat} (x : n < LIM) : n < sizeLine := Nat.lt_of_lt_of_le x (by decide)
theorem vals_app {n : Nat} {xs ys : List OV} (a : vals n xs) (b : vals n ys) : vals n (xs ++ ys) := fun x hx => (List.mem_append.mp hx).elim (a x) (b x)
theorem vals_nil {n : Nat} : vals n [] := fun _ z => nomatch z
theorem vals_cons {n : Nat} {x : OV} {xs : List OV} (a : val n x) (b : vals n xs) : vals n (x :: xs) := fun y hy => by
  rcases List.mem_cons.mp hy with e | e
  · rw [e]; exact a
  · exact b y e
theorem vals_sub {n : Nat} {xs ys : List OV} (a : vals n xs) (s : ∀ y ∈ ys, y ∈ xs) : vals n ys := fun y hy => a y (s y hy)
theorem trs_app (xs ys : List OV) : trs F m (xs ++ ys) = trs F m xs ++ trs F m ys := List.map_append
theorem trs_len (xs : List OV) : (trs F m xs).length = xs.length := List.length_map _
theorem atI_trs {α β : Type} (f : α → β) (xs : List α) (i : Int) : L2.atI (xs.map f) i = (L2.atI xs i).map f := by
  unfold L2.atI
  rw [List.length_map]
  cases L2.ixN xs.length i with
  | none => rfl
  | some j => simp
theorem atI_mem {α : Type} {xs : List α} {i : Int} {x : α} (e : L2.atI xs i = some x) : x ∈ xs := by
  unfold L2.atI at e
  cases q : L2.ixN xs.length i with
  | none => rw [q] at e; cases e
  | some j => rw [q] at e; exact List.mem_of_getElem? e
theorem cut_trs (xs : List OV) (lo hi : Option Int) : L2.cutV (trs F m xs) lo hi = trs F m (cut xs lo hi) := by
  unfold L2.cutV cut
  rw [trs_len]
  simp only [trs, List.map_take, List.map_drop]
theorem cut_sub {α : Type} {xs : List α} {lo hi : Option Int} : ∀ y ∈ cut xs lo hi, y ∈ xs := fun y hy => List.mem_of_mem_drop (List.mem_of_mem_take hy)
theorem flat_tr (x : OV) : flatV (tr F m x) = flatO x := by cases x <;> rfl
theorem flats_tr (xs : List OV) : (trs F m xs).all flatV = xs.all flatO := by
  rw [List.all_map]
  exact congrArg xs.all (funext flat_tr)
theorem eq_tr {x y : OV} (fx : flatO x = true) (fy : flatO y = true) : eqV (tr F m x) (tr F m y) = eqF x y := by
  cases x <;> cases y <;> first | rfl | (exact absurd fx Bool.false_ne_true) | (exact absurd fy Bool.false_ne_true) | (exact (strEq_beq _ _).symm)
theorem inV_tr {x : OV} {xs : List OV} (fx : flatO x = true) (fs : xs.all flatO = true) : inV (tr F m x) (trs F m xs) = xs.any fun y => eqF y x := by
  unfold inV
  rw [List.any_map]
  induction xs with
  | nil => rfl
  | cons y r ih =>
    rw [List.all_cons, Bool.and_eq_true] at fs
    rw [List.any_cons, List.any_cons, ih fs.2]
    show (eqV (tr F m y) (tr F m x) || _) = _
    rw [eq_tr fs.1 fx]
theorem replicate_flat (k : Nat) (xs : List OV) : (List.replicate k (trs F m xs)).flatten = trs F m (List.replicate k xs).flatten := by
  simp only [trs, List.map_flatten, List.map_replicate]
theorem vals_rep {n k : Nat} {xs : List OV} (v : vals n xs) : vals n (List.replicate k xs).flatten := fun y hy => by
  obtain ⟨l, hl, hy⟩ := List.mem_flatten.mp hy
  rw [List.eq_of_mem_replicate hl] at hy
  exact v y hy

/-! ### dicts -/
theorem lookK_cons {β : Type} (j k : Str) (v : β) (r : List (Str × β)) : lookK ((j, v) :: r) k = bif strEq j k then some v else lookK r k := rfl
theorem hasK_cons {β : Type} (j k : Str) (v : β) (r : List (Str × β)) : hasK ((j, v) :: r) k = bif strEq j k then true else hasK r k := rfl
theorem replK_cons (j k : Str) (w v : OV) (r : List (Str × OV)) : replK ((j, w) :: r) k v = bif strEq j k then (j, v) :: replK r k v else (j, w) :: replK r k v := rfl
theorem dropK_cons (j k : Str) (w : OV) (r : List (Str × OV)) : dropK ((j, w) :: r) k = bif strEq j k then dropK r k else (j, w) :: dropK r k := rfl
theorem putF_cons (j k : Str) (w v : OV) (r : List (Str × OV)) : putF ((j, w) :: r) k v = bif strEq j k then (j, v) :: r else (j, w) :: putF r k v := rfl
theorem lookK_t {β : Type} {j k : Str} {v : β} {r : List (Str × β)} (e : strEq j k = true) : lookK ((j, v) :: r) k = some v := by rw [lookK_cons, e]; rfl
theorem lookK_f {β : Type} {j k : Str} {v : β} {r : List (Str × β)} (e : strEq j k = false) : lookK ((j, v) :: r) k = lookK r k := by rw [lookK_cons, e]; rfl
theorem hasK_t {β : Type} {j k : Str} {v : β} {r : List (Str × β)} (e : strEq j k = true) : hasK ((j, v) :: r) k = true := by rw [hasK_cons, e]; rfl
theorem hasK_f {β : Type} {j k : Str} {v : β} {r : List (Str × β)} (e : strEq j k = false) : hasK ((j, v) :: r) k = hasK r k := by rw [hasK_cons, e]; rfl
theorem replK_t {j k : Str} {w v : OV} {r : List (Str × OV)} (e : strEq j k = true) : replK ((j, w) :: r) k v = (j, v) :: replK r k v := by rw [replK_cons, e]; rfl
theorem replK_f {j k : Str} {w v : OV} {r : List (Str × OV)} (e : strEq j k = false) : replK ((j, w) :: r) k v = (j, w) :: replK r k v := by rw [replK_cons, e]; rfl
theorem dropK_t {j k : Str} {w : OV} {r : List (Str × OV)} (e : strEq j k = true) : dropK ((j, w) :: r) k = dropK r k := by rw [dropK_cons, e]; rfl
theorem dropK_f {j k : Str} {w : OV} {r : List (Str × OV)} (e : strEq j k = false) : dropK ((j, w) :: r) k = (j, w) :: dropK r k := by rw [dropK_cons, e]; rfl
theorem putF_t {j k : Str} {w v : OV} {r : List (Str × OV)} (e : strEq j k = true) : putF ((j, w) :: r) k v = (j, v) :: r := by rw [putF_cons, e]; rfl
theorem putF_f {j k : Str} {w v : OV} {r : List (Str × OV)} (e : strEq j k = false) : putF ((j, w) :: r) k v = (j, w) :: putF r k v := by rw [putF_cons, e]; rfl
theorem ne_f {j k : Str} (e : strEq j k = false) : ¬ j = k := fun q => by rw [strEq_iff.mpr q] at e; cases e
theorem valV_trk (kvs : List (Str × OV)) (k : Str) : valV (trk F m kvs) (Sum.inr k : Key) = (lookK kvs k).map (tr F m) := by
  induction kvs with
  | nil => rfl
  | cons p r ih =>
    obtain ⟨j, w⟩ := p
    show valV ((Sum.inr j, tr F m w) :: trk F m r) _ = _
    cases e : strEq j k with
    | true => rw [valV_pos (congrArg Sum.inr (strEq_iff.mp e)), lookK_t e]; rfl
    | false => rw [valV_neg (fun q => ne_f e (Sum.inr.inj q)), ih, lookK_f e]
theorem hasK_any (kvs : List (Str × OV)) (k : Str) : ((trk F m kvs).any fun kv => decide (kv.1 = (Sum.inr k : Key))) = hasK kvs k := by
  induction kvs with
  | nil => rfl
  | cons p r ih =>
    obtain ⟨j, w⟩ := p
    show (decide ((Sum.inr j : Key) = Sum.inr k) || (trk F m r).any _) = _
    rw [ih, key_rr, ← strEq_eq]
    cases e : strEq j k with
    | true => rw [hasK_t e]; rfl
    | false => rw [hasK_f e]; rfl
theorem replK_map (kvs : List (Str × OV)) (k : Str) (v : OV) : (trk F m kvs).map (fun kv => if kv.1 = (Sum.inr k : Key) then (kv.1, tr F m v) else kv) = trk F m (replK kvs k v) := by
  induction kvs with
  | nil => rfl
  | cons p r ih =>
    obtain ⟨j, w⟩ := p
    show (if (Sum.inr j : Key) = Sum.inr k then _ else _) :: (trk F m r).map _ = _
    rw [ih]
    cases e : strEq j k with
    | true => rw [if_pos (congrArg Sum.inr (strEq_iff.mp e)), replK_t e]; rfl
    | false => rw [if_neg (fun q => ne_f e (Sum.inr.inj q)), replK_f e]; rfl
theorem putK_trk (kvs : List (Str × OV)) (k : Str) (v : OV) : L2.putK (trk F m kvs) (Sum.inr k : Key) (tr F m v) = trk F m (putK kvs k v) := by
  unfold L2.putK putK
  rw [hasK_any]
  cases hasK kvs k with
  | true => rw [if_pos rfl]; exact replK_map kvs k v
  | false =>
    rw [if_neg Bool.false_ne_true]
    show _ = trk F m (kvs ++ [(k, v)])
    simp only [trk, List.map_append]
    rfl
theorem dropK_trk (kvs : List (Str × OV)) (k : Str) : L2.dropK (trk F m kvs) (Sum.inr k : Key) = trk F m (dropK kvs k) := by
  induction kvs with
  | nil => rfl
  | cons p r ih =>
    obtain ⟨j, w⟩ := p
    have ih' : (trk F m r).filter (fun kv => decide (kv.1 ≠ (Sum.inr k : Key))) = trk F m (dropK r k) := ih
    show List.filter _ ((Sum.inr j, tr F m w) :: trk F m r) = _
    cases e : strEq j k with
    | true => rw [List.filter_cons_of_neg (by simp [strEq_iff.mp e]), ih', dropK_t e]
    | false =>
      rw [List.filter_cons_of_pos (by simp [ne_f e]), ih', dropK_f e]
      rfl
theorem mergeP_trk (ps : List (Str × OV)) : ∀ kvs : List (Str × OV), mergeK (trk F m kvs) (trk F m ps) = trk F m (mergeP kvs ps) := by
  induction ps with
  | nil => intro kvs; rfl
  | cons p r ih =>
    intro kvs
    obtain ⟨j, w⟩ := p
    show mergeK (L2.putK (trk F m kvs) (Sum.inr j) (tr F m w)) (trk F m r) = _
    rw [putK_trk, ih]
    rfl
theorem val_replK {n : Nat} {k : Str} {v : OV} (b : val n v) : ∀ {kvs : List (Str × OV)}, (∀ p ∈ kvs, val n p.2) → ∀ p ∈ replK kvs k v, val n p.2
  | [], _, _, hp => nomatch hp
  | (j, w) :: r, a, p, hp => by
    have ih := val_replK (k := k) b (kvs := r) fun p hp => a p (List.mem_cons_of_mem _ hp)
    cases e : strEq j k with
    | true =>
      rw [replK_t e] at hp
      rcases List.mem_cons.mp hp with z | z
      · rw [z]; exact b
      · exact ih p z
    | false =>
      rw [replK_f e] at hp
      rcases List.mem_cons.mp hp with z | z
      · rw [z]; exact a (j, w) List.mem_cons_self
      · exact ih p z
theorem val_putK {n : Nat} {kvs : List (Str × OV)} {k : Str} {v : OV} (a : ∀ p ∈ kvs, val n p.2) (b : val n v) : ∀ p ∈ putK kvs k v, val n p.2 := by
  intro p hp
  unfold putK at hp
  cases e : hasK kvs k with
  | true => rw [e] at hp; exact val_replK b a p hp
  | false =>
    rw [e] at hp
    rcases List.mem_append.mp hp with z | z
    · exact a p z
    · rw [List.mem_singleton.mp z]; exact b
theorem val_dropK {n : Nat} {k : Str} : ∀ {kvs : List (Str × OV)}, (∀ p ∈ kvs, val n p.2) → ∀ p ∈ dropK kvs k, val n p.2
  | [], _, _, hp => nomatch hp
  | (j, w) :: r, a, p, hp => by
    have ih := val_dropK (k := k) (kvs := r) fun p hp => a p (List.mem_cons_of_mem _ hp)
    cases e : strEq j k with
    | true => rw [dropK_t e] at hp; exact ih p hp
    | false =>
      rw [dropK_f e] at hp
      rcases List.mem_cons.mp hp with z | z
      · rw [z]; exact a (j, w) List.mem_cons_self
      · exact ih p z
theorem val_mergeP {n : Nat} : ∀ {ps kvs : List (Str × OV)}, (∀ p ∈ kvs, val n p.2) → (∀ p ∈ ps, val n p.2) → ∀ p ∈ mergeP kvs ps, val n p.2
  | [], _, a, _ => a
  | (j, w) :: r, _, a, b => val_mergeP (ps := r) (val_putK a (b (j, w) List.mem_cons_self)) fun p hp => b p (List.mem_cons_of_mem _ hp)
theorem val_lookK {n : Nat} {k : Str} {v : OV} : ∀ {kvs : List (Str × OV)}, (∀ p ∈ kvs, val n p.2) → lookK kvs k = some v → val n v
  | [], _, e => nomatch e
  | (j, w) :: r, a, e => by
    cases q : strEq j k with
    | true => rw [lookK_t q] at e; cases e; exact a (j, v) List.mem_cons_self
    | false => rw [lookK_f q] at e; exact val_lookK (fun p hp => a p (List.mem_cons_of_mem _ hp)) e
theorem lookF_trf (fs : List (Str × OV)) (k : Str) : (trf F m fs).lookup k = (lookK fs k).map (tr F m) := by
  induction fs with
  | nil => rfl
  | cons p r ih =>
    obtain ⟨j, w⟩ := p
    show List.lookup k ((j, tr F m w) :: trf F m r) = _
    rw [List.lookup_cons]
    cases e : strEq j k with
    | true =>
      have q : (k == j) = true := by rw [beq_iff_eq]; exact (strEq_iff.mp e).symm
      rw [q, lookK_t e]
      rfl
    | false =>
      have q : (k == j) = false := by
        rw [beq_eq_false_iff_ne]
        exact fun z => ne_f e z.symm
      rw [q, lookK_f e]
      exact ih
theorem putF_trf (fs : List (Str × OV)) (k : Str) (v : OV) : L2.putF k (tr F m v) (trf F m fs) = trf F m (putF fs k v) := by
  induction fs with
  | nil => rfl
  | cons p r ih =>
    obtain ⟨j, w⟩ := p
    show (if j = k then (j, tr F m v) :: trf F m r else (j, tr F m w) :: L2.putF k (tr F m v) (trf F m r)) = _
    rw [ih]
    cases e : strEq j k with
    | true => rw [if_pos (strEq_iff.mp e), putF_t e]; rfl
    | false => rw [if_neg (ne_f e), putF_f e]; rfl
theorem val_putF {n : Nat} {k : Str} {v : OV} (b : val n v) : ∀ {fs : List (Str × OV)}, (∀ p ∈ fs, val n p.2) → ∀ p ∈ putF fs k v, val n p.2
  | [], _, p, hp => by rw [List.mem_singleton.mp hp]; exact b
  | (j, w) :: r, a, p, hp => by
    cases e : strEq j k with
    | true =>
      rw [putF_t e] at hp
      rcases List.mem_cons.mp hp with z | z
      · rw [z]; exact b
      · exact a p (List.mem_cons_of_mem _ z)
    | false =>
      rw [putF_f e] at hp
      rcases List.mem_cons.mp hp with z | z
      · rw [z]; exact a (j, w) List.mem_cons_self
      · exact val_putF b (fun p hp => a p (List.mem_cons_of_mem _ hp)) p z
end

/-! ### trees -/
theorem eqP_eqv : (∀ d e : PyData, eqP d e = PyData.eqv d e) ∧ ∀ ds es : List PyData, eqP.eqPs ds es = PyData.eqvAll ds es := by
  have key : ∀ n : Nat, (∀ d e : PyData, sizeOf d ≤ n → eqP d e = PyData.eqv d e) ∧ ∀ ds es : List PyData, sizeOf ds ≤ n → eqP.eqPs ds es = PyData.eqvAll ds es := by
    intro n
    induction n with
    | zero =>
      refine ⟨fun d e l => ?_, fun ds es l => ?_⟩
      · cases d <;> simp at l
      · cases ds <;> simp at l
    | succ n ih =>
      refine ⟨fun d e l => ?_, fun ds es l => ?_⟩
      · cases d <;> cases e <;> simp only [eqP, PyData.eqv]
        · exact strEq_beq _ _
        · simp at l; exact ih.2 _ _ (by omega)
        · simp at l; exact ih.2 _ _ (by omega)
      · cases ds with
        | nil => cases es <;> simp only [eqP.eqPs, PyData.eqvAll]
        | cons d ds =>
          cases es with
          | nil => simp only [eqP.eqPs, PyData.eqvAll]
          | cons e es =>
            simp at l
            have h1 := ih.1 d e (by omega)
            have h2 := ih.2 ds es (by omega)
            simp only [eqP.eqPs, PyData.eqvAll, h1, h2]
            cases PyData.eqv d e <;> rfl
  exact ⟨fun d e => (key _).1 d e (Nat.le_refl _), fun ds es => (key _).2 ds es (Nat.le_refl _)⟩
theorem rdP_dp {F : Fx} {m : Mp} {h : OH} {H : Hp} (ok : Ok F m h H) : ∀ (n : Nat) (v : OV) (d : PyData), rdP n h v = some d → Dp F.K H (tr F m v) d := by
  have lists : ∀ (n : Nat), (∀ (v : OV) (d : PyData), rdP n h v = some d → Dp F.K H (tr F m v) d) → ∀ (xs : List OV) (ds : List PyData), mapO (rdP n h) xs = some ds → DpAll F.K H (trs F m xs) ds := by
    intro n ih xs
    induction xs with
    | nil => intro ds e; cases e; exact .nil
    | cons x r ihx =>
      intro ds e
      simp only [mapO] at e
      split at e
      · rename_i y q
        split at e
        · rename_i ys q2
          cases e
          exact .cons (ih x y q) (ihx ys q2)
        · cases e
      · cases e
  intro n
  induction n with
  | zero =>
    intro v d e
    cases v with
    | non => cases e; exact .non
    | bl b => cases e; exact .bl b
    | int i => cases e; exact .int i
    | str x => cases e; exact .str x
    | ref i => cases e
    | scr => cases e
  | succ n ih =>
    intro v d e
    cases v with
    | non => cases e; exact .non
    | bl b => cases e; exact .bl b
    | int i => cases e; exact .int i
    | str x => cases e; exact .str x
    | ref i =>
      simp only [rdP] at e
      split at e
      · rename_i xs q
        obtain ⟨ds, e1, rfl⟩ := Option.map_eq_some_iff.mp e
        exact .lst (SqL.of (ok.lst q).2) (lists n ih xs ds e1)
      · rename_i xs q
        obtain ⟨ds, e1, rfl⟩ := Option.map_eq_some_iff.mp e
        exact .tup (SqT.of (ok.tup q).2) (lists n ih xs ds e1)
      · cases e
    | scr =>
      simp only [rdP] at e
      obtain ⟨ds, e1, rfl⟩ := Option.map_eq_some_iff.mp e
      exact .lst ok.scrL.1 (lists n ih _ ds e1)

/-! ### operators -/
def opP : BOp → Operator
  | .add => .Add | .sub => .Sub | .mul => .Mult | .fdiv => .FloorDiv | .mod => .Mod | .pow => .Pow
def cmpP : COp → CmpOp
  | .lt => .Lt | .le => .LtE | .gt => .Gt | .ge => .GtE | .eq => .Eq | .ne => .NotEq | .isin => .In | .nin => .NotIn | .is => .Is | .isn => .IsNot
section
variable {F : Fx} {X : Cx}
theorem opr_add : OpR X (binaryOp .Add) (rOp F (binV .add)) := by
  rintro pins s σ H x y v u Q I rx ry ⟨m, h, a, b, ok, va, vb, rfl, rfl, o⟩
  cases a with
  | int i =>
    cases b with
    | int j => exact op_add pins s σ H _ _ v u Q I rx ry ⟨_, _, rfl, rfl, Out.ok o (Nx.refl ok) trivial⟩
    | _ => exact (show False from o).elim
  | str i =>
    cases b with
    | str j =>
      simp only [binV] at o
      split at o
      · rename_i l
        exact op_add_str pins s σ H _ _ v u Q I rx ry ⟨_, _, rfl, rfl, lim_le l, Out.ok o (Nx.refl ok) trivial⟩
      · exact (show False from o).elim
    | _ => exact (show False from o).elim
  | ref i =>
    cases b with
    | ref j =>
      simp only [binV] at o
      split at o
      · rename_i xs ys e1 e2
        split at o
        · rename_i l
          obtain ⟨v1, h1⟩ := ok.lst e1
          obtain ⟨v2, h2⟩ := ok.lst e2
          refine op_cat pins s σ H _ _ v u Q I rx ry ⟨_, _, _, _, rfl, rfl, h1, h2, ?_, fun p np => ?_⟩
          · rw [trs_len, trs_len]; exact lim_le l
          · have z := Out.ok o (ok.newL np (vals_app v1 v2)) (Nat.lt_succ_self _)
            rw [trs_app] at z
            have e : tr F (extM m h.n p) (.ref h.n) = .ref p := congrArg V.ref extM_self
            rw [e] at z
            exact z
        · exact (show False from o).elim
      · exact (show False from o).elim
    | _ => exact (show False from o).elim
  | _ => cases b <;> exact (show False from o).elim
theorem opr_sub : OpR X (binaryOp .Sub) (rOp F (binV .sub)) := by
  rintro pins s σ H x y v u Q I rx ry ⟨m, h, a, b, ok, va, vb, rfl, rfl, o⟩
  cases a with
  | int i =>
    cases b with
    | int j => exact op_sub pins s σ H _ _ v u Q I rx ry ⟨_, _, rfl, rfl, Out.ok o (Nx.refl ok) trivial⟩
    | _ => exact (show False from o).elim
  | _ => cases b <;> exact (show False from o).elim
theorem newref {m : Mp} {n : Nat} {p : Addr} : tr F (extM m n p) (.ref n) = .ref p := congrArg V.ref extM_self
theorem opr_mod : OpR X (binaryOp .Mod) (rOp F (binV .mod)) := by
  rintro pins s σ H x y v u Q I rx ry ⟨m, h, a, b, ok, va, vb, rfl, rfl, o⟩
  cases a with
  | int i =>
    cases b with
    | int j =>
      simp only [binV] at o
      split at o
      · rename_i l
        exact op_mod pins s σ H _ _ v u Q I rx ry ⟨_, _, rfl, rfl, l, Out.ok o (Nx.refl ok) trivial⟩
      · exact (show False from o).elim
    | _ => exact (show False from o).elim
  | _ => cases b <;> exact (show False from o).elim
theorem opr_fdiv : OpR X (binaryOp .FloorDiv) (rOp F (binV .fdiv)) := by
  rintro pins s σ H x y v u Q I rx ry ⟨m, h, a, b, ok, va, vb, rfl, rfl, o⟩
  cases a with
  | int i =>
    cases b with
    | int j =>
      simp only [binV] at o
      split at o
      · rename_i l
        exact op_fdiv pins s σ H _ _ v u Q I rx ry ⟨_, _, rfl, rfl, l, Out.ok o (Nx.refl ok) trivial⟩
      · exact (show False from o).elim
    | _ => exact (show False from o).elim
  | _ => cases b <;> exact (show False from o).elim
theorem opr_pow : OpR X (binaryOp .Pow) (rOp F (binV .pow)) := by
  rintro pins s σ H x y v u Q I rx ry ⟨m, h, a, b, ok, va, vb, rfl, rfl, o⟩
  cases a with
  | int i =>
    cases b with
    | int j =>
      simp only [binV] at o
      split at o
      · rename_i l
        exact op_pow pins s σ H _ _ v u Q I rx ry ⟨_, _, rfl, rfl, ⟨l.1, Int.le_trans l.2.1 (by decide), l.2.2⟩, Out.ok o (Nx.refl ok) trivial⟩
      · exact (show False from o).elim
    | _ => exact (show False from o).elim
  | _ => cases b <;> exact (show False from o).elim
theorem opr_mul : OpR X (binaryOp .Mult) (rOp F fun x y h => match x with | .str _ => .no | _ => binV .mul x y h) := by
  rintro pins s σ H x y v u Q I rx ry ⟨m, h, a, b, ok, va, vb, rfl, rfl, o⟩
  cases a with
  | int i =>
    cases b with
    | int j =>
      simp only [binV] at o
      split at o
      · rename_i l
        have k := Out.ok o (Nx.refl ok) trivial
        simp only [mulOk, Bool.or_eq_true, Bool.and_eq_true, decide_eq_true_eq] at l
        rcases l with (l | l) | l
        · exact op_mul pins s σ H _ _ v u Q I rx ry ⟨_, _, rfl, rfl, .inl ⟨by omega, by omega⟩, k⟩
        · exact op_mul pins s σ H _ _ v u Q I rx ry ⟨_, _, rfl, rfl, .inr ⟨by omega, by omega⟩, k⟩
        · exact op_mulW pins s σ H _ _ v u Q I rx ry ⟨_, _, rfl, rfl, wide_mul l.1 l.2 (by decide) (by decide) (by decide), k⟩
      · exact (show False from o).elim
    | _ => exact (show False from o).elim
  | ref i =>
    cases b with
    | int k =>
      simp only [binV] at o
      split at o
      · rename_i xs e1
        split at o
        · rename_i l
          obtain ⟨v1, h1⟩ := ok.lst e1
          refine op_rep pins s σ H _ _ v u Q I rx ry ⟨_, _, _, rfl, rfl, h1, by omega, by omega, ?_, fun p np => ?_⟩
          · rw [trs_len]
            have z : xs.length * k.toNat ≤ 1000 * 1000 := Nat.mul_le_mul (by omega) (by omega)
            exact Nat.le_trans z (by decide)
          · have z := Out.ok o (ok.newL np (vals_rep v1)) (Nat.lt_succ_self _)
            rw [newref] at z
            rw [replicate_flat]
            exact z
        · exact (show False from o).elim
      · exact (show False from o).elim
    | _ => exact (show False from o).elim
  | _ => cases b <;> exact (show False from o).elim
end
end MP

end
section
set_option linter.all false
set_option maxRecDepth 100000
/-! MPOps2: comparisons, subscripts, slices, stores, built-in functions and methods. -/
namespace MP
open PySem L2

section
variable {F : Fx} {X : Cx}
/-- what cmpV tells: a truth, the heap as it is -/
theorem Out.cmp {m : Mp} {h : OH} {H : Hp} {op : COp} {x y : OV} {P : (Mp) → OH → Hp → OV → Prop} {Ex : Nat → Hp → Prop} (ok : Ok F m h H) (o : Out F m h (cmpV op x y h) P Ex) :
    ∃ b, cmpO op x y h = some b ∧ P m h H (.bl b) := by
  unfold cmpV at o
  cases e : cmpO op x y h with
  | none => rw [e] at o; exact (show False from o).elim
  | some b => rw [e] at o; exact ⟨b, rfl, Out.ok o (Nx.refl ok)⟩
theorem Out.of {α : Type} {m : Mp} {h : OH} {H : Hp} {x : Option α} {P : (Mp) → OH → Hp → α → Prop} {Ex : Nat → Hp → Prop} (ok : Ok F m h H) (o : Out F m h (R.of x h) P Ex) :
    ∃ b, x = some b ∧ P m h H b := by
  cases x with
  | none => exact (show False from o).elim
  | some b => exact ⟨b, rfl, Out.ok o (Nx.refl ok)⟩
/-- in a dict -/
def rDIn (neg : Bool) : R2 := fun x y H Q => ∃ a o, y = .ref a ∧ DGet H a x o ∧ Q (.bl (if neg then !o.isSome else o.isSome)) H
theorem op_in_d (hu : X.A.units + 1 < cLine) : OpR X (compareOp .In) (rDIn false) := by
  rintro pins s σ H x y v u Q I rx ry ⟨a, o, rfl, g, q⟩
  obtain rfl : u = Value.ref a := ry
  exact d_in hu I g rx fun s' I' => ⟨.bl o.isSome, H, I', rfl, q⟩
theorem op_nin_d (hu : X.A.units + 1 < cLine) : OpR X (compareOp .NotIn) (rDIn true) := by
  rintro pins s σ H x y v u Q I rx ry ⟨a, o, rfl, g, q⟩
  obtain rfl : u = Value.ref a := ry
  exact d_notIn hu I g rx fun s' I' => ⟨.bl (!o.isSome), H, I', rfl, q⟩
theorem any_beq (c : Nat) (l : List Nat) : l.any (Nat.beq c) = decide (c ∈ l) := by
  induction l with
  | nil => rfl
  | cons x r ih =>
    rw [List.any_cons, ih]
    by_cases e : c = x
    · subst e; simp
    · have e1 : Nat.beq c x = false := by
        cases q : Nat.beq c x with
        | false => rfl
        | true => exact absurd (Nat.eq_of_beq_eq_true q) e
      simp [e1, e]
theorem str_one {a : Str} {c : Nat} (e : a.cps.toList = [c]) : a = ⟨#[c]⟩ := by
  obtain ⟨⟨l⟩⟩ := a
  have e' : l = [c] := e
  subst e'
  rfl
theorem opr_cmp (hK : X.K = F.K) (hu : X.A.units + 64 < cLine) (op : COp) : OpR X (compareOp (cmpP op)) (rOp F (cmpV op)) := by
  have hu1 : X.A.units + 1 < cLine := by omega
  rintro pins s σ H x y v u Q I rx ry ⟨m, h, a, b, ok, va, vb, rfl, rfl, o⟩
  obtain ⟨k, e, q⟩ := Out.cmp ok o
  have q := q trivial
  have q : Q (.bl k) H := q
  cases op with
  | lt =>
    cases a <;> cases b <;> simp only [cmpO] at e <;> first | (cases e; done) | skip
    · cases e; exact op_lt pins s σ H _ _ v u Q I rx ry ⟨_, _, rfl, rfl, q⟩
    · cases e
      rw [strLt_eq] at q
      exact op_lt_str pins s σ H _ _ v u Q I rx ry ⟨_, _, rfl, rfl, q⟩
  | le =>
    cases a <;> cases b <;> simp only [cmpO] at e <;> first | (cases e; done) | skip
    cases e; exact op_le pins s σ H _ _ v u Q I rx ry ⟨_, _, rfl, rfl, q⟩
  | gt =>
    cases a <;> cases b <;> simp only [cmpO] at e <;> first | (cases e; done) | skip
    cases e; exact op_gt pins s σ H _ _ v u Q I rx ry ⟨_, _, rfl, rfl, q⟩
  | ge =>
    cases a <;> cases b <;> simp only [cmpO] at e <;> first | (cases e; done) | skip
    cases e; exact op_ge pins s σ H _ _ v u Q I rx ry ⟨_, _, rfl, rfl, q⟩
  | eq =>
    simp only [cmpO, eqO] at e
    split at e
    · rename_i d1 d2 e1 e2
      split at e
      · rename_i sh
        cases e
        rw [Bool.and_eq_true] at sh
        rw [eqP_eqv.1] at q
        exact op_eqD hu pins s σ H _ _ v u Q I rx ry ⟨d1, d2, hK ▸ rdP_dp ok _ _ _ e1, hK ▸ rdP_dp ok _ _ _ e2, sh.1, sh.2, q⟩
      · cases e
    · cases e
  | ne =>
    simp only [cmpO, eqO] at e
    split at e
    · rename_i d1 d2 e1 e2
      split at e
      · rename_i sh
        cases e
        rw [Bool.and_eq_true] at sh
        rw [eqP_eqv.1] at q
        exact op_neD hu pins s σ H _ _ v u Q I rx ry ⟨d1, d2, hK ▸ rdP_dp ok _ _ _ e1, hK ▸ rdP_dp ok _ _ _ e2, sh.1, sh.2, q⟩
      · cases e
    · cases e
  | isin =>
    simp only [cmpO] at e
    cases b with
    | str z =>
      cases a with
      | str w =>
        simp only [inO] at e
        split at e
        · rename_i c ec
          cases e
          rw [any_beq] at q
          have ew := str_one ec
          subst ew
          exact op_in_sign pins s σ H _ _ v u Q I rx ry ⟨c, z, rfl, rfl, q⟩
        · cases e
          exact op_in_str pins s σ H _ _ v u Q I rx ry ⟨_, _, rfl, rfl, q⟩
      | _ => cases e
    | ref n =>
      simp only [inO] at e
      split at e
      · rename_i xs ex
        split at e
        · rename_i fl
          cases e
          rw [Bool.and_eq_true] at fl
          refine op_in_seq pins s σ H _ _ v u Q I rx ry ⟨_, _, rfl, .inl (SqL.of (ok.lst ex).2), by rw [flat_tr]; exact fl.1, by rw [flats_tr]; exact fl.2, ?_⟩
          rw [if_neg Bool.false_ne_true, inV_tr fl.1 fl.2]; exact q
        · cases e
      · rename_i xs ex
        split at e
        · rename_i fl
          cases e
          rw [Bool.and_eq_true] at fl
          refine op_in_seq pins s σ H _ _ v u Q I rx ry ⟨_, _, rfl, .inr (SqT.of (ok.tup ex).2), by rw [flat_tr]; exact fl.1, by rw [flats_tr]; exact fl.2, ?_⟩
          rw [if_neg Bool.false_ne_true, inV_tr fl.1 fl.2]; exact q
        · cases e
      · rename_i fz kvs ex
        cases a with
        | str k =>
          cases e
          refine op_in_d hu1 pins s σ H _ _ v u Q I rx ry ⟨_, _, rfl, .inl ⟨_, Sum.inr k, (ok.rd ex).2, rfl, rfl⟩, ?_⟩
          rw [valV_trk, if_neg Bool.false_ne_true, Option.isSome_map]; exact q
        | _ => cases e
      · cases e
    | _ => cases e
  | nin =>
    simp only [cmpO] at e
    obtain ⟨k', e2, ek⟩ := Option.map_eq_some_iff.mp e
    clear e
    subst ek
    have e := e2
    clear e2
    cases b with
    | str z =>
      cases a with
      | str w =>
        simp only [inO] at e
        split at e
        · rename_i c ec
          cases e
          rw [any_beq] at q
          have ew := str_one ec
          subst ew
          exact op_notIn_sign pins s σ H _ _ v u Q I rx ry ⟨c, z, rfl, rfl, q⟩
        · cases e
          exact op_notIn_str pins s σ H _ _ v u Q I rx ry ⟨_, _, rfl, rfl, q⟩
      | _ => cases e
    | ref n =>
      simp only [inO] at e
      split at e
      · rename_i xs ex
        split at e
        · rename_i fl
          cases e
          rw [Bool.and_eq_true] at fl
          refine op_notIn_seq pins s σ H _ _ v u Q I rx ry ⟨_, _, rfl, .inl (SqL.of (ok.lst ex).2), by rw [flat_tr]; exact fl.1, by rw [flats_tr]; exact fl.2, ?_⟩
          rw [if_pos rfl, inV_tr fl.1 fl.2]; exact q
        · cases e
      · rename_i xs ex
        split at e
        · rename_i fl
          cases e
          rw [Bool.and_eq_true] at fl
          refine op_notIn_seq pins s σ H _ _ v u Q I rx ry ⟨_, _, rfl, .inr (SqT.of (ok.tup ex).2), by rw [flat_tr]; exact fl.1, by rw [flats_tr]; exact fl.2, ?_⟩
          rw [if_pos rfl, inV_tr fl.1 fl.2]; exact q
        · cases e
      · rename_i fz kvs ex
        cases a with
        | str k =>
          cases e
          refine op_nin_d hu1 pins s σ H _ _ v u Q I rx ry ⟨_, _, rfl, .inl ⟨_, Sum.inr k, (ok.rd ex).2, rfl, rfl⟩, ?_⟩
          rw [valV_trk, if_pos rfl, Option.isSome_map]; exact q
        | _ => cases e
      · cases e
    | _ => cases e
  | is =>
    simp only [cmpO] at e
    cases b with
    | non =>
      cases e
      refine op_isN pins s σ H _ _ v u Q I rx ry ⟨rfl, ?_⟩
      have z : decide (tr F m a = V.non) = decide (a = OV.non) := by cases a <;> simp [tr]
      rw [z]; exact q
    | bl j =>
      cases a with
      | bl i => cases e; exact op_isBl pins s σ H _ _ v u Q I rx ry ⟨_, _, rfl, rfl, q⟩
      | _ => cases e
    | _ => cases e
  | isn =>
    simp only [cmpO] at e
    cases b with
    | non =>
      cases e
      refine op_notN pins s σ H _ _ v u Q I rx ry ⟨rfl, ?_⟩
      have z : decide (tr F m a = V.non) = decide (a = OV.non) := by cases a <;> simp [tr]
      rw [z]; exact q
    | bl j =>
      cases a with
      | bl i => cases e; exact op_notBl pins s σ H _ _ v u Q I rx ry ⟨_, _, rfl, rfl, q⟩
      | _ => cases e
    | _ => cases e

/-! ### subscripts -/
def rIxD : R2 := fun x y H Q => ∃ a v, x = .ref a ∧ DGet H a y (some v) ∧ Q v H
theorem ix_dct (hu : X.A.units + 1 < cLine) : IxR X rIxD := by
  rintro value slice pins s σ H x y v u Q I rx ry ⟨a, w, rfl, g, q⟩ hs
  obtain rfl : v = Value.ref a := rx
  exact PyProof.Rows.tail_any (dict_typeIs I g) PySem.F.slot_dict_getitem.lookup (d_getItem hu I g ry fun w' s3 I3 rw' => ⟨_, H, I3, rw', q⟩) hs
theorem ixr (hK : X.K = F.K) (hu : X.A.units + 64 < cLine) : IxR X (rOp F ixV) := by
  have hu1 : X.A.units + 1 < cLine := by omega
  rintro value slice pins s σ H x y v u Q I rx ry ⟨m, h, a, b, ok, va, vb, rfl, rfl, o⟩ hs
  cases b with
  | int i =>
    cases a with
    | str z =>
      simp only [ixV] at o
      split at o
      · rename_i l
        obtain ⟨w, e, q⟩ := Out.of ok o
        obtain ⟨c, e2, rfl⟩ := Option.map_eq_some_iff.mp e
        exact ix_str value slice pins s σ H _ _ v u Q I rx ry ⟨_, _, c, rfl, rfl, lim_le l, e2, q trivial⟩ hs
      · exact (show False from o).elim
    | ref n =>
      simp only [ixV] at o
      obtain ⟨w, e, q⟩ := Out.of ok o
      obtain ⟨xs, e1, e2⟩ := Option.bind_eq_some_iff.mp e
      simp only [seqOf] at e1
      split at e1
      · rename_i ys q1
        cases e1
        obtain ⟨v1, h1⟩ := ok.lst q1
        exact ix_list value slice pins s σ H _ _ v u Q I rx ry ⟨_, _, i, _, rfl, rfl, SqL.of h1, by rw [atI_trs, e2]; rfl, q (v1 _ (atI_mem e2))⟩ hs
      · rename_i ys q1
        cases e1
        obtain ⟨v1, h1⟩ := ok.tup q1
        exact ix_tup value slice pins s σ H _ _ v u Q I rx ry ⟨_, _, i, _, rfl, rfl, SqT.of h1, by rw [atI_trs, e2]; rfl, q (v1 _ (atI_mem e2))⟩ hs
      · cases e1
    | scr =>
      simp only [ixV] at o
      obtain ⟨w, e, q⟩ := Out.of ok o
      obtain ⟨xs, e1, e2⟩ := Option.bind_eq_some_iff.mp e
      cases e1
      obtain ⟨h1, v1⟩ := ok.scrL
      rw [← hK] at h1
      exact ix_list value slice pins s σ H _ _ v u Q I rx ry ⟨_, _, i, _, rfl, rfl, h1, by rw [atI_trs, e2]; rfl, q (v1 _ (atI_mem e2))⟩ hs
    | _ =>
      simp only [ixV, seqOf] at o
      exact (show False from o).elim
  | str k =>
    cases a with
    | ref n =>
      simp only [ixV] at o
      split at o
      · rename_i fz kvs q1
        obtain ⟨w, e, q⟩ := Out.of ok o
        obtain ⟨v1, h1⟩ := ok.rd q1
        refine ix_dct hu1 value slice pins s σ H _ _ v u Q I rx ry ⟨_, tr F m w, rfl, .inl ⟨_, Sum.inr k, h1, rfl, ?_⟩, q (val_lookK v1 e)⟩ hs
        rw [valV_trk, e]; rfl
      · exact (show False from o).elim
    | _ => exact (show False from o).elim
  | _ => exact (show False from o).elim

/-! ### slices -/
def rSl (F : Fx) : V → Option Int → Option Int → Hp → VK → Prop := fun x lo hi H Q => ∃ m h a, Ok F m h H ∧ val h.n a ∧ x = tr F m a ∧
  Out F m h (slV a lo hi h) (fun m' h' H' v => val h'.n v → Q (tr F m' v) H') fun _ _ => False
theorem slr (hK : X.K = F.K) : SlR X (rSl F) := by
  rintro pins s σ H x v vl vu lo hi sl Q I rx hs pl pu ⟨m, h, a, ok, va, rfl, o⟩
  cases a with
  | str z =>
    simp only [slV] at o
    split at o
    · rename_i l
      exact sl_str pins s σ H _ v vl vu lo hi sl Q I rx hs pl pu ⟨_, rfl, lim_le l, Out.ok o (Nx.refl ok) trivial⟩
    · exact (show False from o).elim
  | ref n =>
    simp only [slV] at o
    split at o
    · rename_i xs e
      obtain ⟨v1, p, e1, h1⟩ := ok.isL e
      rw [← hK] at h1
      refine sl_list pins s σ H _ v vl vu lo hi sl Q I rx hs pl pu ⟨p, _, e1, h1, fun q np => ?_⟩
      rw [cut_trs]
      have z := Out.ok o (ok.newL np (vals_sub v1 cut_sub)) (Nat.lt_succ_self _)
      rw [newref] at z
      exact z
    · exact (show False from o).elim
  | scr =>
    simp only [slV] at o
    split at o
    · rename_i xs e
      obtain ⟨v1, p, e1, h1⟩ := ok.isL e
      rw [← hK] at h1
      refine sl_list pins s σ H _ v vl vu lo hi sl Q I rx hs pl pu ⟨p, _, e1, h1, fun q np => ?_⟩
      rw [cut_trs]
      have z := Out.ok o (ok.newL np (vals_sub v1 cut_sub)) (Nat.lt_succ_self _)
      rw [newref] at z
      exact z
    · exact (show False from o).elim
  | _ =>
    simp only [slV, MP.lstOf] at o
    exact (show False from o).elim

/-! ### stores -/
def rSt (F : Fx) : TSet := fun x y v H Q => ∃ m h a b c, Ok F m h H ∧ val h.n a ∧ val h.n b ∧ val h.n c ∧ x = tr F m a ∧ y = tr F m b ∧ v = tr F m c ∧
  Out F m h (setV a b c h) (fun m' h' H' _ => Q H') fun _ _ => False
theorem vals_set {n : Nat} {xs : List OV} {i : Nat} {v : OV} (a : vals n xs) (b : val n v) : vals n (xs.set i v) := fun y hy => by
  rcases List.mem_or_eq_of_mem_set hy with z | z
  · exact a y z
  · rw [z]; exact b
theorem psetr (hu : X.A.units + 64 < cLine) : PSet X (rSt F) := by
  have hu1 : X.A.units + 1 < cLine := by omega
  rintro pins s σ H x y w xv yv wv Q I rx ry rw' ⟨m, h, a, b, c, ok, va, vb, vc, rfl, rfl, rfl, o⟩
  cases a with
  | ref n =>
    simp only [setV] at o
    split at o
    · rename_i xs e
      cases b with
      | int i =>
        simp only at o
        split at o
        · rename_i j ej
          obtain ⟨v1, h1⟩ := ok.lst e
          refine set_list pins s σ H _ _ _ xv yv wv Q I rx ry rw' ⟨_, _, i, j, rfl, rfl, h1, by rw [trs_len]; exact ej, ?_⟩
          have z := Out.ok o (ok.putL e rfl (vals_set v1 vc))
          simp only [trs, List.map_set] at z
          exact z
        · exact (show False from o).elim
      | _ => exact (show False from o).elim
    · rename_i kvs e
      cases b with
      | str k =>
        simp only at o
        split at o
        · rename_i l
          obtain ⟨v1, h1⟩ := ok.dct e
          have z := Out.ok o (ok.putD e rfl (val_putK v1 vc))
          rw [← putK_trk] at z
          obtain rfl : xv = Value.ref (m n) := rx
          exact d_setItem hu1 I (DPut.k (k := Sum.inr k) h1 (by simp only [trk, List.length_map]; exact Nat.lt_of_le_of_lt l (by decide))) ry rw' fun s' I' => ⟨_, I', z⟩
        · exact (show False from o).elim
      | _ => exact (show False from o).elim
    · exact (show False from o).elim
  | _ => exact (show False from o).elim
end
end MP

end
section
set_option linter.all false
set_option maxRecDepth 100000
set_option maxHeartbeats 1000000
/-! MPSort: sorted of texts, of ints, of tuples that a text or an int and a text tell apart. -/
namespace MP
open PySem L2

/-! ### the own sort -/
section
variable {α : Type} {lt : α → α → Bool}
theorem insBy_perm (x : α) : ∀ l : List α, (insBy lt x l).Perm (x :: l)
  | [] => List.Perm.refl _
  | y :: ys => by
    unfold insBy
    by_cases h : lt y x = true
    · rw [if_pos h]
      exact ((insBy_perm x ys).cons y).trans (List.Perm.swap x y ys)
    · rw [if_neg h]
theorem sortBy_perm : ∀ l : List α, (sortBy lt l).Perm l
  | [] => List.Perm.refl _
  | x :: xs => (insBy_perm x _).trans ((sortBy_perm xs).cons x)
theorem insBy_srtd (O : SrtO.Swo lt) (x : α) : ∀ l : List α, SrtO.Srtd lt l → SrtO.Srtd lt (insBy lt x l)
  | [], _ => List.pairwise_singleton _ _
  | y :: ys, h => by
    obtain ⟨h1, h2⟩ := List.pairwise_cons.mp h
    unfold insBy
    by_cases e : lt y x = true
    · rw [if_pos e]
      refine List.pairwise_cons.mpr ⟨fun z hz => ?_, insBy_srtd O x ys h2⟩
      rcases List.mem_cons.mp ((insBy_perm x ys).mem_iff.mp hz) with q | q
      · rw [q]; exact O.asym y x e
      · exact h1 z q
    · rw [if_neg e]
      have e' : lt y x = false := by simpa using e
      refine List.pairwise_cons.mpr ⟨fun z hz => ?_, h⟩
      rcases List.mem_cons.mp hz with q | q
      · rw [q]; exact e'
      · exact O.tr x y z e' (h1 z q)
theorem sortBy_srtd (O : SrtO.Swo lt) : ∀ l : List α, SrtO.Srtd lt (sortBy lt l)
  | [] => List.Pairwise.nil
  | x :: xs => insBy_srtd O x _ (sortBy_srtd O xs)
theorem srtd_uniq {l m : List α} (h : l.Perm m) (a : SrtO.Srtd lt l) (b : SrtO.Srtd lt m) (anti : ∀ x ∈ l, ∀ y ∈ m, lt y x = false → lt x y = false → x = y) : l = m :=
  List.Perm.eq_of_pairwise (le := fun x y => lt y x = false) (fun x y hx hy h1 h2 => anti x hx y hy h1 h2) a b h
end
theorem cps_inj {a b : Str} (h : a.cps.toList = b.cps.toList) : a = b := by
  obtain ⟨⟨x⟩⟩ := a
  obtain ⟨⟨y⟩⟩ := b
  have h' : x = y := h
  rw [h']
theorem strLt_swo : SrtO.Swo strLt := by
  refine ⟨fun x y h => ?_, fun x y z h1 h2 => ?_⟩
  · rw [strLt_eq] at h ⊢
    have a : x.cps.toList < y.cps.toList := of_decide_eq_true h
    exact decide_eq_false (List.lt_asymm a)
  · rw [strLt_eq] at h1 h2 ⊢
    have a : x.cps.toList ≤ y.cps.toList := List.not_lt.mp (of_decide_eq_false h1)
    have b : y.cps.toList ≤ z.cps.toList := List.not_lt.mp (of_decide_eq_false h2)
    exact decide_eq_false (List.not_lt.mpr (List.le_trans a b))
theorem strLt_anti {x y : Str} (h1 : strLt y x = false) (h2 : strLt x y = false) : x = y := by
  rw [strLt_eq] at h1 h2
  have a : x.cps.toList ≤ y.cps.toList := List.not_lt.mp (of_decide_eq_false h1)
  have b : y.cps.toList ≤ x.cps.toList := List.not_lt.mp (of_decide_eq_false h2)
  exact cps_inj (List.le_antisymm a b)
theorem intLt_swo : SrtO.Swo fun a b : Int => decide (a < b) := by
  refine ⟨fun x y h => ?_, fun x y z h1 h2 => ?_⟩
  · have a : x < y := of_decide_eq_true h
    exact decide_eq_false (by omega)
  · have a : ¬ y < x := of_decide_eq_false h1
    have b : ¬ z < y := of_decide_eq_false h2
    exact decide_eq_false (by omega)
theorem rising_sorted : ∀ (l : List Str) (x : Str), PyProof.Rows.risingS x l = true → SrtO.Srtd strLt (x :: l)
  | [], x, _ => List.pairwise_singleton _ _
  | y :: l, x, h => by
    unfold PyProof.Rows.risingS at h
    rw [Bool.and_eq_true] at h
    have ih := rising_sorted l y h.2
    have e : strLt y x = false := by
      have z : Spec.ltCps y.cps.toList x.cps.toList = false := by simpa using h.1
      rw [strLt_eq, ← PyProof.Rows.ltCps_eq]
      exact z
    obtain ⟨h1, h2⟩ := List.pairwise_cons.mp ih
    refine List.pairwise_cons.mpr ⟨fun z hz => ?_, ih⟩
    rcases List.mem_cons.mp hz with q | q
    · rw [q]; exact e
    · exact strLt_swo.tr x y z e (h1 z q)
theorem sortedS_srtd {l : List Str} (h : PyProof.Rows.sortedS l = true) : SrtO.Srtd strLt l := by
  cases l with
  | nil => exact List.Pairwise.nil
  | cons x l => exact rising_sorted l x h
theorem strs_sorted_uniq {l ss : List Str} (p : l.Perm ss) (h : SrtO.Srtd strLt l) : l = sortBy strLt ss :=
  srtd_uniq (p.trans (sortBy_perm ss).symm) h (sortBy_srtd strLt_swo ss) fun _ _ _ _ => strLt_anti

/-! ### texts, ints -/
theorem vals_strsAre : ∀ (ss : List Str) (us : List Value), L2.Vals (ss.map V.str) us → PyProof.Rows.StrsAre us ss := by
  intro ss
  induction ss with
  | nil =>
    intro us r
    cases r
    exact .nil
  | cons x ss ih =>
    intro us r
    cases r with
    | cons c t =>
      obtain ⟨tk, rfl⟩ := c
      exact .cons x tk (ih _ t)
section
variable {X : Cx}
theorem cr_sortStr : CallR X (.builtin "sorted") (fun vs H Q => ∃ (a : Addr) (ss : List Str), vs = [V.ref a] ∧ SqL X.K H a (ss.map V.str) ∧ ∀ p, H p = none → Q (.ref p) (upd H p (.lst ((sortBy strLt ss).map V.str)))) := by
  intro pins s σ H vs us Q I r h
  obtain ⟨a, ss, rfl, hs, q⟩ := h
  obtain ⟨its, rv, hl, hz⟩ := I.list hs
  obtain ⟨u, rfl, ru⟩ := vals1 r
  obtain rfl : u = Value.ref a := ru
  have hS := vals_strsAre _ _ rv
  refine PyProof.Rows.sorted_strsAny hl.isList hS (by rw [← rv.length]; exact hz) fun out ss' a1 a2 a3 => ?_
  obtain ⟨n, hn⟩ := PyProof.Rows.sortedAll_at s.heap its out
  have e := strs_sorted_uniq a2 (sortedS_srtd a3)
  subst e
  have hd : s.heap.objs.size ≤ s.heap.objs.size + 1 := Nat.le_succ _
  refine ⟨.ref _, upd H _ (.lst ((sortBy strLt ss).map V.str)), I.laid (t' := s.toks) (fun b o e => PyProof.Rows.sortedAll_old e) hd ⟨?_, out.toList, n, vals_of_strs a1, by rw [Array.toArray_toList]; exact hn⟩, rfl, q _ (I.hok.fresh hd)⟩
  rw [List.length_map, (sortBy_perm ss).length_eq]
  rw [List.length_map] at hz
  exact hz
theorem cr_sortInt : CallR X (.builtin "sorted") (fun vs H Q => ∃ (a : Addr) (ss : List Int), vs = [V.ref a] ∧ SqL X.K H a (ss.map V.int) ∧ ∀ p, H p = none → Q (.ref p) (upd H p (.lst ((sortBy (fun a b => decide (a < b)) ss).map V.int)))) := by
  intro pins s σ H vs us Q I r h
  obtain ⟨a, ss, rfl, hs, q⟩ := h
  refine cr_sortedI pins s σ H _ us Q I r ⟨a, ss, rfl, hs, fun ns' p pm ri np => ?_⟩
  have e : ns' = sortBy (fun a b => decide (a < b)) ss := by
    refine srtd_uniq (lt := fun a b : Int => decide (a < b)) (pm.trans (sortBy_perm ss).symm) (ri.imp fun {x y} h => decide_eq_false (by omega)) (sortBy_srtd intLt_swo ss) fun x _ y _ h1 h2 => ?_
    have a : ¬ y < x := of_decide_eq_false h1
    have b : ¬ x < y := of_decide_eq_false h2
    omega
  rw [e]
  exact q p np
end

/-! ### tuples -/
theorem tlt_swo : SrtO.Swo tlt := by
  refine ⟨fun x y h => ?_, fun x y z h1 h2 => ?_⟩
  · cases x with
    | s a =>
      cases y with
      | s b => exact strLt_swo.asym a b h
      | is j b => rfl
    | is i a =>
      cases y with
      | s b => cases h
      | is j b =>
        simp only [tlt] at h ⊢
        by_cases e : i = j
        · rw [if_pos e] at h; rw [if_pos e.symm]; exact strLt_swo.asym a b h
        · rw [if_neg e] at h; rw [if_neg (Ne.symm e)]
          have := of_decide_eq_true h
          exact decide_eq_false (by omega)
  · cases x with
    | s a =>
      cases y with
      | s b =>
        cases z with
        | s c => exact strLt_swo.tr a b c h1 h2
        | is k c => rfl
      | is j b =>
        cases z with
        | s c => cases h2
        | is k c => rfl
    | is i a =>
      cases y with
      | s b => cases h1
      | is j b =>
        cases z with
        | s c => cases h2
        | is k c =>
          simp only [tlt] at h1 h2 ⊢
          by_cases e1 : j = i
          · rw [if_pos e1] at h1
            by_cases e2 : k = j
            · rw [if_pos e2] at h2
              rw [if_pos (e2.trans e1)]
              exact strLt_swo.tr a b c h1 h2
            · rw [if_neg e2] at h2
              have := of_decide_eq_false h2
              rw [if_neg (by omega)]
              exact decide_eq_false (by omega)
          · rw [if_neg e1] at h1
            have := of_decide_eq_false h1
            by_cases e2 : k = j
            · rw [if_neg (by omega)]
              exact decide_eq_false (by omega)
            · rw [if_neg e2] at h2
              have := of_decide_eq_false h2
              rw [if_neg (by omega)]
              exact decide_eq_false (by omega)
theorem tlt_anti {x y : TKey} (h1 : tlt y x = false) (h2 : tlt x y = false) : x = y := by
  cases x with
  | s a =>
    cases y with
    | s b => rw [strLt_anti h1 h2]
    | is j b => cases h2
  | is i a =>
    cases y with
    | s b => cases h1
    | is j b =>
      simp only [tlt] at h1 h2
      by_cases e : i = j
      · rw [if_pos e.symm] at h1; rw [if_pos e] at h2
        rw [e, strLt_anti h1 h2]
      · rw [if_neg (Ne.symm e)] at h1; rw [if_neg e] at h2
        have := of_decide_eq_false h1
        have := of_decide_eq_false h2
        omega
theorem TKey.lt_tlt {x y : TKey} {b : Bool} (h : TKey.lt x y = some b) : b = tlt x y ∧ x ≠ y := by
  cases x with
  | s a =>
    cases y with
    | s c =>
      simp only [TKey.lt] at h
      split at h
      · cases h
      · rename_i e
        cases h
        exact ⟨rfl, fun q => by cases q; exact e (strEq_refl _)⟩
    | is j c => cases h
  | is i a =>
    cases y with
    | s c => cases h
    | is j c =>
      simp only [TKey.lt] at h
      split at h
      · rename_i e
        split at h
        · cases h
        · rename_i e2
          cases h
          exact ⟨by simp only [tlt]; rw [if_pos e], fun q => by cases q; exact e2 (strEq_refl _)⟩
      · rename_i e
        cases h
        exact ⟨by simp only [tlt]; rw [if_neg e], fun q => by cases q; exact e rfl⟩
def sameKind : TKey → TKey → Prop
  | .s _, .s _ => True
  | .is _ _, .is _ _ => True
  | _, _ => False
theorem TKey.lt_kind {x y : TKey} {b : Bool} (h : TKey.lt x y = some b) : sameKind x y := by
  cases x <;> cases y <;> first | trivial | cases h

def KTup : TKey → List Value → Prop
  | .s x, l => ∃ t r, l = .str x t :: r
  | .is i x, l => ∃ t u, l = [.int i t, .str x u]
def KAt (h : Heap) (v : Value) (k : TKey) : Prop := ∃ a o xs n, v = .ref a ∧ h.get? a = some o ∧ o.cls = .type "tuple" ∧ o.data = .seq xs n ∧ KTup k xs.toList
theorem KAt.keeps {h h' : Heap} {v : Value} {k : TKey} (p : KAt h v k) (kk : ∀ b o, h.get? b = some o → o.cls = .type "tuple" → h'.get? b = some o) : KAt h' v k := by
  obtain ⟨a, o, xs, n, e, ho, hc, hd⟩ := p
  exact ⟨a, o, xs, n, e, kk _ _ ho hc, hc, hd⟩
section
variable {prog : Program} {w : World} {A : Around} {E : Value → Shared → Prop} {s : Shared}
theorem kat_self {b : Bool} {Q : Bool → Shared → Prop} {fin : Bool} (q : Q fin s) : ∀ (l : List Value) (i : Nat), PySem.W.KatLex prog w A b fin Q (l.zip l) i s
  | [], _ => PySem.W.kat_nil q
  | v :: l, i => PySem.W.kat_cons (SeqAt.EqAt.same v prog w _ _ (PySem.W.kat_yes (kat_self q l (i + 1))))
theorem tup_cmp {vs : List Value} {k : Value → TKey} (hp : ∀ v ∈ vs, KAt s.heap v (k v)) (hd : ∀ v ∈ vs, ∀ u ∈ vs, k v = k u → v = u) (hk : ∀ v ∈ vs, ∀ u ∈ vs, sameKind (k v) (k u)) :
    SrtO.Cmp prog w A s (PyProof.Rows.tuples' true) (fun p => p.1 ∈ vs) (SrtO.lt2 fun v u => tlt (k v) (k u)) := by
  intro p q hm hm'
  have h1 := hp _ hm
  have h2 := hp _ hm'
  have same := hd _ hm _ hm'
  have kind := hk _ hm _ hm'
  show wpAny (model prog w) A (PyProof.Rows.keyLt' (PyProof.Rows.tuples' true) p.1 q.1) (fun r s' => s' = s ∧ r = tlt (k p.1) (k q.1)) (fun _ _ => False) s
  obtain ⟨a, o, xs, n, e, ho, hc, hx, t1⟩ := h1
  obtain ⟨a', o', xs', n', e', ho', hc', hx', t2⟩ := h2
  by_cases eq : k p.1 = k q.1
  · have z := same eq
    rw [← z] at e' ⊢
    rw [e] at e'
    obtain rfl := Value.ref.inj e'
    rw [e]
    refine PySem.W.kat_lt ho hx ho hx ?_
    refine kat_self ⟨rfl, ?_⟩ _ _
    rw [SrtO.Swo.refl tlt_swo]
    exact decide_eq_false (Nat.lt_irrefl _)
  · rw [e, e']
    refine PySem.W.kat_lt ho hx ho' hx' ?_
    rw [e] at t1 eq kind
    rw [e'] at t2 eq kind
    generalize k (Value.ref a) = ka at *
    generalize k (Value.ref a') = kb at *
    cases ka with
    | s x =>
      cases kb with
      | s y =>
        obtain ⟨t, r, l1⟩ := t1
        obtain ⟨t', r', l2⟩ := t2
        rw [l1, l2]
        have ne : x ≠ y := fun z => eq (by rw [z])
        refine PySem.W.kat_cons (SeqAt.EqAt.str_str x t y t' prog w _ _ ?_)
        rw [beq_eq_false_iff_ne.mpr ne]
        exact PySem.W.kat_no (PyProof.Rows.oneLt_str ⟨rfl, (strLt_eq x y).symm⟩)
      | is j y => exact kind.elim
    | is i x =>
      cases kb with
      | s y => exact kind.elim
      | is j y =>
        obtain ⟨t, u, l1⟩ := t1
        obtain ⟨t', u', l2⟩ := t2
        rw [l1, l2]
        refine PySem.W.kat_cons (SeqAt.EqAt.int_int i t j t' prog w _ _ ?_)
        by_cases ei : i = j
        · rw [beq_iff_eq.mpr ei]
          have ne : x ≠ y := fun z => eq (by rw [z, ei])
          refine PySem.W.kat_yes (PySem.W.kat_cons (SeqAt.EqAt.str_str x u y u' prog w _ _ ?_))
          rw [beq_eq_false_iff_ne.mpr ne]
          refine PySem.W.kat_no (PySem.W.kat_one _ _ (PyProof.Rows.lt_str ?_))
          exact (show s = s ∧ decide (x.cps.toList < y.cps.toList) = tlt (.is i x) (.is j y) from ⟨rfl, by simp only [tlt]; rw [if_pos ei, strLt_eq]⟩)
        · rw [beq_eq_false_iff_ne.mpr ei]
          exact PySem.W.kat_no (PyProof.Rows.oneLt_int ⟨rfl, by simp only [tlt]; rw [if_neg ei]⟩)
theorem tup_firsts {h : Heap} {T : Value} (kd : TKey → Prop) (hT : ∀ k, kd k → T = match k with | .s _ => .type "str" | .is _ _ => .type "int") : ∀ {vs : List Value} {k : Value → TKey}, (∀ v ∈ vs, KAt h v (k v) ∧ kd (k v)) →
    ∃ fs : List Value, PySem.W.KatTups h vs fs ∧ fs.length = vs.length ∧ ∀ f ∈ fs, ∀ M : Model, PySem.W.Looks M h (typeOf f) T
  | [], _, _ => ⟨[], PySem.W.KatTups.nil, rfl, fun _ hm => nomatch hm⟩
  | v :: vs, k, hp => by
    obtain ⟨fs, h1, h2, h3⟩ := tup_firsts kd hT (vs := vs) (k := k) fun v' hm => hp v' (List.mem_cons_of_mem _ hm)
    obtain ⟨⟨a, o, xs, n, e, ho, hc, hd, kt⟩, hk⟩ := hp v List.mem_cons_self
    have ht := hT _ hk
    have go : ∀ f : Value, xs[0]? = some f → (∀ M : Model, PySem.W.Looks M h (typeOf f) T) → ∃ fs : List Value, PySem.W.KatTups h (v :: vs) fs ∧ fs.length = (v :: vs).length ∧ ∀ f ∈ fs, ∀ M : Model, PySem.W.Looks M h (typeOf f) T := by
      intro f hf hl
      refine ⟨f :: fs, by rw [e]; exact PySem.W.KatTups.cons ho hc hd hf h1, by rw [List.length_cons, List.length_cons, h2], fun g hg => ?_⟩
      rcases List.mem_cons.mp hg with z | z
      · rw [z]; exact hl
      · exact h3 g z
    have first : ∀ (f : Value) (r : List Value), xs.toList = f :: r → xs[0]? = some f := fun f r q => by
      have z := congrArg (fun l : List Value => l[0]?) q
      simpa using z
    cases q : k v with
    | s x =>
      rw [q] at kt ht
      obtain ⟨t, r, l⟩ := kt
      refine go _ (first _ _ l) fun M => ?_
      rw [ht]
      exact PySem.W.Looks.now
    | is i x =>
      rw [q] at kt ht
      obtain ⟨t, u, l⟩ := kt
      refine go _ (first _ _ l) fun M => ?_
      rw [ht]
      exact PySem.W.Looks.now
theorem tup_sortable {a : Addr} {vs : List Value} {k : Value → TKey} (h0 : 0 < vs.length) (hp : ∀ v ∈ vs, KAt s.heap v (k v)) (hd : ∀ v ∈ vs, ∀ u ∈ vs, k v = k u → v = u) (hk : ∀ v ∈ vs, ∀ u ∈ vs, sameKind (k v) (k u))
    (ha : ∀ o, s.heap.get? a = some o → o.cls ≠ .type "tuple") : SrtO.SortableO prog w A s a vs fun v u => tlt (k v) (k u) := by
  intro h' keep
  have hp' : ∀ v ∈ vs, KAt h' v (k v) := fun v hm => (hp v hm).keeps fun b o e c => keep b o (fun z => by subst z; exact ha o e c) e
  obtain ⟨v0, m0⟩ : ∃ v, v ∈ vs := by
    match vs, h0 with
    | v :: _, _ => exact ⟨v, List.mem_cons_self⟩
  refine ⟨PyProof.Rows.tuples' true, fun Q E hq => ?_, tup_cmp hp' hd hk⟩
  have fin : ∀ T : String, (Value.type T != Value.type "tuple") = true → (∀ k', sameKind (k v0) k' → (Value.type T) = match k' with | .s _ => Value.type "str" | .is _ _ => Value.type "int") → wpAny (model prog w) A (PyProof.Rows.keyKind' vs.toArray) Q E { s with heap := h' } := by
    intro T hne hT
    obtain ⟨fs, h1, h2, h3⟩ := tup_firsts (h := h') (T := .type T) (sameKind (k v0)) hT (vs := vs) (k := k) fun v hv => ⟨hp' v hv, hk _ m0 _ hv⟩
    refine PySem.W.kat_kind (T := .type T) h1 (by omega) (fun f hm => h3 f hm _) (by rw [beq_self_eq_true]) ?_
    rw [hne]
    exact hq
  cases q : k v0 with
  | s x =>
    refine fin "str" (by first | decide +kernel | rfl) fun k' hk' => ?_
    rw [q] at hk'
    cases k' with
    | s y => rfl
    | is j y => exact hk'.elim
  | is i x =>
    refine fin "int" (by first | decide +kernel | rfl) fun k' hk' => ?_
    rw [q] at hk'
    cases k' with
    | s y => exact hk'.elim
    | is j y => rfl
end
section
variable {X : Cx}
/-- sorted(xs), xs of tuples, kV's their keys -/
theorem cr_sortTup : CallR X (.builtin "sorted") (fun vs H Q => ∃ (a : Addr) (xs : List V) (k : V → TKey), vs = [V.ref a] ∧ SqL X.K H a xs ∧
    (∀ x ∈ xs, ∃ t its, x = V.ref t ∧ H t = some (.tup its) ∧ (match k x with | .s z => ∃ r, its = V.str z :: r | .is i z => its = [V.int i, V.str z])) ∧
    (∀ x ∈ xs, ∀ y ∈ xs, k x = k y → x = y) ∧ (∀ x ∈ xs, ∀ y ∈ xs, sameKind (k x) (k y)) ∧
    ∀ ys p, SrtO.Srtd (fun x y => tlt (k x) (k y)) ys → ys.Perm xs → H p = none → Q (.ref p) (upd H p (.lst ys))) := by
  intro pins s σ H vs us Q I r h
  obtain ⟨a, xs, k, rfl, hs, hx, hd, hk, q⟩ := h
  obtain ⟨its, rv, hl, hz⟩ := I.list hs
  obtain ⟨u, rfl, ru⟩ := vals1 r
  obtain rfl : u = Value.ref a := ru
  obtain ⟨e1, e2⟩ := refs_back rv fun x m => by
    obtain ⟨t, _, e, _⟩ := hx x m
    exact ⟨t, e⟩
  have mem : ∀ v ∈ its, backV v ∈ xs := fun v hv => by rw [e1]; exact List.mem_map.mpr ⟨_, hv, rfl⟩
  have hp : ∀ v ∈ its, KAt s.heap v (k (backV v)) := fun v hv => by
    obtain ⟨t, rfl⟩ := e2 v hv
    obtain ⟨t', l, e, ht, hm⟩ := hx _ (mem _ hv)
    cases e
    obtain ⟨_, its2, r2, o, ho, hc, n, hd'⟩ := I.hok _ _ ht
    refine ⟨t, o, its2.toArray, n, rfl, ho, hc, hd', ?_⟩
    show KTup (k (V.ref t)) its2
    have hm : (match k (V.ref t) with | .s z => ∃ r, l = V.str z :: r | .is i z => l = [V.int i, V.str z]) := hm
    cases q2 : k (V.ref t) with
    | s z =>
      rw [q2] at hm
      obtain ⟨r, rfl⟩ := hm
      cases r2 with
      | cons c1 c2 =>
        obtain ⟨tk, rfl⟩ := c1
        exact ⟨tk, _, rfl⟩
    | is i z =>
      rw [q2] at hm
      have hm : l = [V.int i, V.str z] := hm
      subst hm
      obtain ⟨u1, u2, rfl, ri, rj⟩ := vals2 r2
      obtain ⟨t1, rfl⟩ := ri
      obtain ⟨t2, rfl⟩ := rj
      exact ⟨t1, t2, rfl⟩
  have inj : ∀ v ∈ its, ∀ u ∈ its, k (backV v) = k (backV u) → v = u := fun v hv u hu e => by
    have z := hd _ (mem v hv) _ (mem u hu) e
    obtain ⟨t, rfl⟩ := e2 v hv
    obtain ⟨t', rfl⟩ := e2 u hu
    cases z
    rfl
  refine SrtO.sorted_ord (ltv := fun v u => tlt (k (backV v)) (k (backV u))) ⟨fun x y => tlt_swo.asym _ _, fun x y z => tlt_swo.tr _ _ _⟩ hl.isList (by rw [← rv.length]; exact hz) (fun h2 h₁ a ha kk => ?_) fun out h1 h2 => ?_
  · refine tup_sortable (s := { s with heap := h₁ }) (k := fun v => k (backV v)) (by omega) (fun v hv => (hp v hv).keeps fun b o e _ => (kk b o e).2) inj (fun v hv u hu => hk _ (mem v hv) _ (mem u hu)) fun o e => ?_
    have e' : some o = some (PyProof.Rows.seqObj "list" its.toArray 0) := e.symm.trans ha
    cases e'
    intro c
    exact absurd (Value.type.inj c) (by decide)
  · have h3 : ∀ u ∈ out, ∃ a, u = Value.ref a := fun u hu => e2 u (h2.perm.mem_iff.mp hu)
    obtain ⟨n, hn⟩ := PyProof.Rows.sortedAll_at s.heap its out.toArray
    have pm : (out.map backV).Perm xs := by
      rw [e1]
      exact h2.perm.map backV
    have hd' : s.heap.objs.size ≤ s.heap.objs.size + 1 := Nat.le_succ _
    refine ⟨.ref _, upd H _ (.lst (out.map backV)), I.laid (t' := s.toks) (fun b o e => PyProof.Rows.sortedAll_old e) hd' ⟨?_, out, n, vals_back h3, hn⟩, rfl, q _ _ (SrtO.srtd_map h1) pm (I.hok.fresh hd')⟩
    rw [pm.length_eq]
    exact hz
end
end MP

end
section
set_option linter.all false
set_option maxRecDepth 100000
/-! MPOps3: built-in functions and methods. -/
namespace MP
open PySem L2

section
variable {F : Fx} {X : Cx} {m : Mp} {h : OH} {H : Hp}
theorem trs_strs {xs : List OV} {ss : List Str} (e : strsOf xs = some ss) : trs F m xs = ss.map V.str := by
  induction xs generalizing ss with
  | nil => cases e; rfl
  | cons x r ih =>
    cases x with
    | str z =>
      simp only [strsOf] at e
      cases q : strsOf r with
      | none => rw [q] at e; cases e
      | some zs => rw [q] at e; cases e; simp only [trs, List.map_cons, tr]; rw [← ih q]
    | _ => cases e
theorem trs_ints {xs : List OV} {ss : List Int} (e : intsOf xs = some ss) : trs F m xs = ss.map V.int := by
  induction xs generalizing ss with
  | nil => cases e; rfl
  | cons x r ih =>
    cases x with
    | int z =>
      simp only [intsOf] at e
      cases q : intsOf r with
      | none => rw [q] at e; cases e
      | some zs => rw [q] at e; cases e; simp only [trs, List.map_cons, tr]; rw [← ih q]
    | _ => cases e
theorem trs_bools {xs : List OV} {ss : List Bool} (e : boolsOf xs = some ss) : trs F m xs = ss.map V.bl := by
  induction xs generalizing ss with
  | nil => cases e; rfl
  | cons x r ih =>
    cases x with
    | bl z =>
      simp only [boolsOf] at e
      cases q : boolsOf r with
      | none => rw [q] at e; cases e
      | some zs => rw [q] at e; cases e; simp only [trs, List.map_cons, tr]; rw [← ih q]
    | _ => cases e
theorem trs_str' (ss : List Str) : trs F m (ss.map OV.str) = ss.map V.str := by
  show List.map _ (List.map _ _) = _
  rw [List.map_map]; rfl
theorem vals_str {n : Nat} (ss : List Str) : vals n (ss.map OV.str) := fun x hx => by
  obtain ⟨i, _, rfl⟩ := List.mem_map.mp hx
  trivial
theorem vals_int {n : Nat} (ss : List Int) : vals n (ss.map OV.int) := fun x hx => by
  obtain ⟨i, _, rfl⟩ := List.mem_map.mp hx
  trivial
theorem maxI_mem (x : Int) (l : List Int) : maxI x l ∈ x :: l := by
  induction l generalizing x with
  | nil => simp [maxI]
  | cons y r ih =>
    unfold maxI
    have := ih (if x < y then y else x)
    generalize maxI (if x < y then y else x) r = M at this ⊢
    rcases List.mem_cons.mp this with q | q
    · split at q
      · exact List.mem_cons_of_mem _ (by rw [q]; exact List.mem_cons_self)
      · rw [q]; exact List.mem_cons_self
    · exact List.mem_cons_of_mem _ (List.mem_cons_of_mem _ q)
theorem maxI_le (x : Int) (l : List Int) : ∀ y ∈ x :: l, y ≤ maxI x l := by
  induction l generalizing x with
  | nil => intro y hy; simp at hy; subst hy; exact Int.le_refl _
  | cons z r ih =>
    intro y hy
    unfold maxI
    have k := ih (if x < z then z else x)
    have k0 := k _ List.mem_cons_self
    generalize maxI (if x < z then z else x) r = M at k k0 ⊢
    simp only [List.mem_cons] at hy
    rcases hy with e | e | hy
    · rw [e]; split at k0 <;> omega
    · rw [e]; split at k0 <;> omega
    · exact k y (List.mem_cons_of_mem _ hy)
theorem cr_false {r : List V → Hp → VK → Prop} {f : Value} (h : ∀ vs H Q, ¬ r vs H Q) : CallR X f r := fun _ _ _ _ _ _ _ _ _ q => (h _ _ _ q).elim
theorem crImp {f : Value} {r r' : List V → Hp → VK → Prop} (c : CallR X f r) (h : ∀ vs H Q, r' vs H Q → r vs H Q) : CallR X f r' := fun pins s σ H xs us Q I rv q => c pins s σ H xs us Q I rv (h _ _ _ q)
theorem crOr {f : Value} {r r' : List V → Hp → VK → Prop} (c : CallR X f r) (c' : CallR X f r') : CallR X f (fun vs H Q => r vs H Q ∨ r' vs H Q) := fun pins s σ H xs us Q I rv q => q.elim (c pins s σ H xs us Q I rv) (c' pins s σ H xs us Q I rv)

theorem bf_len (hK : X.K = F.K) : CallR X (.builtin "len") (rFn F (bfV .len)) := by
  refine crImp (crOr call_len call_lenD) fun vs H Q q => ?_
  obtain ⟨m, h, a, ok, va, rfl, o⟩ := q
  cases a with
  | nil => exact (show False from o).elim
  | cons x r =>
    cases r with
    | cons _ _ => exact (show False from o).elim
    | nil =>
      cases x with
      | str z =>
        simp only [bfV] at o
        split at o
        · rename_i l
          exact .inl ⟨_, z.length, rfl, ⟨lim_le l, rfl⟩, Out.ok o (Nx.refl ok) trivial⟩
        · exact (show False from o).elim
      | ref n =>
        simp only [bfV] at o
        split at o
        · rename_i ys q; exact .inl ⟨_, ys.length, rfl, .inl ⟨_, SqL.of (ok.lst q).2, (trs_len _).symm⟩, Out.ok o (Nx.refl ok) trivial⟩
        · rename_i ys q; exact .inl ⟨_, ys.length, rfl, .inr ⟨_, SqT.of (ok.tup q).2, (trs_len _).symm⟩, Out.ok o (Nx.refl ok) trivial⟩
        · rename_i ys q
          refine .inr ⟨_, _, rfl, (ok.dct q).2, ?_⟩
          rw [show (trk F m ys).length = ys.length from List.length_map _]
          exact Out.ok o (Nx.refl ok) trivial
        · exact (show False from o).elim
      | scr => exact .inl ⟨_, h.scr.length, rfl, .inl ⟨_, (show SqL X.K H F.sa (trs F m h.scr) from hK ▸ ok.scrL.1), (trs_len _).symm⟩, Out.ok o (Nx.refl ok) trivial⟩
      | _ => exact (show False from o).elim
theorem lst_bind {α : Type} {f : List OV → Option α} {v : OV} {a : α} (e : (lstOf h v).bind f = some a) : ∃ xs, lstOf h v = some xs ∧ f xs = some a := Option.bind_eq_some_iff.mp e
theorem bf_all (hK : X.K = F.K) (hc : X.calm = true) : CallR X (.builtin "all") (rFn F (bfV .all)) := by
  refine crImp (cr_all hc) fun vs H Q q => ?_
  obtain ⟨m, h, a, ok, va, rfl, o⟩ := q
  cases a with
  | nil => exact (show False from o).elim
  | cons x r =>
    cases r with
    | cons _ _ => exact (show False from o).elim
    | nil =>
      simp only [bfV] at o
      split at o
      · rename_i bs e
        obtain ⟨xs, e1, e2⟩ := lst_bind e
        obtain ⟨v1, p, ep, hl⟩ := ok.isL e1
        rw [trs_bools e2, ← hK] at hl
        exact ⟨p, bs, by rw [trs, List.map_cons, ep]; rfl, hl, Out.ok o (Nx.refl ok) trivial⟩
      · exact (show False from o).elim
theorem bf_any (hK : X.K = F.K) (hc : X.calm = true) : CallR X (.builtin "any") (rFn F (bfV .any)) := by
  refine crImp (cr_any hc) fun vs H Q q => ?_
  obtain ⟨m, h, a, ok, va, rfl, o⟩ := q
  cases a with
  | nil => exact (show False from o).elim
  | cons x r =>
    cases r with
    | cons _ _ => exact (show False from o).elim
    | nil =>
      simp only [bfV] at o
      split at o
      · rename_i bs e
        obtain ⟨xs, e1, e2⟩ := lst_bind e
        obtain ⟨v1, p, ep, hl⟩ := ok.isL e1
        rw [trs_bools e2, ← hK] at hl
        exact ⟨p, bs, by rw [trs, List.map_cons, ep]; rfl, hl, Out.ok o (Nx.refl ok) trivial⟩
      · exact (show False from o).elim
theorem bf_max (hK : X.K = F.K) (hc : X.calm = true) : CallR X (.builtin "max") (rFn F (bfV .max)) := by
  refine crImp (cr_max hc) fun vs H Q q => ?_
  obtain ⟨m, h, a, ok, va, rfl, o⟩ := q
  cases a with
  | nil => exact (show False from o).elim
  | cons x r =>
    cases r with
    | cons _ _ => exact (show False from o).elim
    | nil =>
      simp only [bfV] at o
      split at o
      · rename_i i is e
        obtain ⟨xs, e1, e2⟩ := lst_bind e
        obtain ⟨v1, p, ep, hl⟩ := ok.isL e1
        rw [trs_ints e2, ← hK] at hl
        refine ⟨p, _, by rw [trs, List.map_cons, ep]; rfl, hl, by simp, fun k hk hm => ?_⟩
        have e3 : k = maxI i is := by
          have a1 := maxI_le i is k hk
          have a2 := hm _ (maxI_mem i is)
          omega
        rw [e3]
        exact Out.ok o (Nx.refl ok) trivial
      · exact (show False from o).elim
theorem min_form {a : List OV} {h h' : OH} {v : OV} (e : bfV .min a h = .ok v h') : ∃ i j, a = [.int i, .int j] ∧ v = .int (if j < i then j else i) ∧ h' = h := by
  match a, e with
  | [.int i, .int j], e => cases e; exact ⟨i, j, rfl, rfl, rfl⟩
theorem min_ex {a : List OV} {h h' : OH} {c : Nat} (e : bfV .min a h = .ex c h') : False := by
  match a, e with
  | [.int i, .int j], e => cases e
theorem bf_min (hc : X.calm = true) : CallR X (.builtin "min") (rFn F (bfV .min)) := by
  refine crImp (call_min2 hc) fun vs H Q q => ?_
  obtain ⟨m, h, a, ok, va, rfl, o⟩ := q
  cases e : bfV .min a h with
  | ok v h' =>
    obtain ⟨i, j, rfl, rfl, rfl⟩ := min_form e
    rw [e] at o
    exact ⟨i, j, rfl, Out.ok o (Nx.refl ok) trivial⟩
  | ex c h' => exact (min_ex e).elim
  | no => rw [e] at o; exact (show False from o).elim
theorem bf_abs : CallR X (.builtin "abs") (rFn F (bfV .abs)) := by
  refine crImp call_abs fun vs H Q q => ?_
  obtain ⟨m, h, a, ok, va, rfl, o⟩ := q
  cases a with
  | nil => exact (show False from o).elim
  | cons x r =>
    cases r with
    | cons _ _ => cases x <;> exact (show False from o).elim
    | nil =>
      cases x with
      | int i => exact ⟨i, rfl, Out.ok o (Nx.refl ok) trivial⟩
      | _ => exact (show False from o).elim
theorem trk_keys (kvs : List (Str × OV)) : ((trk F m kvs).map fun kv => kV kv.1) = trs F m (kvs.map fun p => .str p.1) := by
  show List.map _ (List.map _ _) = List.map _ (List.map _ _)
  rw [List.map_map, List.map_map]; rfl
theorem vals_keys {n : Nat} (kvs : List (Str × OV)) : vals n (kvs.map fun p => .str p.1) := fun x hx => by
  obtain ⟨i, _, rfl⟩ := List.mem_map.mp hx
  trivial
theorem bf_list (hK : X.K = F.K) (hc : X.calm = true) : CallR X (.type "list") (rFn F (bfV .list)) := by
  refine crImp (crOr call_list_of (call_listD hc)) fun vs H Q q => ?_
  obtain ⟨m, h, a, ok, va, rfl, o⟩ := q
  cases a with
  | nil => exact (show False from o).elim
  | cons x r =>
    cases r with
    | cons _ _ => exact (show False from o).elim
    | nil =>
      cases x with
      | ref n =>
        simp only [bfV] at o
        split at o
        · rename_i ys q
          refine .inl ⟨_, _, rfl, .inl (SqL.of (ok.lst q).2), fun l nl => ?_⟩
          have z := Out.ok o (ok.newL nl (ok.lst q).1) (Nat.lt_succ_self _)
          rw [newref] at z; exact z
        · rename_i ys q
          refine .inl ⟨_, _, rfl, .inr (SqT.of (ok.tup q).2), fun l nl => ?_⟩
          have z := Out.ok o (ok.newL nl (ok.tup q).1) (Nat.lt_succ_self _)
          rw [newref] at z; exact z
        · rename_i kvs q
          refine .inr ⟨_, _, rfl, .inl (ok.dct q).2, fun l nl => ?_⟩
          have z := Out.ok o (ok.newL nl (vals_keys kvs)) (Nat.lt_succ_self _)
          rw [newref] at z
          rw [trk_keys]; exact z
        · exact (show False from o).elim
      | scr =>
        refine .inl ⟨_, _, rfl, .inl ((show SqL X.K H F.sa (trs F m h.scr) from hK ▸ ok.scrL.1)), fun l nl => ?_⟩
        have z := Out.ok o (ok.newL nl ok.scrL.2) (Nat.lt_succ_self _)
        rw [newref] at z; exact z
      | _ => exact (show False from o).elim
theorem bf_tuple (hK : X.K = F.K) : CallR X (.type "tuple") (rFn F (bfV .tuple)) := by
  refine crImp call_tuple_of fun vs H Q q => ?_
  obtain ⟨m, h, a, ok, va, rfl, o⟩ := q
  cases a with
  | nil => exact (show False from o).elim
  | cons x r =>
    cases r with
    | cons _ _ => exact (show False from o).elim
    | nil =>
      cases x with
      | ref n =>
        simp only [bfV] at o
        split at o
        · rename_i ys q
          refine ⟨_, _, rfl, .inl ⟨SqL.of (ok.lst q).2, fun l nl => ?_⟩⟩
          have z := Out.ok o (ok.newT nl (ok.lst q).1) (Nat.lt_succ_self _)
          rw [newref] at z; exact z
        · rename_i ys q
          exact ⟨_, _, rfl, .inr ⟨SqT.of (ok.tup q).2, Out.ok o (Nx.refl ok) (va _ List.mem_cons_self)⟩⟩
        · exact (show False from o).elim
      | _ => exact (show False from o).elim
theorem pairs_of (hK : X.K = F.K) (ok : Ok F m h H) : ∀ {ys : List OV} {ps : List (Str × OV)}, pairsOf h ys = some ps →
    (∃ as : List Addr, trs F m ys = as.map V.ref ∧ Paired (fun p kv => SqT X.K H p [kV kv.1, kv.2]) as (trk F m ps)) ∧ ∀ q ∈ ps, val h.n q.2
  | [], ps, e => by cases e; exact ⟨⟨[], rfl, .nil⟩, fun q hq => nomatch hq⟩
  | .ref n :: r, ps, e => by
    simp only [pairsOf] at e
    split at e
    · rename_i k v q
      split at e
      · rename_i qs eq
        cases e
        obtain ⟨⟨as, e1, pp⟩, vv⟩ := pairs_of hK ok eq
        obtain ⟨v1, h1⟩ := ok.tup q
        refine ⟨⟨m n :: as, ?_, .cons (SqT.of h1) pp⟩, fun q hq => ?_⟩
        · show V.ref (m n) :: trs F m r = _
          rw [e1]; rfl
        · rcases List.mem_cons.mp hq with rfl | hq
          · exact v1 _ (by simp)
          · exact vv q hq
      · cases e
    · cases e
  | .non :: r, ps, e => by cases e
  | .bl _ :: r, ps, e => by cases e
  | .int _ :: r, ps, e => by cases e
  | .str _ :: r, ps, e => by cases e
  | .scr :: r, ps, e => by cases e
theorem mergeP_trk0 (ps : List (Str × OV)) : mergeK [] (trk F m ps) = trk F m (mergeP [] ps) := mergeP_trk ps []
theorem bf_dict (hK : X.K = F.K) (hc : X.calm = true) : CallR X (.type "dict") (rFn F (bfV .dict)) := by
  refine crImp (crOr call_dictD (call_dictP hc)) fun vs H Q q => ?_
  obtain ⟨m, h, a, ok, va, rfl, o⟩ := q
  cases a with
  | nil => exact (show False from o).elim
  | cons x r =>
    cases r with
    | cons _ _ => exact (show False from o).elim
    | nil =>
      cases x with
      | ref n =>
        simp only [bfV] at o
        split at o
        · rename_i kvs q
          refine .inl ⟨_, _, rfl, .inl (ok.dct q).2, fun l nl => ?_⟩
          have z := Out.ok o (ok.newD nl (ok.dct q).1) (Nat.lt_succ_self _)
          rw [newref] at z; exact z
        · rename_i ys q
          split at o
          · rename_i ps ep
            obtain ⟨⟨as, e1, pp⟩, vv⟩ := pairs_of hK ok ep
            have hl := (ok.lst q).2
            rw [e1] at hl
            refine .inr ⟨_, as, _, rfl, SqL.of hl, pp, fun l nl => ?_⟩
            have z := Out.ok o (ok.newD nl (val_mergeP (fun q hq => nomatch hq) vv)) (Nat.lt_succ_self _)
            rw [newref] at z
            rw [mergeP_trk0]; exact z
          · exact (show False from o).elim
        · exact (show False from o).elim
      | _ => exact (show False from o).elim

/-! ### sorted -/
theorem mapO_get {α β : Type} {f : α → Option β} : ∀ {xs : List α} {ks : List β}, mapO f xs = some ks → ks.length = xs.length ∧ ∀ (i : Nat) (x : α), xs[i]? = some x → ∃ k, ks[i]? = some k ∧ f x = some k
  | [], ks, e => by cases e; exact ⟨rfl, fun i x q => by simp at q⟩
  | y :: r, ks, e => by
    simp only [mapO] at e
    split at e
    · rename_i k ek
      split at e
      · rename_i qs eq
        cases e
        obtain ⟨l, g⟩ := mapO_get eq
        refine ⟨by simp [l], fun i x q => ?_⟩
        cases i with
        | zero => simp at q; subst q; exact ⟨k, rfl, ek⟩
        | succ i => exact g i x (by simpa using q)
      · cases e
    · cases e
def kOf : List (TKey × V) → V → TKey
  | [], _ => .s Str.empty
  | (k, u) :: r, v => if u = v then k else kOf r v
theorem kOf_is {v : V} {k : TKey} : ∀ {l : List (TKey × V)}, (k, v) ∈ l → (∀ k', (k', v) ∈ l → k' = k) → kOf l v = k
  | [], a, _ => nomatch a
  | (j, u) :: r, a, b => by
    unfold kOf
    by_cases e : u = v
    · rw [if_pos e]; exact b j (by rw [e]; exact List.mem_cons_self)
    · rw [if_neg e]
      rcases List.mem_cons.mp a with q | q
      · cases q; exact absurd rfl e
      · exact kOf_is q fun k' h => b k' (List.mem_cons_of_mem _ h)
theorem tr_inj (ok : Ok F m h H) {i j : Nat} (a : i < h.n) (b : j < h.n) (e : tr F m (.ref i) = tr F m (.ref j)) : i = j := ok.inj i j a b (V.ref.inj e)
theorem tkey_ref {v : OV} {k : TKey} (e : tkeyOf h v = some k) : ∃ n xs, v = .ref n ∧ h.get n = some (.tup xs) ∧ (match k with | .s z => ∃ r, xs = OV.str z :: r | .is i z => xs = [OV.int i, OV.str z]) := by
  cases v with
  | ref n =>
    simp only [tkeyOf] at e
    split at e
    · rename_i x r q; cases e; exact ⟨n, _, rfl, q, _, rfl⟩
    · rename_i i x q; cases e; exact ⟨n, _, rfl, q, rfl⟩
    · cases e
  | _ => cases e
theorem tkeysOk_get : ∀ {ks : List TKey}, tkeysOk ks = true → ∀ (i j : Nat) (a b : TKey), i < j → ks[i]? = some a → ks[j]? = some b → sameKind a b ∧ a ≠ b
  | [], _, i, j, a, b, _, q, _ => by simp at q
  | k :: r, e, i, j, a, b, l, q1, q2 => by
    simp only [tkeysOk, Bool.and_eq_true, List.all_eq_true] at e
    cases j with
    | zero => omega
    | succ j =>
      have q2 : r[j]? = some b := by simpa using q2
      cases i with
      | zero =>
        have q1 : k = a := by simpa using q1
        subst q1
        obtain ⟨c, ec⟩ := Option.isSome_iff_exists.mp (e.1 b (List.mem_of_getElem? q2))
        exact ⟨TKey.lt_kind ec, (TKey.lt_tlt ec).2⟩
      | succ i => exact tkeysOk_get e.2 i j a b (by omega) (by simpa using q1) q2
theorem sameKind_symm {a b : TKey} (s : sameKind a b) : sameKind b a := by cases a <;> cases b <;> first | trivial | exact s.elim
theorem sameKind_refl (a : TKey) : sameKind a a := by cases a <;> trivial
theorem zip_at {α β : Type} {as : List α} {bs : List β} {p : α × β} (h : p ∈ as.zip bs) : ∃ i : Nat, as[i]? = some p.1 ∧ bs[i]? = some p.2 := by
  obtain ⟨i, q⟩ := List.mem_iff_getElem?.mp h
  obtain ⟨a, b⟩ := p
  rw [List.getElem?_zip_eq_some] at q
  exact ⟨i, q⟩
theorem bf_sorted (hK : X.K = F.K) : CallR X (.builtin "sorted") (rFn F (bfV .sorted)) := by
  refine crImp (crOr cr_sortStr (crOr cr_sortInt cr_sortTup)) fun vs H Q q => ?_
  obtain ⟨m, h, a, ok, va, rfl, o⟩ := q
  cases a with
  | nil => exact (show False from o).elim
  | cons x r =>
    cases r with
    | cons _ _ => exact (show False from o).elim
    | nil =>
      simp only [bfV] at o
      split at o
      · rename_i xs e1
        obtain ⟨v1, p, ep, hl⟩ := ok.isL e1
        rw [← hK] at hl
        have ex : trs F m [x] = [V.ref p] := by rw [trs, List.map_cons, ep]; rfl
        unfold sortedV at o
        split at o
        · rename_i ss es
          rw [trs_strs es] at hl
          refine .inl ⟨p, ss, ex, hl, fun l nl => ?_⟩
          have z := Out.ok o (ok.newL nl (vals_str _)) (Nat.lt_succ_self _)
          rw [newref, trs_str'] at z; exact z
        · split at o
          · rename_i ss es
            rw [trs_ints es] at hl
            refine .inr (.inl ⟨p, ss, ex, hl, fun l nl => ?_⟩)
            have z := Out.ok o (ok.newL nl (vals_int _)) (Nat.lt_succ_self _)
            rw [newref, trs_int] at z; exact z
          · split at o
            · rename_i ks ek
              split at o
              · rename_i tk
                obtain ⟨lk, g⟩ := mapO_get ek
                -- the key of a value
                have key : ∀ (i : Nat) (y : OV), xs[i]? = some y → ∃ k, ks[i]? = some k ∧ tkeyOf h y = some k ∧ kOf (ks.zip (trs F m xs)) (tr F m y) = k := fun i y hy => by
                  obtain ⟨k, h1, h2⟩ := g i y hy
                  refine ⟨k, h1, h2, kOf_is (List.mem_iff_getElem?.mpr ⟨i, List.getElem?_zip_eq_some.mpr ⟨h1, by rw [List.getElem?_map, hy]; rfl⟩⟩) fun k' hk => ?_⟩
                  obtain ⟨j, j1, j2⟩ := zip_at hk
                  rw [List.getElem?_map] at j2
                  obtain ⟨y', e3, e4⟩ := Option.map_eq_some_iff.mp j2
                  obtain ⟨k2, g1, g2⟩ := g j y' e3
                  rw [j1] at g1; cases g1
                  obtain ⟨n, _, rfl, _⟩ := tkey_ref h2
                  obtain ⟨n', _, rfl, _⟩ := tkey_ref g2
                  have z := tr_inj ok (v1 _ (List.mem_of_getElem? e3)) (v1 _ (List.mem_of_getElem? hy)) e4
                  subst z
                  rw [h2] at g2; cases g2; rfl
                have mem : ∀ z ∈ trs F m xs, ∃ i y, xs[i]? = some y ∧ tr F m y = z := fun z hz => by
                  obtain ⟨y, hy, rfl⟩ := List.mem_map.mp hz
                  obtain ⟨i, hi⟩ := List.mem_iff_getElem?.mp hy
                  exact ⟨i, y, hi, rfl⟩
                have two : ∀ u ∈ trs F m xs, ∀ w ∈ trs F m xs, sameKind (kOf (ks.zip (trs F m xs)) u) (kOf (ks.zip (trs F m xs)) w) ∧ (kOf (ks.zip (trs F m xs)) u = kOf (ks.zip (trs F m xs)) w → u = w) := fun u hu w hw => by
                  obtain ⟨i, y, hy, rfl⟩ := mem u hu
                  obtain ⟨j, y', hy', rfl⟩ := mem w hw
                  obtain ⟨k, a1, a2, a3⟩ := key i y hy
                  obtain ⟨k', b1, b2, b3⟩ := key j y' hy'
                  rw [a3, b3]
                  rcases Nat.lt_trichotomy i j with c | c | c
                  · obtain ⟨s1, s2⟩ := tkeysOk_get tk i j k k' c a1 b1
                    exact ⟨s1, fun q => absurd q s2⟩
                  · subst c
                    rw [hy] at hy'; cases hy'
                    rw [a1] at b1; cases b1
                    exact ⟨sameKind_refl _, fun _ => rfl⟩
                  · obtain ⟨s1, s2⟩ := tkeysOk_get tk j i k' k c b1 a1
                    exact ⟨sameKind_symm s1, fun q => absurd q.symm s2⟩
                refine .inr (.inr ⟨p, trs F m xs, kOf (ks.zip (trs F m xs)), ex, hl, fun u hu => ?_, fun u hu w hw => (two u hu w hw).2, fun u hu w hw => (two u hu w hw).1, fun ys l srt pm nl => ?_⟩)
                · obtain ⟨i, y, hy, rfl⟩ := mem u hu
                  obtain ⟨k, a1, a2, a3⟩ := key i y hy
                  obtain ⟨n, its, rfl, en, hm⟩ := tkey_ref a2
                  refine ⟨m n, trs F m its, rfl, (ok.tup en).2, ?_⟩
                  rw [a3]
                  cases k with
                  | s z => obtain ⟨r, rfl⟩ := hm; exact ⟨_, rfl⟩
                  | is i z =>
                    have hm : its = [OV.int i, OV.str z] := hm
                    subst hm; rfl
                · have pz : ((ks.zip xs).map (·.2)) = xs := List.map_snd_zip (by omega)
                  have pm2 : (trs F m ((sortBy pairLt (ks.zip xs)).map (·.2))).Perm (trs F m xs) := by
                    have z := ((sortBy_perm (lt := pairLt) (ks.zip xs)).map (·.2)).map (tr F m)
                    rw [pz] at z
                    exact z
                  have sw : SrtO.Swo pairLt := ⟨fun x y => tlt_swo.asym _ _, fun x y z => tlt_swo.tr _ _ _⟩
                  have srt2 : SrtO.Srtd (fun x y => tlt (kOf (ks.zip (trs F m xs)) x) (kOf (ks.zip (trs F m xs)) y)) (trs F m ((sortBy pairLt (ks.zip xs)).map (·.2))) := by
                    have z := sortBy_srtd sw (ks.zip xs)
                    show List.Pairwise _ (List.map _ (List.map _ _))
                    rw [List.map_map, List.pairwise_map]
                    refine List.Pairwise.imp_of_mem (fun {c d} hc hd hcd => ?_) z
                    obtain ⟨i, i1, i2⟩ := zip_at ((sortBy_perm (lt := pairLt) (ks.zip xs)).mem_iff.mp hc)
                    obtain ⟨j, j1, j2⟩ := zip_at ((sortBy_perm (lt := pairLt) (ks.zip xs)).mem_iff.mp hd)
                    obtain ⟨k, a1, a2, a3⟩ := key i _ i2
                    obtain ⟨k', b1, b2, b3⟩ := key j _ j2
                    rw [i1] at a1; cases a1
                    rw [j1] at b1; cases b1
                    show tlt (kOf _ (tr F m d.2)) (kOf _ (tr F m c.2)) = false
                    rw [a3, b3]
                    exact hcd
                  have eq : ys = trs F m ((sortBy pairLt (ks.zip xs)).map (·.2)) := srtd_uniq (pm.trans pm2.symm) srt srt2 fun u hu w hw h1 h2 =>
                    (two u (pm.mem_iff.mp hu) w (pm2.mem_iff.mp hw)).2 (tlt_anti h1 h2)
                  rw [eq]
                  have vv : vals h.n ((sortBy pairLt (ks.zip xs)).map (·.2)) := vals_sub v1 fun y hy => by
                    have z := (((sortBy_perm (lt := pairLt) (ks.zip xs)).map (·.2)).mem_iff (a := y)).mp hy
                    rw [pz] at z
                    exact z
                  have z := Out.ok o (ok.newL nl vv) (Nat.lt_succ_self _)
                  rw [newref] at z; exact z
              · exact (show False from o).elim
            · exact (show False from o).elim
      · exact (show False from o).elim
end
end MP

end
section
set_option linter.all false
set_option maxRecDepth 100000
/-! MPSnd1: the readings of the own syntax keep the hand layer's rules: expressions. -/
namespace MP
open PySem L2

theorem _root_.L2.PE.wk {X : Cx} {e : Expr} {t t' : TE} (h : PE X e t) (k : ∀ σ H Q, t' σ H Q → t σ H Q) : PE X e t' := ⟨fun pins s σ H Q I hw => h.run pins s σ H Q I (k _ _ _ hw)⟩
theorem _root_.L2.PT.wk {X : Cx} {e : Expr} {t t' : TT} (h : PT X e t) (k : ∀ σ H Q, t' σ H Q → t σ H Q) : PT X e t' := ⟨fun pins s σ H Q I hw => h.run pins s σ H Q I (k _ _ _ hw)⟩
theorem _root_.L2.PW.wk {X : Cx} {e : Expr} {t t' : TT} (h : PW X e t) (k : ∀ σ H Q, t' σ H Q → t σ H Q) : PW X e t' := ⟨fun wh pins s σ H Q I hw => h.run wh pins s σ H Q I (k _ _ _ hw)⟩
theorem _root_.L2.PA.wk {X : Cx} {e : List Expr} {t t' : TA} (h : PA X e t) (k : ∀ σ H Q, t' σ H Q → t σ H Q) : PA X e t' := ⟨fun pos pins s σ H Q I hw => h.run pos pins s σ H Q I (k _ _ _ hw)⟩
theorem _root_.L2.PO.wk {X : Cx} {e : Option Expr} {t t' : TO} (h : PO X e t) (k : ∀ σ H Q, t' σ H Q → t σ H Q) : PO X e t' := ⟨fun pins s σ H Q I hw => h.run pins s σ H Q I (k _ _ _ hw)⟩
theorem _root_.L2.PS.wk {X : Cx} {st : Stmt} {t t' : TS} (h : PS X st t) (k : ∀ D σ H, t' D σ H → t D σ H) : PS X st t' := ⟨fun pins s σ H D I hw => h.run pins s σ H D I (k _ _ _ hw)⟩
theorem _root_.L2.PSs.wk {X : Cx} {st : List Stmt} {t t' : TS} (h : PSs X st t) (k : ∀ D σ H, t' D σ H → t D σ H) : PSs X st t' := ⟨fun pins s σ H D I hw => h.run pins s σ H D I (k _ _ _ hw)⟩
theorem _root_.L2.PE.or {X : Cx} {e : Expr} {t t' : TE} (h : PE X e t) (h' : PE X e t') : PE X e (fun σ H Q => t σ H Q ∨ t' σ H Q) := ⟨fun pins s σ H Q I hw => hw.elim (h.run pins s σ H Q I) (h'.run pins s σ H Q I)⟩

theorem noEx_ok {α : Type} (a : α) (h : OH) : noEx (.ok a h) = .ok a h := rfl
theorem Out.noEx {F : Fx} {α : Type} {m : Mp} {h : OH} {x : R α} {P : (Mp) → OH → Hp → α → Prop} {Ex Ex' : Nat → Hp → Prop} (o : Out F m h (MP.noEx x) P Ex) : Out F m h x P Ex' := by
  cases x with
  | ok a h' => exact o
  | ex c h' => exact (show False from o).elim
  | no => exact o
theorem Out.toNoEx {F : Fx} {α : Type} {m : Mp} {h : OH} {x : R α} {P : (Mp) → OH → Hp → α → Prop} {Ex : Nat → Hp → Prop} (o : Out F m h x P fun _ _ => False) (c : ∀ c h', x ≠ .ex c h') : Out F m h (MP.noEx x) P Ex := by
  cases x with
  | ok a h' => exact o
  | ex k h' => exact (c _ _ rfl).elim
  | no => exact o

/-- the same, from a later heap and map -/
theorem Out.later {F : Fx} {α : Type} {m m' : Mp} {h h' : OH} {H' : Hp} {x : R α} {P : (Mp) → OH → Hp → α → Prop} {Ex : Nat → Hp → Prop} (o : Out F m h x P Ex) (n : Nx F m h m' h' H') : Out F m' h' x P Ex := by
  cases x with
  | ok a h2 => exact fun m2 H2 n2 => o m2 H2 (n.trans n2)
  | ex c h2 => exact fun m2 H2 n2 => o m2 H2 (n.trans n2)
  | no => exact o

section
variable {F : Fx} {X : Cx} {W : WX} {a b c : Expr} {fa fb fc : En → OH → R OV} {ga gb gc : En → OH → R Bool} {pos : Pos}

/-- a value as it is -/
theorem rdE_c {v : OV} {σ : St} {H : Hp} {Q : VK} (hv : ∀ n, val n v) (t : ∀ m, tr F m v = tr F Mp.zero v) (h : rdE F W (fun _ h => .ok v h) σ H Q) : Q (tr F Mp.zero v) H := by
  obtain ⟨m, h, e, ok, ve, rfl, o⟩ := h
  have q := Out.ok o (Nx.refl ok) (hv _)
  rw [t m] at q
  exact q
theorem s_int {i : Int} {j pos} : PE X (.Constant (.int i) j pos) (rdE F W fun _ h => .ok (.int i) h) := pe_int.wk fun _ _ _ q => rdE_c (v := .int i) (fun _ => trivial) (fun _ => rfl) q
theorem s_bl {i : Bool} {j pos} : PE X (.Constant (.bool i) j pos) (rdE F W fun _ h => .ok (.bl i) h) := pe_bl.wk fun _ _ _ q => rdE_c (v := .bl i) (fun _ => trivial) (fun _ => rfl) q
theorem s_non {j pos} : PE X (.Constant .none j pos) (rdE F W fun _ h => .ok .non h) := pe_non.wk fun _ _ _ q => rdE_c (v := .non) (fun _ => trivial) (fun _ => rfl) q
theorem s_str {x : Str} {j pos} : PE X (.Constant (.str x) j pos) (rdE F W fun _ h => .ok (.str x) h) := pe_str.wk fun _ _ _ q => rdE_c (v := .str x) (fun _ => trivial) (fun _ => rfl) q
theorem s_gc {x : Str} {v : OV} {u : Value} (hg : Gl X x) (hm : X.mg x = some u) (hv : ∀ n, val n v) (t : ∀ m, tr F m v = tr F Mp.zero v) (r : RelV (tr F Mp.zero v) u) (hd : (x == ("__debug__" : Str)) = false) :
    PE X (.Name x pos) (rdE F W fun _ h => .ok v h) := (pe_glob hg hm r hd).wk fun _ _ _ q => rdE_c hv t q
theorem trE_get {m : Mp} {e : En} {i : Nat} {v : OV} (h : getV e i = some v) : (trE F m e)[i]? = some (some (tr F m v)) := by
  unfold getV at h
  split at h
  · rename_i w q
    cases h
    rw [List.getElem?_map, q]; rfl
  · cases h
theorem valE_get {n : Nat} {e : En} {i : Nat} {v : OV} (ve : valE n e) (h : getV e i = some v) : val n v := by
  unfold getV at h
  split at h
  · rename_i w q
    cases h
    exact ve _ (List.mem_of_getElem? q)
  · cases h
theorem s_var {i : Nat} {x : Str} (hN : X.N[i]? = some x) (hv : Vis X.env.scope x) (hd : (x == ("__debug__" : Str)) = false) (hcd : (x == ("__classdict__" : Str)) = false) : PE X (.Name x pos) (rdE F W fun e h => R.of (getV e i) h) := by
  refine (pe_var hN hv hd hcd).wk fun σ H Q hw => ?_
  obtain ⟨m, h, e, ok, ve, rfl, o⟩ := hw
  obtain ⟨v, g, q⟩ := Out.of ok o
  exact ⟨_, trE_get g, q (valE_get ve g)⟩
theorem s_bin {op : BOp} (ho : OpR X (binaryOp (opP op)) (rOp F (binV op))) (ha : PE X a (rdE F W fa)) (hb : PE X b (rdE F W fb)) :
    PE X (.BinOp a (opP op) b pos) (rdE F W fun e h => (fa e h).bind fun x h => (fb e h).bind fun y h => noEx (binV op x y h)) := by
  refine (pe_op ho ha hb).wk fun σ H Q hw => ?_
  obtain ⟨m, h, e, ok, ve, rfl, o⟩ := hw
  refine ⟨m, h, e, ok, ve, rfl, o.bind.mono (fun m1 h1 H1 x n1 o1 vx => ?_) fun _ _ w => w⟩
  refine ⟨m1, h1, e, n1.ok, ve.mono n1.le, (n1.trE ve).symm, o1.bind.mono (fun m2 h2 H2 y n2 o2 vy => ?_) fun _ _ w => w⟩
  exact ⟨m2, h2, x, y, n2.ok, vx.mono n2.le, vy, (n2.tr vx).symm, rfl, o2.noEx⟩
theorem s_cmp {op : COp} (ho : OpR X (compareOp (cmpP op)) (rOp F (cmpV op))) (ha : PE X a (rdE F W fa)) (hb : PE X b (rdE F W fb)) (hm : behindInMarks (cmpP op) b = false) :
    PE X (.Compare a [cmpP op] [b] pos) (rdE F W fun e h => (fa e h).bind fun x h => (fb e h).bind fun y h => noEx (cmpV op x y h)) := by
  refine (pe_cmpR ho ha hb hm).wk fun σ H Q hw => ?_
  obtain ⟨m, h, e, ok, ve, rfl, o⟩ := hw
  refine ⟨m, h, e, ok, ve, rfl, o.bind.mono (fun m1 h1 H1 x n1 o1 vx => ?_) fun _ _ w => w⟩
  refine ⟨m1, h1, e, n1.ok, ve.mono n1.le, (n1.trE ve).symm, o1.bind.mono (fun m2 h2 H2 y n2 o2 vy => ?_) fun _ _ w => w⟩
  exact ⟨m2, h2, x, y, n2.ok, vx.mono n2.le, vy, (n2.tr vx).symm, rfl, o2.noEx⟩
/-- what a comparison yields is a bool -/
theorem cmp_bool {op : COp} {x y v : OV} {h h' : OH} (e : cmpV op x y h = .ok v h') : ∃ b, v = .bl b ∧ h' = h := by
  unfold cmpV at e
  cases q : cmpO op x y h with
  | none => rw [q] at e; cases e
  | some b => rw [q] at e; cases e; exact ⟨b, rfl, rfl⟩
theorem t_cmp {op : COp} (ho : OpR X (compareOp (cmpP op)) (rOp F (cmpV op))) (ha : PE X a (rdE F W fa)) (hb : PE X b (rdE F W fb)) (hm : behindInMarks (cmpP op) b = false) :
    PT X (.Compare a [cmpP op] [b] pos) (rdT F W fun e h => truR ((fa e h).bind fun x h => (fb e h).bind fun y h => noEx (cmpV op x y h))) := by
  refine (pt_cmpR ho ha hb hm).wk fun σ H Q hw => ?_
  obtain ⟨m, h, e, ok, ve, rfl, o⟩ := hw
  have q : ∀ h, truR ((fa e h).bind fun x h => (fb e h).bind fun y h => noEx (cmpV op x y h)) = (fa e h).bind fun x h => (fb e h).bind fun y h => truR (noEx (cmpV op x y h)) := fun h => by
    unfold truR
    cases fa e h with
    | ok x h1 =>
      show R.bind (R.bind (fb e h1) _) _ = R.bind (fb e h1) _
      cases fb e h1 <;> rfl
    | _ => rfl
  dsimp only at o
  rw [q] at o
  refine ⟨m, h, e, ok, ve, rfl, o.bind.mono (fun m1 h1 H1 x n1 o1 vx => ?_) fun _ _ w => w⟩
  refine ⟨m1, h1, e, n1.ok, ve.mono n1.le, (n1.trE ve).symm, o1.bind.mono (fun m2 h2 H2 y n2 o2 vy => ?_) fun _ _ w => w⟩
  refine ⟨m2, h2, x, y, n2.ok, vx.mono n2.le, vy, (n2.tr vx).symm, rfl, ?_⟩
  cases z : cmpV op x y h2 with
  | ok v h3 =>
    obtain ⟨b, rfl, rfl⟩ := cmp_bool z
    rw [z] at o2
    exact fun m3 H3 n3 _ => ⟨b, rfl, o2 m3 H3 n3⟩
  | ex c h3 => rw [z] at o2; exact (show False from o2).elim
  | no => rw [z] at o2; exact (show False from o2).elim
theorem s_chain {p1 p2 : COp} (r1 : OpR X (compareOp (cmpP p1)) (rOp F (cmpV p1))) (r2 : OpR X (compareOp (cmpP p2)) (rOp F (cmpV p2))) (ha : PE X a (rdE F W fa)) (hb : PE X b (rdE F W fb)) (hc : PE X c (rdE F W fc))
    (hm : lastMarks [cmpP p1, cmpP p2] [b, c] = false) :
    PE X (.Compare a [cmpP p1, cmpP p2] [b, c] pos) (rdE F W fun e h => (fa e h).bind fun x h => (fb e h).bind fun y h => boolR (noEx (cmpV p1 x y h)) fun k h => if k = true then (fc e h).bind fun z h => noEx (cmpV p2 y z h) else .ok (.bl false) h) := by
  refine (pe_chain r1 r2 ha hb hc hm).wk fun σ H Q hw => ?_
  obtain ⟨m, h, e, ok, ve, rfl, o⟩ := hw
  refine ⟨m, h, e, ok, ve, rfl, o.bind.mono (fun m1 h1 H1 x n1 o1 vx => ?_) fun _ _ w => w⟩
  refine ⟨m1, h1, e, n1.ok, ve.mono n1.le, (n1.trE ve).symm, o1.bind.mono (fun m2 h2 H2 y n2 o2 vy => ?_) fun _ _ w => w⟩
  refine ⟨m2, h2, x, y, n2.ok, vx.mono n2.le, vy, (n2.tr vx).symm, rfl, ?_⟩
  have n02 := n1.trans n2
  cases z : cmpV p1 x y h2 with
  | ok v h3 =>
    obtain ⟨b, rfl, rfl⟩ := cmp_bool z
    rw [z] at o2
    intro m3 H3 n3 _
    refine ⟨b, rfl, ?_⟩
    cases b with
    | false => exact o2 m3 H3 n3 trivial
    | true =>
      rw [if_pos rfl]
      have o3 : Out F m2 h3 ((fc e h3).bind fun z h => noEx (cmpV p2 y z h)) _ _ := o2
      have n03 := n02.trans n3
      refine ⟨m3, h3, e, n3.ok, ve.mono n03.le, (n03.trE ve).symm, (o3.bind.later n3).mono (fun m4 h4 H4 z n4 o4 vz => ?_) fun _ _ w => w⟩
      exact ⟨m4, h4, y, z, n4.ok, vy.mono (n3.trans n4).le, vz, ((n3.trans n4).tr vy).symm, rfl, o4.noEx⟩
  | ex c h3 => rw [z] at o2; exact (show False from o2).elim
  | no => rw [z] at o2; exact (show False from o2).elim
theorem t_chain {p1 p2 : COp} (r1 : OpR X (compareOp (cmpP p1)) (rOp F (cmpV p1))) (r2 : OpR X (compareOp (cmpP p2)) (rOp F (cmpV p2))) (ha : PE X a (rdE F W fa)) (hb : PE X b (rdE F W fb)) (hc : PE X c (rdE F W fc))
    (hm : lastMarks [cmpP p1, cmpP p2] [b, c] = false) :
    PT X (.Compare a [cmpP p1, cmpP p2] [b, c] pos) (rdT F W fun e h => truR ((fa e h).bind fun x h => (fb e h).bind fun y h => boolR (noEx (cmpV p1 x y h)) fun k h => if k = true then (fc e h).bind fun z h => noEx (cmpV p2 y z h) else .ok (.bl false) h)) := by
  refine (pt_chain r1 r2 ha hb hc hm).wk fun σ H Q hw => ?_
  obtain ⟨m, h, e, ok, ve, rfl, o⟩ := hw
  have q : ∀ h, truR ((fa e h).bind fun x h => (fb e h).bind fun y h => boolR (noEx (cmpV p1 x y h)) fun k h => if k = true then (fc e h).bind fun z h => noEx (cmpV p2 y z h) else .ok (.bl false) h) =
      (fa e h).bind fun x h => (fb e h).bind fun y h => truR (boolR (noEx (cmpV p1 x y h)) fun k h => if k = true then (fc e h).bind fun z h => noEx (cmpV p2 y z h) else .ok (.bl false) h) := fun h => by
    unfold truR
    cases fa e h with
    | ok x h1 =>
      show R.bind (R.bind (fb e h1) _) _ = R.bind (fb e h1) _
      cases fb e h1 <;> rfl
    | _ => rfl
  dsimp only at o
  rw [q] at o
  refine ⟨m, h, e, ok, ve, rfl, o.bind.mono (fun m1 h1 H1 x n1 o1 vx => ?_) fun _ _ w => w⟩
  refine ⟨m1, h1, e, n1.ok, ve.mono n1.le, (n1.trE ve).symm, o1.bind.mono (fun m2 h2 H2 y n2 o2 vy => ?_) fun _ _ w => w⟩
  refine ⟨m2, h2, x, y, n2.ok, vx.mono n2.le, vy, (n2.tr vx).symm, rfl, ?_⟩
  have n02 := n1.trans n2
  cases z : cmpV p1 x y h2 with
  | ok v h3 =>
    obtain ⟨b, rfl, rfl⟩ := cmp_bool z
    rw [z] at o2
    intro m3 H3 n3 _
    refine ⟨b, rfl, ?_⟩
    cases b with
    | false => exact ⟨false, rfl, o2 m3 H3 n3⟩
    | true =>
      rw [if_pos rfl]
      have o3 : Out F m2 h3 (truR ((fc e h3).bind fun z h => noEx (cmpV p2 y z h))) _ _ := o2
      have q2 : truR ((fc e h3).bind fun z h => noEx (cmpV p2 y z h)) = (fc e h3).bind fun z h => truR (noEx (cmpV p2 y z h)) := by
        unfold truR
        cases fc e h3 <;> rfl
      rw [q2] at o3
      have n03 := n02.trans n3
      refine ⟨m3, h3, e, n3.ok, ve.mono n03.le, (n03.trE ve).symm, (o3.bind.later n3).mono (fun m4 h4 H4 z n4 o4 vz => ?_) fun _ _ w => w⟩
      refine ⟨m4, h4, y, z, n4.ok, vy.mono (n3.trans n4).le, vz, ((n3.trans n4).tr vy).symm, rfl, ?_⟩
      cases zz : cmpV p2 y z h4 with
      | ok v h5 =>
        obtain ⟨b, rfl, rfl⟩ := cmp_bool zz
        rw [zz] at o4
        exact fun m5 H5 n5 _ => ⟨b, rfl, o4 m5 H5 n5⟩
      | ex c h5 => rw [zz] at o4; exact (show False from o4).elim
      | no => rw [zz] at o4; exact (show False from o4).elim
  | ex c h3 => rw [z] at o2; exact (show False from o2).elim
  | no => rw [z] at o2; exact (show False from o2).elim
theorem neg_int {x v : OV} {h h' : OH} (e : negV x h = .ok v h') : ∃ i, x = .int i ∧ v = .int (-i) ∧ h' = h := by
  cases x <;> first | (cases e; done) | (cases e; exact ⟨_, rfl, rfl, rfl⟩)
theorem s_neg (ha : PE X a (rdE F W fa)) : PE X (.UnaryOp .USub a pos) (rdE F W fun e h => (fa e h).bind fun x h => noEx (negV x h)) := by
  refine (pe_un un_neg ha).wk fun σ H Q hw => ?_
  obtain ⟨m, h, e, ok, ve, rfl, o⟩ := hw
  refine ⟨m, h, e, ok, ve, rfl, o.bind.mono (fun m1 h1 H1 x n1 o1 vx => ?_) fun _ _ w => w⟩
  cases x <;> first | exact (show False from o1).elim | skip
  exact ⟨_, rfl, Out.ok o1 (Nx.refl n1.ok) trivial⟩
end
end MP

end
section
set_option linter.all false
set_option maxRecDepth 100000
/-! MPSnd2: tests, lists of expressions, displays, subscripts, fields. -/
namespace MP
open PySem L2

section
variable {F : Fx} {X : Cx} {W : WX} {a b c e0 : Expr} {es rest : List Expr} {fa fb fc : En → OH → R OV} {ga gb gc : En → OH → R Bool} {xa : En → OH → R (List OV)} {pos : Pos}

/-! ### truth -/
def plainT : Expr → Bool
  | .UnaryOp .Not _ _ => false
  | .BoolOp .. => false
  | .IfExp .. => false
  | .Compare .. => false
  | _ => true
theorem plainT_is {env : Env} (h : plainT a = true) : ∀ whole, isTrue a env whole = (do let v ← whole; standAt a.pos; holding [v] (truthy v)) := by
  intro whole
  cases a with
  | UnaryOp op x p => cases op <;> first | (cases h; done) | rfl
  | BoolOp => cases h
  | IfExp => cases h
  | Compare => cases h
  | _ => rfl
theorem tru_is {m : Mp} {h : OH} {H : Hp} (ok : Ok F m h H) {v : OV} {k : Bool} (e : truO h v = some k) : TruV F.K (tr F m v) H k := by
  have ie : ∀ xs : List OV, (!xs.isEmpty) = !(trs F m xs).isEmpty := fun xs => by cases xs <;> rfl
  cases v with
  | non => cases e; rfl
  | bl b => cases e; rfl
  | int i => cases e; rfl
  | str x =>
    simp only [truO] at e
    split at e
    · rename_i l; cases e; exact ⟨lim_le l, rfl⟩
    · cases e
  | ref n =>
    simp only [truO] at e
    split at e
    · rename_i xs q; cases e; exact .inl ⟨_, SqL.of (ok.lst q).2, ie xs⟩
    · rename_i xs q; cases e; exact .inr (.inl ⟨_, SqT.of (ok.tup q).2, ie xs⟩)
    · cases e
  | scr => cases e; exact .inl ⟨_, ok.scrL.1, ie _⟩
theorem t_truth (hK : X.K = F.K) (ha : PE X a (rdE F W fa)) (hp : plainT a = true) : PT X a (rdT F W fun e h => truR (fa e h)) := by
  refine (pt_truth ha (plainT_is hp)).wk fun σ H Q hw => ?_
  obtain ⟨m, h, e, ok, ve, rfl, o⟩ := hw
  refine ⟨m, h, e, ok, ve, rfl, (Out.bind o).mono (fun m1 h1 H1 x n1 o1 vx => ?_) fun _ _ w => w⟩
  obtain ⟨k, e1, q⟩ := Out.of n1.ok o1
  exact ⟨k, hK ▸ tru_is n1.ok e1, q⟩

/-! ### not, and, or -/
theorem boolR_ok {x : R OV} {f : Bool → OH → R OV} {m : Mp} {h : OH} {P : (Mp) → OH → Hp → OV → Prop} {Ex : Nat → Hp → Prop} (o : Out F m h (boolR x f) P Ex) :
    Out F m h x (fun m1 h1 H1 v => ∃ b, v = .bl b ∧ Out F m1 h1 (f b h1) P Ex) Ex := by
  refine o.bind.mono (fun m1 h1 H1 v n1 o1 => ?_) fun _ _ w => w
  cases v with
  | bl b => exact ⟨b, rfl, o1⟩
  | _ => exact (show False from o1).elim
theorem s_not (ha : PE X a (rdE F W fa)) : PE X (.UnaryOp .Not a pos) (rdE F W fun e h => boolR (fa e h) fun b h => .ok (.bl (!b)) h) := by
  refine (pe_not ha).wk fun σ H Q hw => ?_
  obtain ⟨m, h, e, ok, ve, rfl, o⟩ := hw
  refine ⟨m, h, e, ok, ve, rfl, (boolR_ok o).mono (fun m1 h1 H1 v n1 o1 vx => ?_) fun _ _ w => w⟩
  obtain ⟨b, rfl, o1⟩ := o1
  exact ⟨b, rfl, Out.ok o1 (Nx.refl n1.ok) trivial⟩
theorem t_not (ha : PT X a (rdT F W ga)) : PT X (.UnaryOp .Not a pos) (rdT F W fun e h => (ga e h).bind fun b h => .ok (!b) h) := by
  refine (pt_not ha).wk fun σ H Q hw => ?_
  obtain ⟨m, h, e, ok, ve, rfl, o⟩ := hw
  exact ⟨m, h, e, ok, ve, rfl, o.bind.mono (fun m1 h1 H1 v n1 o1 => Out.ok o1 (Nx.refl n1.ok)) fun _ _ w => w⟩
theorem s_and (ha : PE X a (rdE F W fa)) (hb : PE X (.BoolOp .And (b :: rest) pos) (rdE F W fb)) :
    PE X (.BoolOp .And (a :: b :: rest) pos) (rdE F W fun e h => boolR (fa e h) fun k h => if k = true then fb e h else .ok (.bl false) h) := by
  refine (pe_and ha hb).wk fun σ H Q hw => ?_
  obtain ⟨m, h, e, ok, ve, rfl, o⟩ := hw
  refine ⟨m, h, e, ok, ve, rfl, (boolR_ok o).mono (fun m1 h1 H1 v n1 o1 vx => ?_) fun _ _ w => w⟩
  obtain ⟨k, rfl, o1⟩ := o1
  refine ⟨k, rfl, ?_⟩
  cases k with
  | true => exact ⟨m1, h1, e, n1.ok, ve.mono n1.le, (n1.trE ve).symm, o1⟩
  | false => exact Out.ok o1 (Nx.refl n1.ok) trivial
theorem s_or (ha : PE X a (rdE F W fa)) (hb : PE X (.BoolOp .Or (b :: rest) pos) (rdE F W fb)) :
    PE X (.BoolOp .Or (a :: b :: rest) pos) (rdE F W fun e h => boolR (fa e h) fun k h => if k = true then .ok (.bl true) h else fb e h) := by
  refine (pe_or ha hb).wk fun σ H Q hw => ?_
  obtain ⟨m, h, e, ok, ve, rfl, o⟩ := hw
  refine ⟨m, h, e, ok, ve, rfl, (boolR_ok o).mono (fun m1 h1 H1 v n1 o1 vx => ?_) fun _ _ w => w⟩
  obtain ⟨k, rfl, o1⟩ := o1
  refine ⟨k, rfl, ?_⟩
  cases k with
  | false => exact ⟨m1, h1, e, n1.ok, ve.mono n1.le, (n1.trE ve).symm, o1⟩
  | true => exact Out.ok o1 (Nx.refl n1.ok) trivial
theorem w_and (ha : PT X a (rdT F W ga)) (hb : PW X (.BoolOp .And (b :: rest) pos) (rdT F W gb)) :
    PW X (.BoolOp .And (a :: b :: rest) pos) (rdT F W fun e h => (ga e h).bind fun k h => if k = true then gb e h else .ok false h) := by
  refine (pw_and ha hb).wk fun σ H Q hw => ?_
  obtain ⟨m, h, e, ok, ve, rfl, o⟩ := hw
  refine ⟨m, h, e, ok, ve, rfl, o.bind.mono (fun m1 h1 H1 k n1 o1 => ?_) fun _ _ w => w⟩
  cases k with
  | true => exact ⟨m1, h1, e, n1.ok, ve.mono n1.le, (n1.trE ve).symm, o1⟩
  | false => exact Out.ok o1 (Nx.refl n1.ok)
theorem w_or (ha : PT X a (rdT F W ga)) (hb : PW X (.BoolOp .Or (b :: rest) pos) (rdT F W gb)) :
    PW X (.BoolOp .Or (a :: b :: rest) pos) (rdT F W fun e h => (ga e h).bind fun k h => if k = true then .ok true h else gb e h) := by
  refine (pw_or ha hb).wk fun σ H Q hw => ?_
  obtain ⟨m, h, e, ok, ve, rfl, o⟩ := hw
  refine ⟨m, h, e, ok, ve, rfl, o.bind.mono (fun m1 h1 H1 k n1 o1 => ?_) fun _ _ w => w⟩
  cases k with
  | false => exact ⟨m1, h1, e, n1.ok, ve.mono n1.le, (n1.trE ve).symm, o1⟩
  | true => exact Out.ok o1 (Nx.refl n1.ok)
theorem s_ife (hc : PT X c (rdT F W gc)) (ha : PE X a (rdE F W fa)) (hb : PE X b (rdE F W fb)) : PE X (.IfExp c a b pos) (rdE F W fun e h => (gc e h).bind fun k h => if k = true then fa e h else fb e h) := by
  refine (pe_ifExp hc ha hb).wk fun σ H Q hw => ?_
  obtain ⟨m, h, e, ok, ve, rfl, o⟩ := hw
  refine ⟨m, h, e, ok, ve, rfl, o.bind.mono (fun m1 h1 H1 k n1 o1 => ?_) fun _ _ w => w⟩
  cases k with
  | true => exact ⟨m1, h1, e, n1.ok, ve.mono n1.le, (n1.trE ve).symm, o1⟩
  | false => exact ⟨m1, h1, e, n1.ok, ve.mono n1.le, (n1.trE ve).symm, o1⟩

/-! ### lists of expressions -/
def unstar : Expr → Bool
  | .Starred .. => false
  | _ => true
theorem unstar_is {env : Env} (h : unstar a = true) : starEach (a :: rest) env = (false, eval a env) :: starEach rest env := by
  cases a with
  | Starred => cases h
  | _ => rfl
theorem a_nil : PA X [] (rdA F W fun _ h => .ok [] h) := by
  refine pa_nil.wk fun σ H Q hw => ?_
  obtain ⟨m, h, e, ok, ve, rfl, o⟩ := hw
  exact Out.ok o (Nx.refl ok) vals_nil
theorem a_cons (ha : PE X a (rdE F W fa)) (hr : PA X rest (rdA F W xa)) (hs : unstar a = true) : PA X (a :: rest) (rdA F W fun e h => (fa e h).bind fun x h => (xa e h).bind fun xs h => .ok (x :: xs) h) := by
  refine (pa_cons ha hr (unstar_is hs)).wk fun σ H Q hw => ?_
  obtain ⟨m, h, e, ok, ve, rfl, o⟩ := hw
  refine ⟨m, h, e, ok, ve, rfl, o.bind.mono (fun m1 h1 H1 x n1 o1 vx => ?_) fun _ _ w => w⟩
  refine ⟨m1, h1, e, n1.ok, ve.mono n1.le, (n1.trE ve).symm, o1.bind.mono (fun m2 h2 H2 xs n2 o2 vxs => ?_) fun _ _ w => w⟩
  have q := Out.ok o2 (Nx.refl n2.ok) (vals_cons (vx.mono n2.le) vxs)
  rw [trs, List.map_cons, n2.tr vx] at q
  exact q
theorem s_lst (ha : PA X es (rdA F W xa)) : PE X (.List es pos) (rdE F W fun e h => (xa e h).bind fun xs h => noEx (mkLst xs h)) := by
  refine (pe_lst ha).wk fun σ H Q hw => ?_
  obtain ⟨m, h, e, ok, ve, rfl, o⟩ := hw
  refine ⟨m, h, e, ok, ve, rfl, o.bind.mono (fun m1 h1 H1 xs n1 o1 vx => ?_) fun _ _ w => w⟩
  have o1 := o1.noEx (Ex' := fun _ _ => False)
  unfold mkLst at o1
  split at o1
  · rename_i l
    refine ⟨by rw [trs_len]; exact lim_le l, fun p np => ?_⟩
    have q := Out.ok o1 (n1.ok.newL np vx) (Nat.lt_succ_self _)
    rw [newref] at q
    exact q
  · exact (show False from o1).elim
theorem s_tup {k : Nat} (ha : PA X es (rdA F W xa)) : PE X (.Tuple es k pos) (rdE F W fun e h => (xa e h).bind fun xs h => noEx (mkTup xs h)) := by
  refine (pe_tup ha).wk fun σ H Q hw => ?_
  obtain ⟨m, h, e, ok, ve, rfl, o⟩ := hw
  refine ⟨m, h, e, ok, ve, rfl, o.bind.mono (fun m1 h1 H1 xs n1 o1 vx => ?_) fun _ _ w => w⟩
  have o1 := o1.noEx (Ex' := fun _ _ => False)
  unfold mkTup at o1
  split at o1
  · rename_i l
    refine ⟨by rw [trs_len]; exact lim_le l, fun p np => ?_⟩
    have q := Out.ok o1 (n1.ok.newT np vx) (Nat.lt_succ_self _)
    rw [newref] at q
    exact q
  · exact (show False from o1).elim

/-! ### subscripts, slices -/
def unsl : Expr → Bool
  | .Slice .. => false
  | _ => true
theorem unsl_is (h : unsl b = true) : PlainIx b := by
  intro o i
  cases b with
  | Slice => cases h
  | _ => rfl
theorem s_ix (hr : IxR X (rOp F ixV)) (ha : PE X a (rdE F W fa)) (hb : PE X b (rdE F W fb)) (hs : unsl b = true) :
    PE X (.Subscript a b pos) (rdE F W fun e h => (fa e h).bind fun x h => (fb e h).bind fun y h => noEx (ixV x y h)) := by
  refine (pe_ix hr ha hb (unsl_is hs)).wk fun σ H Q hw => ?_
  obtain ⟨m, h, e, ok, ve, rfl, o⟩ := hw
  refine ⟨m, h, e, ok, ve, rfl, o.bind.mono (fun m1 h1 H1 x n1 o1 vx => ?_) fun _ _ w => w⟩
  refine ⟨m1, h1, e, n1.ok, ve.mono n1.le, (n1.trE ve).symm, o1.bind.mono (fun m2 h2 H2 y n2 o2 vy => ?_) fun _ _ w => w⟩
  exact ⟨m2, h2, x, y, n2.ok, vx.mono n2.le, vy, (n2.tr vx).symm, rfl, o2.noEx⟩
theorem o_none : PO X none (rdO F W fun _ h => .ok none h) := by
  refine po_none.wk fun σ H Q hw => ?_
  obtain ⟨m, h, e, ok, ve, rfl, o⟩ := hw
  exact Out.ok o (Nx.refl ok)
theorem o_some (ha : PE X a (rdE F W fa)) : PO X (some a) (rdO F W fun e h => (fa e h).bind fun v h => match v with | .int i => .ok (some i) h | _ => .no) := by
  refine (po_some ha).wk fun σ H Q hw => ?_
  obtain ⟨m, h, e, ok, ve, rfl, o⟩ := hw
  refine ⟨m, h, e, ok, ve, rfl, o.bind.mono (fun m1 h1 H1 x n1 o1 vx => ?_) fun _ _ w => w⟩
  cases x with
  | int i => exact ⟨i, rfl, Out.ok o1 (Nx.refl n1.ok)⟩
  | _ => exact (show False from o1).elim
theorem s_sl {lo hi : Option Expr} {fl fh : En → OH → R (Option Int)} {p2 : Pos} (hr : SlR X (rSl F)) (ha : PE X a (rdE F W fa)) (hl : PO X lo (rdO F W fl)) (hh : PO X hi (rdO F W fh)) :
    PE X (.Subscript a (.Slice lo hi none p2) pos) (rdE F W fun e h => (fa e h).bind fun x h => (fl e h).bind fun i h => (fh e h).bind fun j h => noEx (slV x i j h)) := by
  refine (pe_slice hr ha hl hh).wk fun σ H Q hw => ?_
  obtain ⟨m, h, e, ok, ve, rfl, o⟩ := hw
  refine ⟨m, h, e, ok, ve, rfl, o.bind.mono (fun m1 h1 H1 x n1 o1 vx => ?_) fun _ _ w => w⟩
  refine ⟨m1, h1, e, n1.ok, ve.mono n1.le, (n1.trE ve).symm, o1.bind.mono (fun m2 h2 H2 i n2 o2 => ?_) fun _ _ w => w⟩
  have n02 := n1.trans n2
  refine ⟨m2, h2, e, n2.ok, ve.mono n02.le, (n02.trE ve).symm, o2.bind.mono (fun m3 h3 H3 j n3 o3 => ?_) fun _ _ w => w⟩
  have n13 := n2.trans n3
  exact ⟨m3, h3, x, n3.ok, vx.mono n13.le, (n13.tr vx).symm, o3.noEx⟩
theorem s_rev {k : Nat} {p1 p2 p3 : Pos} (hK : X.K = F.K) (ha : PE X a (rdE F W fa)) : PE X (.Subscript a (.Slice none none (some (.UnaryOp .USub (.Constant (.int 1) k p1) p2)) p3) pos) (rdE F W fun e h => (fa e h).bind fun x h => noEx (revV x h)) := by
  refine (pe_revL ha).wk fun σ H Q hw => ?_
  obtain ⟨m, h, e, ok, ve, rfl, o⟩ := hw
  refine ⟨m, h, e, ok, ve, rfl, o.bind.mono (fun m1 h1 H1 x n1 o1 vx => ?_) fun _ _ w => w⟩
  have o1 := o1.noEx (Ex' := fun _ _ => False)
  unfold revV at o1
  split at o1
  · rename_i xs ex
    obtain ⟨v1, p, e1, hl⟩ := n1.ok.isL ex
    rw [← hK] at hl
    refine ⟨p, _, e1, hl, fun q nq => ?_⟩
    have z := Out.ok o1 (n1.ok.newL nq (vals_sub v1 fun y hy => List.mem_reverse.mp hy)) (Nat.lt_succ_self _)
    rw [newref, trs, List.map_reverse] at z
    exact z
  · exact (show False from o1).elim

/-! ### fields -/
def unsup : Expr → Bool
  | .Call _ [] [] _ => false
  | _ => true
theorem unsup_is {env : Env} {f : Str} (h : unsup a = true) : attributeBase a f env (eval a env) = eval a env := by
  cases a with
  | Call f as kw p =>
    cases as with
    | nil =>
      cases kw with
      | nil => cases h
      | cons => cases f <;> rfl
    | cons => cases f <;> rfl
  | _ => rfl
theorem s_fld {T : Tb} {f : Str} (hK : X.K = F.K) (hc : ∀ c, okC T c = true → Cls F.K (F.ca c) ∧ NoAttr F.K (F.ca c) f) (ha : PE X a (rdE F W fa)) (hs : unsup a = true) :
    PE X (.Attribute a f pos) (rdE F W fun e h => (fa e h).bind fun x h => noEx (fldV T x f h)) := by
  refine (pe_fld ha (unsup_is hs)).wk fun σ H Q hw => ?_
  obtain ⟨m, h, e, ok, ve, rfl, o⟩ := hw
  refine ⟨m, h, e, ok, ve, rfl, o.bind.mono (fun m1 h1 H1 x n1 o1 vx => ?_) fun _ _ w => w⟩
  have o1 := o1.noEx (Ex' := fun _ _ => False)
  unfold fldV at o1
  split at o1
  · rename_i n
    split at o1
    · rename_i c fs q
      split at o1
      · rename_i hoc
        obtain ⟨v, ev, qv⟩ := Out.of n1.ok o1
        obtain ⟨v1, dx, hi⟩ := n1.ok.ins q
        obtain ⟨c1, c2⟩ := hc c hoc
        rw [← hK] at c1 c2
        exact ⟨_, _, dx, _, _, rfl, hi, c1, c2, by rw [lookF_trf, ev]; rfl, qv (val_lookK v1 ev)⟩
      · exact (show False from o1).elim
    · exact (show False from o1).elim
  · exact (show False from o1).elim
end
end MP

end
section
set_option linter.all false
set_option maxRecDepth 100000
/-! MPOps4: built-in methods. -/
namespace MP
open PySem L2

section
variable {F : Fx} {X : Cx} {W : WX} {m : Mp} {h : OH} {H : Hp}
theorem mtImp {id : String} {r r' : V → List V → Hp → VK → Prop} (c : MtR X id r) (h : ∀ x vs H Q, r' x vs H Q → r x vs H Q) : MtR X id r' := fun pins s σ H x xs v us Q I rx rv q => c pins s σ H x xs v us Q I rx rv (h _ _ _ _ q)
theorem rcv_lst {x : OV} (e : rcvK x h = some .lst) : ∃ n xs, x = .ref n ∧ h.get n = some (.lst xs) := by
  cases x with
  | ref n =>
    simp only [rcvK] at e
    split at e <;> first | (cases e; done) | exact ⟨n, _, rfl, by assumption⟩
  | _ => cases e
theorem rcv_dct {x : OV} (e : rcvK x h = some .dct) : ∃ n xs, x = .ref n ∧ h.get n = some (.dct false xs) := by
  cases x with
  | ref n =>
    simp only [rcvK] at e
    split at e <;> first | (cases e; done) | exact ⟨n, _, rfl, by assumption⟩
  | _ => cases e
theorem rcv_str {x : OV} (e : rcvK x h = some .str) : ∃ z, x = .str z := by
  cases x with
  | ref n =>
    simp only [rcvK] at e
    split at e <;> cases e
  | str z => exact ⟨z, rfl⟩
  | _ => cases e
theorem bmK_open {k : RK} {mm : BM} {x : OV} {vs : List OV} {P : (Mp) → OH → Hp → OV → Prop} {Ex : Nat → Hp → Prop} (o : Out F m h (bmK k mm x vs h) P Ex) : rcvK x h = some k ∧ Out F m h (bmV mm x vs h) P Ex := by
  unfold bmK at o
  split at o
  · rename_i e; exact ⟨e, o⟩
  · exact (show False from o).elim
theorem firstAt_is {x : OV} : ∀ {xs : List OV} {i j : Nat}, firstAt x xs i = some j → ∃ k, j = i + k ∧ (∃ y, xs[k]? = some y ∧ eqF y x = true) ∧ ∀ m y, m < k → xs[m]? = some y → eqF y x = false
  | [], i, j, e => by cases e
  | y :: r, i, j, e => by
    unfold firstAt at e
    split at e
    · rename_i q
      cases e
      exact ⟨0, rfl, ⟨y, rfl, q⟩, fun m y l => absurd l (Nat.not_lt_zero _)⟩
    · rename_i q
      obtain ⟨k, e1, ⟨z, e2, e3⟩, e4⟩ := firstAt_is e
      refine ⟨k + 1, by omega, ⟨z, e2, e3⟩, fun m z l hz => ?_⟩
      cases m with
      | zero => simp at hz; subst hz; simpa using q
      | succ m => exact e4 m z (by omega) (by simpa using hz)
theorem map_erase {α β : Type} (f : α → β) : ∀ (xs : List α) (k : Nat), (xs.eraseIdx k).map f = (xs.map f).eraseIdx k
  | [], _ => rfl
  | _ :: _, 0 => rfl
  | x :: r, k + 1 => by
    show f x :: (r.eraseIdx k).map f = f x :: (r.map f).eraseIdx k
    rw [map_erase f r k]
theorem val_drop1 {n : Nat} {xs : List OV} (v : vals n xs) : vals n xs.dropLast := vals_sub v fun y hy => List.dropLast_subset _ hy

theorem mt_l (hK : X.K = F.K) {mm : BM} {id : String} (hm : (mm = .append ∧ id = "list.append") ∨ (mm = .extend ∧ id = "list.extend") ∨ (mm = .insert ∧ id = "list.insert") ∨ (mm = .pop0 ∧ id = "list.pop") ∨ (mm = .pop ∧ id = "list.pop") ∨
    (mm = .reverse ∧ id = "list.reverse") ∨ (mm = .clear ∧ id = "list.clear") ∨ (mm = .index ∧ id = "list.index")) : MtR X id (rMt F (bmK .lst mm)) := by
  rcases hm with ⟨rfl, rfl⟩ | ⟨rfl, rfl⟩ | ⟨rfl, rfl⟩ | ⟨rfl, rfl⟩ | ⟨rfl, rfl⟩ | ⟨rfl, rfl⟩ | ⟨rfl, rfl⟩ | ⟨rfl, rfl⟩
  · refine mtImp mt_append fun x vs H Q q => ?_
    obtain ⟨m, h, b, a, ok, vb, va, rfl, rfl, o⟩ := q
    obtain ⟨e, o⟩ := bmK_open o
    obtain ⟨n, xs, rfl, g⟩ := rcv_lst e
    match a, o with
    | [v], o =>
      simp only [bmV, g] at o
      split at o
      · rename_i l
        refine ⟨_, _, _, rfl, rfl, (ok.lst g).2, by rw [trs_len]; exact lim_lt l, ?_⟩
        have z := Out.ok o (ok.putL g rfl (vals_app (ok.lst g).1 (vals_cons (va _ List.mem_cons_self) vals_nil))) trivial
        rw [trs_app] at z
        exact z
      · exact (show False from o).elim
    | [], o => exact (show False from o).elim
    | _ :: _ :: _, o => exact (show False from o).elim
  · refine mtImp mt_extend fun x vs H Q q => ?_
    obtain ⟨m, h, b, a, ok, vb, va, rfl, rfl, o⟩ := q
    obtain ⟨e, o⟩ := bmK_open o
    obtain ⟨n, xs, rfl, g⟩ := rcv_lst e
    match a, o with
    | [.ref k], o =>
      simp only [bmV, g] at o
      split at o
      · rename_i xs' ys e1 e2
        cases e1
        split at o
        · rename_i l
          refine ⟨_, _, _, _, rfl, rfl, (ok.lst g).2, (ok.lst e2).2, by rw [trs_len, trs_len]; exact lim_le l, ?_⟩
          have z := Out.ok o (ok.putL g rfl (vals_app (ok.lst g).1 (ok.lst e2).1)) trivial
          rw [trs_app] at z
          exact z
        · exact (show False from o).elim
      · exact (show False from o).elim
    | [.non], o => exact (show False from o).elim
    | [.bl _], o => exact (show False from o).elim
    | [.int _], o => exact (show False from o).elim
    | [.str _], o => exact (show False from o).elim
    | [.scr], o => exact (show False from o).elim
    | [], o => exact (show False from o).elim
    | _ :: _ :: _, o => exact (show False from o).elim
  · refine mtImp L2.mt_insert fun x vs H Q q => ?_
    obtain ⟨m, h, b, a, ok, vb, va, rfl, rfl, o⟩ := q
    obtain ⟨e, o⟩ := bmK_open o
    obtain ⟨n, xs, rfl, g⟩ := rcv_lst e
    match a, o with
    | [.int i, v], o =>
      simp only [bmV, g] at o
      split at o
      · rename_i l
        refine ⟨_, _, i, _, rfl, rfl, (ok.lst g).2, by rw [trs_len]; exact lim_lt l.2.2, l.1, by omega, ?_⟩
        have vx := (ok.lst g).1
        have z := Out.ok o (ok.putL g rfl (vals_app (vals_app (vals_sub vx fun y hy => List.mem_of_mem_take hy) (vals_cons (va v (by simp)) vals_nil)) (vals_sub vx fun y hy => List.mem_of_mem_drop hy))) trivial
        simp only [trs, List.map_append, List.map_take, List.map_drop] at z ⊢
        exact z
      · exact (show False from o).elim
    | [.non, _], o => exact (show False from o).elim
    | [.bl _, _], o => exact (show False from o).elim
    | [.ref _, _], o => exact (show False from o).elim
    | [.str _, _], o => exact (show False from o).elim
    | [.scr, _], o => exact (show False from o).elim
    | [], o => exact (show False from o).elim
    | [a], o => cases a <;> exact (show False from o).elim
    | a :: _ :: _ :: _, o => cases a <;> exact (show False from o).elim
  · refine mtImp mt_pop fun x vs H Q q => ?_
    obtain ⟨m, h, b, a, ok, vb, va, rfl, rfl, o⟩ := q
    obtain ⟨e, o⟩ := bmK_open o
    obtain ⟨n, xs, rfl, g⟩ := rcv_lst e
    match a, o with
    | [], o =>
      simp only [bmV, g] at o
      split at o
      · rename_i y e1
        refine ⟨_, _, tr F m y, rfl, rfl, (ok.lst g).2, by rw [trs_len, List.getElem?_map, e1]; rfl, ?_⟩
        have z := Out.ok o (ok.putL g rfl (val_drop1 (ok.lst g).1)) ((ok.lst g).1 _ (List.mem_of_getElem? e1))
        rw [trs, List.map_dropLast] at z
        exact z
      · exact (show False from o).elim
    | _ :: _, o => exact (show False from o).elim
  · refine mtImp mt_popAt fun x vs H Q q => ?_
    obtain ⟨m, h, b, a, ok, vb, va, rfl, rfl, o⟩ := q
    obtain ⟨e, o⟩ := bmK_open o
    obtain ⟨n, xs, rfl, g⟩ := rcv_lst e
    match a, o with
    | [.int i], o =>
      simp only [bmV, g] at o
      split at o
      · rename_i l
        split at o
        · rename_i k e1
          split at o
          · rename_i y e2
            refine ⟨_, _, i, k, tr F m y, rfl, rfl, (ok.lst g).2, by omega, by omega, by rw [trs_len]; exact (L2.ixN_seq e1).1, by rw [List.getElem?_map, e2]; rfl, ?_⟩
            have z := Out.ok o (ok.putL g rfl (vals_sub (ok.lst g).1 fun y hy => List.mem_of_mem_eraseIdx hy)) ((ok.lst g).1 _ (List.mem_of_getElem? e2))
            rw [trs, map_erase] at z
            exact z
          · exact (show False from o).elim
        · exact (show False from o).elim
      · exact (show False from o).elim
    | [.str _], o => simp only [bmV, g] at o; exact (show False from o).elim
    | [.non], o => simp only [bmV, g] at o; exact (show False from o).elim
    | [.bl _], o => simp only [bmV, g] at o; exact (show False from o).elim
    | [.ref _], o => simp only [bmV, g] at o; exact (show False from o).elim
    | [.scr], o => simp only [bmV, g] at o; exact (show False from o).elim
    | [], o => exact (show False from o).elim
    | _ :: _ :: _, o => exact (show False from o).elim
  · refine mtImp mt_reverse fun x vs H Q q => ?_
    obtain ⟨m, h, b, a, ok, vb, va, rfl, rfl, o⟩ := q
    obtain ⟨e, o⟩ := bmK_open o
    obtain ⟨n, xs, rfl, g⟩ := rcv_lst e
    match a, o with
    | [], o =>
      simp only [bmV, g] at o
      refine ⟨_, _, rfl, rfl, (ok.lst g).2, ?_⟩
      have z := Out.ok o (ok.putL g rfl (vals_sub (ok.lst g).1 fun y hy => List.mem_reverse.mp hy)) trivial
      rw [trs, List.map_reverse] at z
      exact z
    | _ :: _, o => exact (show False from o).elim
  · refine mtImp mt_clear fun x vs H Q q => ?_
    obtain ⟨m, h, b, a, ok, vb, va, rfl, rfl, o⟩ := q
    obtain ⟨e, o⟩ := bmK_open o
    obtain ⟨n, xs, rfl, g⟩ := rcv_lst e
    match a, o with
    | [], o =>
      simp only [bmV, g] at o
      exact ⟨_, _, rfl, rfl, (ok.lst g).2, Out.ok o (ok.putL g rfl vals_nil) trivial⟩
    | _ :: _, o => exact (show False from o).elim
  · refine mtImp mt_index fun x vs H Q q => ?_
    obtain ⟨m, h, b, a, ok, vb, va, rfl, rfl, o⟩ := q
    obtain ⟨e, o⟩ := bmK_open o
    obtain ⟨n, xs, rfl, g⟩ := rcv_lst e
    match a, o with
    | [v], o =>
      simp only [bmV, g] at o
      split at o
      · rename_i fl
        rw [Bool.and_eq_true] at fl
        split at o
        · rename_i i e1
          obtain ⟨k, ek, ⟨y, e2, e3⟩, e4⟩ := firstAt_is e1
          have ek : i = k := by omega
          subst ek
          refine ⟨_, _, _, i, tr F m y, rfl, rfl, SqL.of (ok.lst g).2, by rw [flat_tr]; exact fl.1, by rw [flats_tr]; exact fl.2, by rw [List.getElem?_map, e2]; rfl, ?_, fun j z l hz => ?_, Out.ok o (Nx.refl ok) trivial⟩
          · rw [eq_tr (List.all_eq_true.mp fl.2 _ (List.mem_of_getElem? e2)) fl.1]; exact e3
          · rw [List.getElem?_map] at hz
            obtain ⟨w, e5, rfl⟩ := Option.map_eq_some_iff.mp hz
            rw [eq_tr (List.all_eq_true.mp fl.2 _ (List.mem_of_getElem? e5)) fl.1]; exact e4 j w l e5
        · exact (show False from o).elim
      · exact (show False from o).elim
    | [], o => exact (show False from o).elim
    | _ :: _ :: _, o => exact (show False from o).elim

theorem getD_tr (o : Option OV) (d : OV) : ((o.map (tr F m)).getD (tr F m d)) = tr F m (o.getD d) := by cases o <;> rfl
theorem mt_d (hu : X.A.units + 64 < cLine) {mm : BM} {id : String} (hm : (mm = .get2 ∧ id = "dict.get") ∨ (mm = .pop ∧ id = "dict.pop") ∨ (mm = .pop2 ∧ id = "dict.pop")) : MtR X id (rMt F (bmK .dct mm)) := by
  have hu1 : X.A.units + 1 < cLine := by omega
  rcases hm with ⟨rfl, rfl⟩ | ⟨rfl, rfl⟩ | ⟨rfl, rfl⟩
  · intro pins s σ H x xs v us Q I rx rv q
    obtain ⟨m, h, b, a, ok, vb, va, rfl, rfl, o⟩ := q
    obtain ⟨e, o⟩ := bmK_open o
    obtain ⟨n, kvs, rfl, g⟩ := rcv_dct e
    obtain rfl : v = Value.ref (m n) := rx
    match a, o with
    | [.str k, d], o =>
      simp only [bmV, g] at o
      obtain ⟨u1, u2, rfl, r1, r2⟩ := vals2 rv
      refine d_get2 hu1 I (.inl ⟨_, Sum.inr k, .inl (ok.dct g).2, rfl, rfl⟩) r1 r2 fun w' s' I' rw' => ?_
      rw [valV_trk, getD_tr] at rw'
      refine ⟨_, H, I', rw', Out.ok o (Nx.refl ok) ?_⟩
      cases q : lookK kvs k with
      | none => exact va _ (by simp)
      | some y => exact val_lookK (ok.dct g).1 q
    | [.non, _], o => exact (show False from o).elim
    | [.bl _, _], o => exact (show False from o).elim
    | [.ref _, _], o => exact (show False from o).elim
    | [.int _, _], o => exact (show False from o).elim
    | [.scr, _], o => exact (show False from o).elim
    | [], o => exact (show False from o).elim
    | [a], o => cases a <;> exact (show False from o).elim
    | a :: _ :: _ :: _, o => cases a <;> exact (show False from o).elim
  · intro pins s σ H x xs v us Q I rx rv q
    obtain ⟨m, h, b, a, ok, vb, va, rfl, rfl, o⟩ := q
    obtain ⟨e, o⟩ := bmK_open o
    obtain ⟨n, kvs, rfl, g⟩ := rcv_dct e
    obtain rfl : v = Value.ref (m n) := rx
    match a, o with
    | [.str k], o =>
      simp only [bmV, g] at o
      obtain ⟨u1, rfl, r1⟩ := vals1 rv
      split at o
      · rename_i y e1
        refine d_pop (k := Sum.inr k) (v := tr F m y) I (ok.dct g).2 r1 (by rw [valV_trk, e1]; rfl) (.inl rfl) fun w' s' I' rw' => ?_
        rw [dropK_trk] at I'
        exact ⟨_, _, I', rw', Out.ok o (ok.putD g rfl (val_dropK (ok.dct g).1)) (val_lookK (ok.dct g).1 e1)⟩
      · exact (show False from o).elim
    | [.int _], o => simp only [bmV, g] at o; exact (show False from o).elim
    | [.non], o => simp only [bmV, g] at o; exact (show False from o).elim
    | [.bl _], o => simp only [bmV, g] at o; exact (show False from o).elim
    | [.ref _], o => simp only [bmV, g] at o; exact (show False from o).elim
    | [.scr], o => simp only [bmV, g] at o; exact (show False from o).elim
    | [], o => exact (show False from o).elim
    | _ :: _ :: _, o => exact (show False from o).elim
  · intro pins s σ H x xs v us Q I rx rv q
    obtain ⟨m, h, b, a, ok, vb, va, rfl, rfl, o⟩ := q
    obtain ⟨e, o⟩ := bmK_open o
    obtain ⟨n, kvs, rfl, g⟩ := rcv_dct e
    obtain rfl : v = Value.ref (m n) := rx
    match a, o with
    | [.str k, d], o =>
      simp only [bmV, g] at o
      obtain ⟨u1, u2, rfl, r1, r2⟩ := vals2 rv
      split at o
      · rename_i y e1
        refine d_pop (k := Sum.inr k) (v := tr F m y) I (ok.dct g).2 r1 (by rw [valV_trk, e1]; rfl) (.inr ⟨_, rfl⟩) fun w' s' I' rw' => ?_
        rw [dropK_trk] at I'
        exact ⟨_, _, I', rw', Out.ok o (ok.putD g rfl (val_dropK (ok.dct g).1)) (val_lookK (ok.dct g).1 e1)⟩
      · rename_i e1
        exact d_popD (k := Sum.inr k) I (ok.dct g).2 r1 (by rw [valV_trk, e1]; rfl) fun s' I' => ⟨_, H, I', r2, Out.ok o (Nx.refl ok) (va _ (by simp))⟩
    | [.non, _], o => exact (show False from o).elim
    | [.bl _, _], o => exact (show False from o).elim
    | [.ref _, _], o => exact (show False from o).elim
    | [.int _, _], o => exact (show False from o).elim
    | [.scr, _], o => exact (show False from o).elim
    | [], o => exact (show False from o).elim
    | [a], o => cases a <;> exact (show False from o).elim
    | a :: _ :: _ :: _, o => cases a <;> exact (show False from o).elim
theorem mt_s (hK : X.K = F.K) {mm : BM} {id : String} (hm : (mm = .endswith ∧ id = "str.endswith") ∨ (mm = .join ∧ id = "str.join")) : MtR X id (rMt F (bmK .str mm)) := by
  rcases hm with ⟨rfl, rfl⟩ | ⟨rfl, rfl⟩
  · refine mtImp mt_endswith fun x vs H Q q => ?_
    obtain ⟨m, h, b, a, ok, vb, va, rfl, rfl, o⟩ := q
    obtain ⟨e, o⟩ := bmK_open o
    obtain ⟨z, rfl⟩ := rcv_str e
    match a, o with
    | [.str k], o => exact ⟨z, k, rfl, rfl, Out.ok o (Nx.refl ok) trivial⟩
    | [.int _], o => exact (show False from o).elim
    | [.non], o => exact (show False from o).elim
    | [.bl _], o => exact (show False from o).elim
    | [.ref _], o => exact (show False from o).elim
    | [.scr], o => exact (show False from o).elim
    | [], o => exact (show False from o).elim
    | a :: _ :: _, o => cases a <;> exact (show False from o).elim
  · refine mtImp mt_join fun x vs H Q q => ?_
    obtain ⟨m, h, b, a, ok, vb, va, rfl, rfl, o⟩ := q
    obtain ⟨e, o⟩ := bmK_open o
    obtain ⟨z, rfl⟩ := rcv_str e
    match a, o with
    | [v], o =>
      simp only [bmV] at o
      split at o
      · rename_i ys e1
        obtain ⟨xs, e2, e3⟩ := lst_bind e1
        obtain ⟨v1, p, ep, hl⟩ := ok.isL e2
        rw [trs_strs e3, ← hK] at hl
        split at o
        · rename_i l
          exact ⟨z, p, ys, rfl, by rw [trs, List.map_cons, ep]; rfl, .inl hl, Nat.le_trans l (by decide), Out.ok o (Nx.refl ok) trivial⟩
        · exact (show False from o).elim
      · exact (show False from o).elim
    | [], o => exact (show False from o).elim
    | _ :: _ :: _, o => exact (show False from o).elim

/-! ### o.m(..) -/
def rkT : RK → String
  | .lst => "list"
  | .dct => "dict"
  | .str => "str"
theorem rcv_ty {K : PySem.W.Frag} (ok : Ok F m h H) {x : OV} {k : RK} (e : rcvK x h = some k) : tyV K (rkT k) (tr F m x) H := by
  cases k with
  | lst => obtain ⟨n, xs, rfl, g⟩ := rcv_lst e; exact .inl ⟨rfl, _, SqL.of (ok.lst g).2⟩
  | dct => obtain ⟨n, xs, rfl, g⟩ := rcv_dct e; exact .inr (.inr (.inl ⟨rfl, .inl ⟨_, (ok.dct g).2⟩⟩))
  | str => obtain ⟨z, rfl⟩ := rcv_str e; rfl
def bmName : BM → Str
  | .append => "append" | .extend => "extend" | .insert => "insert" | .pop0 => "pop" | .pop => "pop" | .reverse => "reverse" | .clear => "clear" | .index => "index"
  | .get2 => "get" | .pop2 => "pop" | .endswith => "endswith" | .join => "join"
/-- what a method of a kind needs -/
structure MtFacts (X : Cx) (F : Fx) (mm : BM) (k : RK) : Prop where
  ex : ∃ (T id : String), T = rkT k ∧ PlainAttrs T ∧ Slot T (bmName mm) id ∧ typeOf (.builtin id) = pure (.type "method_descriptor") ∧ MtR X id (rMt F (bmK k mm))
theorem mtFacts (hK : X.K = F.K) (hu : X.A.units + 64 < cLine) {mm : BM} {k : RK} (h : okKind mm k = true) : MtFacts X F mm k := by
  cases mm <;> cases k <;> first
    | (exact absurd h (by decide))
    | exact ⟨_, _, rfl, PySem.F.plainAttrs_list, PySem.F.slot_list_append, PySem.F.type_list_append, mt_l hK (by simp)⟩
    | exact ⟨_, _, rfl, PySem.F.plainAttrs_list, PySem.F.slot_list_extend, PySem.F.type_list_extend, mt_l hK (by simp)⟩
    | exact ⟨_, _, rfl, PySem.F.plainAttrs_list, PySem.F.slot_list_insert, PySem.F.type_list_insert, mt_l hK (by simp)⟩
    | exact ⟨_, _, rfl, PySem.F.plainAttrs_list, PySem.F.slot_list_pop, PySem.F.type_list_pop, mt_l hK (by simp)⟩
    | exact ⟨_, _, rfl, PySem.F.plainAttrs_list, PySem.F.slot_list_reverse, PySem.F.type_list_reverse, mt_l hK (by simp)⟩
    | exact ⟨_, _, rfl, PySem.F.plainAttrs_list, PySem.F.slot_list_clear, PySem.F.type_list_clear, mt_l hK (by simp)⟩
    | exact ⟨_, _, rfl, PySem.F.plainAttrs_list, PySem.F.slot_list_index, PySem.F.type_list_index, mt_l hK (by simp)⟩
    | exact ⟨_, _, rfl, PySem.F.plainAttrs_dict, PySem.F.slot_dict_get, PySem.F.type_dict_get, mt_d hu (by simp)⟩
    | exact ⟨_, _, rfl, PySem.F.plainAttrs_dict, PySem.F.slot_dict_pop, PySem.F.type_dict_pop, mt_d hu (by simp)⟩
    | exact ⟨_, _, rfl, PySem.F.plainAttrs_str, PySem.F.slot_str_endswith, PySem.F.type_str_endswith, mt_s hK (by simp)⟩
    | exact ⟨_, _, rfl, PySem.F.plainAttrs_str, PySem.F.slot_str_join, PySem.F.type_str_join, mt_s hK (by simp)⟩

section
variable {o0 e1 : Expr} {es : List Expr} {fa : En → OH → R OV} {xa : En → OH → R (List OV)} {apos cpos : Pos}
theorem unstars_any {env : Env} : ∀ {es : List Expr}, es.all unstar = true → (backTo cpos (starEach es env)).any (·.1) = false
  | [], _ => rfl
  | e :: r, h => by
    simp only [List.all_cons, Bool.and_eq_true] at h
    rw [unstar_is h.1]
    show (false || (backTo cpos (starEach r env)).any (·.1)) = false
    rw [unstars_any h.2]; rfl
theorem unstars_all {env : Env} : ∀ {es : List Expr}, es.all unstar = true → (backTo cpos (starEach es env)).all (fun x => !x.1) = true
  | [], _ => rfl
  | e :: r, h => by
    simp only [List.all_cons, Bool.and_eq_true] at h
    rw [unstar_is h.1]
    show (true && (backTo cpos (starEach r env)).all (fun x => !x.1)) = true
    rw [unstars_all h.2]; rfl
def dBmR (mm : BM) (fa : En → OH → R OV) (xa : En → OH → R (List OV)) : En → OH → R OV := fun e h => (fa e h).bind fun x h => match rcvK x h with
    | some k => if okKind mm k = true then (xa e h).bind fun xs h => noEx (bmK k mm x xs h) else .no
    | none => .no
theorem bm_at {mm : BM} {k : RK} (M : MtFacts X F mm k) (ho : PE X o0 (rdE F W fa)) (ha : PA X es (rdA F W xa)) (hs : es.all unstar = true) (hb : unsup o0 = true) (hl : (apos.endLine == cpos.line) = true) (hn : es.length < 20) (hx : es = [] → xa = fun _ h => .ok [] h) :
    PE X (.Call (.Attribute o0 (bmName mm) apos) es [] cpos) (fun σ H Q => ∃ m h e, Ok F m h H ∧ valE h.n e ∧ σ = trE F m e ∧
      Out F m h (fa e h) (fun m1 h1 H1 x => val h1.n x → rcvK x h1 = some k ∧ Out F m1 h1 ((xa e h1).bind fun xs h => noEx (bmK k mm x xs h)) (fun m' h' H' v => val h'.n v → Q (tr F m' v) H') fun c H' => W (Cv F c) none σ H') fun c H' => W (Cv F c) none σ H') := by
  obtain ⟨T, id, eT, pa, sl, ty, mt⟩ := M.ex
  cases es with
  | nil =>
    refine (pe_bm0 pa sl ty mt ho (unsup_is hb) hl).wk fun σ H Q hw => ?_
    obtain ⟨m, h, e, ok, ve, rfl, o⟩ := hw
    refine ⟨m, h, e, ok, ve, rfl, o.mono (fun m1 h1 H1 x n1 o1 vx => ?_) fun _ _ w => w⟩
    obtain ⟨r1, o1⟩ := o1 vx
    refine ⟨by rw [eT]; exact rcv_ty n1.ok r1, ?_⟩
    rw [hx rfl] at o1
    exact ⟨m1, h1, x, [], n1.ok, vx, vals_nil, rfl, rfl, o1.noEx⟩
  | cons e1 r =>
    simp only [List.all_cons, Bool.and_eq_true] at hs
    refine (pe_bm pa sl ty mt ho ha (unsup_is hb) ?_ hl (unstar_is hs.1) (unstars_any hs.2)).wk fun σ H Q hw => ?_
    · rw [unstars_all (by simp [hs])]
      show (true && true && decide (_ < 30)) = true
      simp at hn ⊢
      omega
    obtain ⟨m, h, e, ok, ve, rfl, o⟩ := hw
    refine ⟨m, h, e, ok, ve, rfl, o.mono (fun m1 h1 H1 x n1 o1 vx => ?_) fun _ _ w => w⟩
    obtain ⟨r1, o1⟩ := o1 vx
    refine ⟨by rw [eT]; exact rcv_ty n1.ok r1, ?_⟩
    refine ⟨m1, h1, e, n1.ok, ve.mono n1.le, (n1.trE ve).symm, o1.bind.mono (fun m2 h2 H2 xs n2 o2 vxs => ?_) fun _ _ w => w⟩
    exact ⟨m2, h2, x, xs, n2.ok, vx.mono n2.le, vxs, (n2.tr vx).symm, rfl, o2.noEx⟩
theorem pe_some {α : Type} {C : α → Prop} {t : α → TE} {e : Expr} (h : ∀ a, C a → PE X e (t a)) : PE X e (fun σ H Q => ∃ a, C a ∧ t a σ H Q) := ⟨fun pins s σ H Q I ⟨a, c, q⟩ => (h a c).run pins s σ H Q I q⟩
theorem kind_ex (mm : BM) : ∃ k, okKind mm k = true := by
  cases mm <;> first | exact ⟨.lst, rfl⟩ | exact ⟨.dct, rfl⟩ | exact ⟨.str, rfl⟩
theorem s_bm {mm : BM} (hK : X.K = F.K) (hu : X.A.units + 64 < cLine) (ho : PE X o0 (rdE F W fa)) (ha : PA X es (rdA F W xa)) (hs : es.all unstar = true) (hb : unsup o0 = true) (hl : (apos.endLine == cpos.line) = true) (hn : es.length < 20) (hx : es = [] → xa = fun _ h => .ok [] h) :
    PE X (.Call (.Attribute o0 (bmName mm) apos) es [] cpos) (rdE F W (dBmR mm fa xa)) := by
  refine (pe_some (C := fun k => okKind mm k = true) fun k hk => bm_at (k := k) (mtFacts hK hu hk) ho ha hs hb hl hn hx).wk fun σ H Q hw => ?_
  obtain ⟨m, h, e, ok, ve, rfl, o⟩ := hw
  unfold dBmR at o
  cases q : fa e h with
  | ok x h1 =>
    cases q2 : rcvK x h1 with
    | none =>
      rw [q] at o
      simp only [R.bind, q2] at o
      exact (show False from o).elim
    | some k =>
      by_cases hk : okKind mm k = true
      · refine ⟨k, hk, m, h, e, ok, ve, rfl, ?_⟩
        have o1 := o.bind
        rw [q] at o1
        rw [q]
        intro m1 H1 n1 vx
        have o2 := o1 m1 H1 n1
        simp only [q2, if_pos hk] at o2
        exact ⟨q2, o2⟩
      · rw [q] at o
        simp only [R.bind, q2, if_neg hk] at o
        exact (show False from o).elim
  | ex c h1 =>
    obtain ⟨k, hk⟩ := kind_ex mm
    refine ⟨k, hk, m, h, e, ok, ve, rfl, ?_⟩
    rw [q] at o ⊢
    exact o
  | no => rw [q] at o; exact (show False from o).elim
end
end
end MP

end
section
set_option linter.all false
set_option maxRecDepth 100000
/-! MPSnd3: calls of built-ins, of defs, of methods; making instances; isinstance; dict displays. -/
namespace MP
open PySem L2

section
variable {F : Fx} {X : Cx} {W : WX} {a b c e0 : Expr} {es rest : List Expr} {fa fb fc : En → OH → R OV} {xa : En → OH → R (List OV)} {pos p : Pos}

theorem trs_cons {m : Mp} (x : OV) (xs : List OV) : trs F m (x :: xs) = tr F m x :: trs F m xs := rfl
/-! ### built-in functions -/
def bfName : BF → Str
  | .len => "len" | .all => "all" | .any => "any" | .list => "list" | .dict => "dict" | .max => "max" | .min => "min" | .sorted => "sorted" | .abs => "abs" | .tuple => "tuple" | .str => "str"
theorem bf_body {r : V → Prop} {rr : List V → Hp → VK → Prop} {bf : BF} (hr : rr = rFn F (bfV bf)) {σ : St} {H : Hp} {Q : VK} (hw : rdE F W (fun e h => (xa e h).bind fun xs h => noEx (bfV bf xs h)) σ H Q) : tCB rr (rdA F W xa) σ H Q := by
  subst hr
  obtain ⟨m, h, e, ok, ve, rfl, o⟩ := hw
  refine ⟨m, h, e, ok, ve, rfl, o.bind.mono (fun m1 h1 H1 xs n1 o1 vx => ?_) fun _ _ w => w⟩
  exact ⟨m1, h1, xs, n1.ok, vx, rfl, o1.noEx⟩
theorem s_bf {bf : BF} (hK : X.K = F.K) (hc : X.calm = true) (hg : Gl X (bfName bf)) (hm : X.mg (bfName bf) = none) (ha : PA X (e0 :: es) (rdA F W xa)) (hs : (e0 :: es).all unstar = true) :
    PE X (.Call (.Name (bfName bf) p) (e0 :: es) [] pos) (rdE F W fun e h => (xa e h).bind fun xs h => noEx (bfV bf xs h)) := by
  simp only [List.all_cons, Bool.and_eq_true] at hs
  have h1 : starEach (e0 :: es) X.env = (false, eval e0 X.env) :: starEach es X.env := unstar_is hs.1
  have h2 : (backTo pos (starEach es X.env)).any (·.1) = false := unstars_any hs.2
  cases bf with
  | len => exact (pe_callB (bf_len hK) hg hm rfl ha (by decide) (by decide) h1 h2).wk fun _ _ _ q => bf_body (r := fun _ => True) rfl q
  | all => exact (pe_callB (bf_all hK hc) hg hm rfl ha (by decide) (by decide) h1 h2).wk fun _ _ _ q => bf_body (r := fun _ => True) rfl q
  | any => exact (pe_callB (bf_any hK hc) hg hm rfl ha (by decide) (by decide) h1 h2).wk fun _ _ _ q => bf_body (r := fun _ => True) rfl q
  | max => exact (pe_callB (bf_max hK hc) hg hm rfl ha (by decide) (by decide) h1 h2).wk fun _ _ _ q => bf_body (r := fun _ => True) rfl q
  | min => exact (pe_callB (bf_min hc) hg hm rfl ha (by decide) (by decide) h1 h2).wk fun _ _ _ q => bf_body (r := fun _ => True) rfl q
  | sorted => exact (pe_callB (bf_sorted hK) hg hm rfl ha (by decide) (by decide) h1 h2).wk fun _ _ _ q => bf_body (r := fun _ => True) rfl q
  | abs => exact (pe_callB bf_abs hg hm rfl ha (by decide) (by decide) h1 h2).wk fun _ _ _ q => bf_body (r := fun _ => True) rfl q
  | list => exact (pe_callTy (bf_list hK hc) hg hm rfl ha (by decide) (by decide) h1 h2).wk fun _ _ _ q => bf_body (r := fun _ => True) rfl q
  | dict => exact (pe_callTy (bf_dict hK hc) hg hm rfl ha (by decide) (by decide) h1 h2).wk fun _ _ _ q => bf_body (r := fun _ => True) rfl q
  | tuple => exact (pe_callTy (bf_tuple hK) hg hm rfl ha (by decide) (by decide) h1 h2).wk fun _ _ _ q => bf_body (r := fun _ => True) rfl q
  | str =>
    refine (pe_callTy (T := "str") (r := rFn F (bfV .str)) (cr_false fun vs H Q q => ?_) hg hm rfl ha (by decide) (by decide) h1 h2).wk fun _ _ _ q => bf_body (r := fun _ => True) rfl q
    obtain ⟨m, h, a, ok, va, rfl, o⟩ := q
    cases a with
    | nil => exact o
    | cons x r => cases r <;> cases x <;> exact o

/-! ### defs -/
/-- what callN tells -/
def spN (F : Fx) (T : Tb) (k f : Nat) : Sp := fun vs H Q E => ∃ m h a, Ok F m h H ∧ vals h.n a ∧ vs = trs F m a ∧
  Out F m h (callN T k f a h) (fun m' h' H' v => val h'.n v → Q (tr F m' v) H') fun c H' => E (Cv F c) none H'
/-- a def of the tables: its address, its record -/
structure Df (F : Fx) (T : Tb) (P : Program) (w : World) (mg : Str → Option Value) (base : Heap) (L k : Nat) (f : Nat) (fa : Addr) : Prop where
  ex : ∃ fd ps, FnOk P w F.K mg base (CX P w) L fa fd ps (spN F T k f) ∧ Binds F.K fd ps []
  kp : PySem.W.keepIn F.K (.ref fa) = true
theorem s_call {T : Tb} {L k f : Nat} {fa : Addr} {x : Str} (hK : X.K = F.K) (tk : Takes X W) (D : Df F T X.prog X.w X.mg X.base L k f fa) (hr : Room L X.A) (hg : Gl X x) (hm : X.mg x = some (.ref fa)) (hd : (x == ("__debug__" : Str)) = false)
    (ha : PA X es (rdA F W xa)) (hs : es.all unstar = true) (hx : es = [] → xa = fun _ h => .ok [] h) :
    PE X (.Call (.Name x p) es [] pos) (rdE F W fun e h => (xa e h).bind fun xs h => callN T k f xs h) := by
  obtain ⟨⟨fd, ps, fok, bi⟩, kp⟩ := D
  rw [← hK] at fok bi kp
  cases es with
  | nil =>
    have pe : PE X (.Call (.Name x p) [] [] pos) (fun σ H Q => spN F T k f [] H Q (WE W σ)) := by
      refine ⟨fun pins s σ H Q I h => ?_⟩
      refine wpAny_Call_Name_kw (ld_glob I hg hm ?_ hd)
      exact PySem.W.callWith_K0 I.kIn kp (run_fnS (us := []) fok hr bi (passAt tk σ) I .nil h)
    refine pe.wk fun σ H Q hw => ?_
    obtain ⟨m, h, e, ok, ve, rfl, o⟩ := hw
    rw [hx rfl] at o
    exact ⟨m, h, [], ok, vals_nil, rfl, o⟩
  | cons e1 r =>
    simp only [List.all_cons, Bool.and_eq_true] at hs
    refine (pe_callS fok hr hg hm kp bi (fun σ => passAt tk σ) ha hd (unstar_is hs.1) (unstars_any hs.2)).wk fun σ H Q hw => ?_
    obtain ⟨m, h, e, ok, ve, rfl, o⟩ := hw
    refine ⟨m, h, e, ok, ve, rfl, o.bind.mono (fun m1 h1 H1 xs n1 o1 vx => ?_) fun _ _ w => w⟩
    exact ⟨m1, h1, xs, n1.ok, vx, rfl, o1⟩

/-! ### methods -/
theorem has_is {m : Mp} {h : OH} {H : Hp} (ok : Ok F m h H) {k : Nat} {ms : Str} {x : OV} (e : hasM h k ms x = true) : ∃ n dx fs, x = .ref n ∧ H (m n) = some (.ins (F.ca k) dx (trf F m fs)) ∧ (trf F m fs).lookup ms = none := by
  cases x with
  | ref n =>
    simp only [hasM] at e
    split at e
    · rename_i c fs q
      rw [Bool.and_eq_true] at e
      have ec : c = k := Nat.eq_of_beq_eq_true e.1
      subst ec
      obtain ⟨_, dx, hi⟩ := ok.ins q
      refine ⟨n, dx, fs, rfl, hi, ?_⟩
      rw [lookF_trf]
      cases z : lookK fs ms with
      | none => rfl
      | some v => rw [z] at e; exact absurd e.2 (by simp)
    · cases e
  | _ => cases e
theorem s_meth {T : Tb} {L k f ci : Nat} {fa0 : Addr} {ms : Str} {pl : Sem Bool} {apos : Pos} (hK : X.K = F.K) (tk : Takes X W) (D : Df F T X.prog X.w X.mg X.base L k f fa0) (hr : Room L X.A) (cl : Cls F.K (F.ca ci)) (hme : Meth F.K (F.ca ci) ms fa0)
    (ho : PE X e0 (rdE F W fa)) (ha : PA X es (rdA F W xa)) (hs : es.all unstar = true) (hx : es = [] → xa = fun _ h => .ok [] h)
    (ht : eval (.Call (.Attribute e0 ms apos) es [] pos) X.env = (do
      let ov ← eval e0 X.env
      standAt apos.atName
      let (f, first) ← holding [ov] (getMethod ov ms pl)
      callWith pos f first (backTo pos (starEach es X.env)) (backToKw pos (keywordEach [] X.env)))) :
    PE X (.Call (.Attribute e0 ms apos) es [] pos) (rdE F W fun e h => (fa e h).bind fun x h => if hasM h ci ms x = true then (xa e h).bind fun xs h => callN T k f (x :: xs) h else .no) := by
  obtain ⟨⟨fd, ps, fok, bi⟩, kp⟩ := D
  rw [← hK] at fok bi kp cl hme
  have pe : PE X (.Call (.Attribute e0 ms apos) es [] pos) (fun σ H Q => rdE F W fa σ H fun x H1 => ∃ a dx fs, x = .ref a ∧ H1 a = some (.ins (F.ca ci) dx fs) ∧ fs.lookup ms = none ∧
      rdA F W xa σ H1 fun vs H2 => spN F T k f (x :: vs) H2 Q (WE W σ)) := by
    refine ⟨fun pins s σ H Q I h => ?_⟩
    refine PySem.W.methodCall_KW (pl := pl) (thn (ho.run pins s σ H _ I h) fun u s1 ⟨x, H1, I1, rx, a, dx, fs, ex, ea, l, q⟩ => ?_) ht
    subst ex
    obtain rfl : u = Value.ref a := rx
    refine getmeth_ok I1 ea cl hme l ?_
    cases es with
    | nil =>
      obtain ⟨m, h, e, ok, ve, rfl, o⟩ := q
      rw [hx rfl] at o
      exact PySem.W.callWith_K0 (first := [.ref a]) I1.kIn hme.kp (run_fnS (us := [.ref a]) (vs := [.ref a]) fok hr bi (passAt tk _) I1 (.cons rfl .nil) (Out.ok o (Nx.refl ok) vals_nil))
    | cons e1 r =>
      simp only [List.all_cons, Bool.and_eq_true] at hs
      refine PySem.W.callWith_K (first := [.ref a]) (h₀ := X.base) I.ok.mod.kin hme.kp (thn (ha.run pos pins s1 σ H1 _ I1 q) fun us s2 ⟨vs, H2, I2, r, q2⟩ => ⟨I2.kIn, ?_⟩) (unstar_is hs.1) (unstars_any hs.2)
      exact run_fnS (us := .ref a :: us) (vs := .ref a :: vs) fok hr bi (passAt tk σ) I2 (.cons rfl r) q2
  refine pe.wk fun σ H Q hw => ?_
  obtain ⟨m, h, e, ok, ve, rfl, o⟩ := hw
  refine ⟨m, h, e, ok, ve, rfl, o.bind.mono (fun m1 h1 H1 x n1 o1 vx => ?_) fun _ _ w => w⟩
  split at o1
  · rename_i hh
    obtain ⟨n, dx, fs, rfl, hi, hl⟩ := has_is n1.ok hh
    refine ⟨_, dx, _, rfl, hi, hl, m1, h1, e, n1.ok, ve.mono n1.le, (n1.trE ve).symm, o1.bind.mono (fun m2 h2 H2 xs n2 o2 vxs => ?_) fun _ _ w => w⟩
    exact ⟨m2, h2, .ref n :: xs, n2.ok, vals_cons (vx.mono n2.le) vxs, by rw [trs_cons, n2.tr vx], o2⟩
  · exact (show False from o1).elim

theorem pickM_is {h : OH} {m : Str} {x : OV} {f : Nat} : ∀ {ms : List (Nat × Nat)}, pickM h m x ms = some f → ∃ c, (c, f) ∈ ms ∧ hasM h c m x = true
  | [], e => by cases e
  | (c, g) :: r, e => by
    unfold pickM at e
    cases q : hasM h c m x with
    | true => rw [q] at e; cases e; exact ⟨c, List.mem_cons_self, q⟩
    | false =>
      rw [q] at e
      obtain ⟨d, a, b⟩ := pickM_is e
      exact ⟨d, List.mem_cons_of_mem _ a, b⟩
/-- one of several classes -/
theorem s_meths {T : Tb} {k : Nat} {x : Expr} {ms : List (Nat × Nat)} {m : Str} (hne : ms ≠ [])
    (h : ∀ p ∈ ms, PE X x (rdE F W fun e h => (fa e h).bind fun x h => if hasM h p.1 m x = true then (xa e h).bind fun xs h => callN T k p.2 (x :: xs) h else .no)) :
    PE X x (rdE F W fun e h => (fa e h).bind fun x h => match pickM h m x ms with | some f => (xa e h).bind fun xs h => callN T k f (x :: xs) h | none => .no) := by
  refine (pe_some (C := fun p => p ∈ ms) h).wk fun σ H Q hw => ?_
  obtain ⟨m0, h0, e, ok, ve, rfl, o⟩ := hw
  dsimp only at o
  cases q : fa e h0 with
  | ok v h1 =>
    cases q2 : pickM h1 m v ms with
    | none => rw [q] at o; simp only [R.bind, q2] at o; exact (show False from o).elim
    | some f =>
      obtain ⟨c, hc, hh⟩ := pickM_is q2
      refine ⟨(c, f), hc, m0, h0, e, ok, ve, rfl, ?_⟩
      dsimp only
      rw [q] at o ⊢
      simp only [R.bind, q2, if_pos hh] at o ⊢
      exact o
  | ex c h1 =>
    obtain ⟨p, hp⟩ := List.exists_mem_of_ne_nil ms hne
    refine ⟨p, hp, m0, h0, e, ok, ve, rfl, ?_⟩
    dsimp only
    rw [q] at o ⊢
    exact o
  | no => rw [q] at o; exact (show False from o).elim
/-! ### making -/
theorem s_make {T : Tb} {L k ci f : Nat} {fa0 : Addr} {x : Str} (hK : X.K = F.K) (tk : Takes X W) (D : Df F T X.prog X.w X.mg X.base L k f fa0) (hr : Room (L + 1) X.A) (M : Mk F.K (F.ca ci) fa0) (hi : (T.clss[ci]?).bind (·.init) = some f)
    (hg : Gl X x) (hm : X.mg x = some (.ref (F.ca ci))) (hd : (x == ("__debug__" : Str)) = false)
    (ha : PA X es (rdA F W xa)) (hs : es.all unstar = true) (hx : es = [] → xa = fun _ h => .ok [] h) :
    PE X (.Call (.Name x p) es [] pos) (rdE F W fun e h => (xa e h).bind fun xs h => noEx (mkIns T (callN T k) ci xs h)) := by
  obtain ⟨⟨fd, ps, fok, bi⟩, kp⟩ := D
  rw [← hK] at fok bi kp M
  have ps : Passes (CX X.prog X.w) X (fun _ _ _ => False) := passes_call tk fun _ _ _ _ z => z.elim
  -- what the new instance's init is called with
  have key : ∀ {m : Mp} {h : OH} {H : Hp} {xs : List OV} {Q : VK} {Ex : Nat → Hp → Prop}, Ok F m h H → vals h.n xs → Out F m h (noEx (mkIns T (callN T k) ci xs h)) (fun m' h' H' v => val h'.n v → Q (tr F m' v) H') Ex →
      ∀ y dx, H y = none → H dx = none → dx ≠ y → spN F T k f (.ref y :: trs F m xs) (upd (upd H dx (.own y)) y (.ins (F.ca ci) dx [])) (fun v H2 => v = .non ∧ Q (.ref y) H2) fun _ _ _ => False := by
    intro m h H xs Q Ex ok vx o y dx ny nd hne
    have o := o.noEx (Ex' := fun _ _ => False)
    unfold mkIns at o
    rw [hi] at o
    have sm : Same H (upd (upd H dx (.own y)) y (.ins (F.ca ci) dx [])) := fun b u e => by
      rw [upd_ne (ne_of_none e ny), upd_ne (ne_of_none e nd)]; exact e
    have nx : Nx F m h (extM m h.n y) (h.new (.ins ci [])) (upd (upd H dx (.own y)) y (.ins (F.ca ci) dx [])) :=
      ok.grow (o := .ins ci []) sm ny (fun q hq => nomatch hq) ⟨dx, by rw [extM_self]; exact upd_same⟩
    refine ⟨_, _, .ref h.n :: xs, nx.ok, vals_cons (Nat.lt_succ_self _) (vx.mono nx.le), by rw [trs_cons, newref]; exact congrArg _ (nx.trs vx).symm, ?_⟩
    have o2 : Out F m h ((callN T k f (.ref h.n :: xs) (h.new (.ins ci []))).bind fun v h' => match v with | .non => .ok (.ref h.n) h' | _ => .no) (fun m' h' H' v => val h'.n v → Q (tr F m' v) H') fun _ _ => False := o
    refine (o2.bind.later nx).mono (fun m1 h1 H1 v n1 o3 vv => ?_) fun _ _ w => w
    cases v with
    | non =>
      refine ⟨rfl, ?_⟩
      have z := Out.ok o3 (Nx.refl n1.ok) (Nat.lt_of_lt_of_le (Nat.lt_succ_self _) n1.le)
      have e2 : tr F m1 (.ref h.n) = .ref y := by rw [n1.tr (v := .ref h.n) (Nat.lt_succ_self _), newref]
      rw [e2] at z
      exact z
    | _ => exact (show False from o3).elim
  cases es with
  | nil =>
    refine (pe_make0 (dvs := []) (ds := []) M fok hr hg hm bi .nil ps hd).wk fun σ H Q hw => ?_
    obtain ⟨m, h, e, ok, ve, rfl, o⟩ := hw
    rw [hx rfl] at o
    exact fun y dx a1 a2 a3 => key ok vals_nil o y dx a1 a2 a3
  | cons e1 r =>
    simp only [List.all_cons, Bool.and_eq_true] at hs
    refine (pe_make (dvs := []) (ds := []) M fok hr hg hm bi .nil ps ha hd (unstar_is hs.1) (unstars_any hs.2)).wk fun σ H Q hw => ?_
    obtain ⟨m, h, e, ok, ve, rfl, o⟩ := hw
    refine ⟨m, h, e, ok, ve, rfl, o.bind.mono (fun m1 h1 H1 xs n1 o1 vx => ?_) fun _ _ w => w⟩
    intro y dx a1 a2 a3
    rw [List.append_nil]
    exact key n1.ok vx o1 y dx a1 a2 a3

/-! ### isinstance -/
def ciV (F : Fx) : CI → Value
  | .str => .type "str" | .lst => .type "list" | .tup => .type "tuple" | .int => .type "int" | .bool => .type "bool" | .own d => .ref (F.ca d)
def ciA (F : Fx) : CI → V
  | .str => .ty "str" | .lst => .ty "list" | .tup => .ty "tuple" | .int => .ty "int" | .bool => .ty "bool" | .own d => .ref (F.ca d)
theorem ci_is {c : CI} : ClsV (ciA F c) (ciV F c) := by cases c <;> constructor
structure KitOk (F : Fx) (T : Tb) (c : CI) : Prop where
  non : PySem.W.kitOne F.K (.type "NoneType") (ciV F c) = some false
  bl : PySem.W.kitOne F.K (.type "bool") (ciV F c) = some (c == .bool || c == .int)
  int : PySem.W.kitOne F.K (.type "int") (ciV F c) = some (c == .int)
  str : PySem.W.kitOne F.K (.type "str") (ciV F c) = some (c == .str)
  lst : PySem.W.kitOne F.K (.type "list") (ciV F c) = some (c == .lst)
  tup : PySem.W.kitOne F.K (.type "tuple") (ciV F c) = some (c == .tup)
  dct : PySem.W.kitOne F.K (.type "dict") (ciV F c) = some false
  own : ∀ k, okC T k = true → PySem.W.kitOne F.K (.ref (F.ca k)) (ciV F c) = some (isOwn T k c)
structure InsOk (F : Fx) (k : Nat) : Prop where
  cl : Cls F.K (F.ca k)
  ha : PySem.W.findIn F.K (.ref (F.ca k)) "__class__" = some (some (.builtin "object.__class__"))
  hn : PySem.W.specialIn F.K (.builtin "object.__class__") "__get__" = some (some (.builtin "getset_descriptor.__get__"))
  ht : PySem.W.takesIn F.K (.builtin "object.__class__") = some true
  hm : PySem.W.mroIn F.K (F.ca k) (.type "object") = some true
theorem isi_is {T : Tb} {m : Mp} {h : OH} {H : Hp} {v : OV} {c : CI} {b : Bool} (ok : Ok F m h H) (K : KitOk F T c) (hi : ∀ k, okC T k = true → InsOk F k) (e : isiT T h v c = some b) :
    ∃ t, TyX F.K H (tr F m v) t ∧ PySem.W.kitOne F.K t (ciV F c) = some b := by
  cases v with
  | non => cases e; exact ⟨_, .base .non, K.non⟩
  | bl x => cases e; exact ⟨_, .base (.bl x), K.bl⟩
  | int x => cases e; exact ⟨_, .base (.int x), K.int⟩
  | str x => cases e; exact ⟨_, .base (.str x), K.str⟩
  | ref n =>
    simp only [isiT] at e
    split at e
    · rename_i q; cases e; exact ⟨_, .base (.lst (ok.lst q).2), K.lst⟩
    · rename_i q; cases e; exact ⟨_, .base (.tup (ok.tup q).2), K.tup⟩
    · rename_i q; cases e; exact ⟨_, .base (.dK (ok.dct q).2), K.dct⟩
    · rename_i k fs q
      split at e
      · rename_i hk
        cases e
        obtain ⟨_, dx, hx⟩ := ok.ins q
        have I := hi k hk
        exact ⟨_, .base (.ins hx I.cl I.ha I.hn I.ht I.hm), K.own k hk⟩
      · cases e
    · cases e
  | scr => cases e
theorem s_isi {T : Tb} {ci : CI} (hK : X.K = F.K) (K : KitOk F T ci) (hi : ∀ k, okC T k = true → InsOk F k) (ha : PE X a (rdE F W fa)) (hc : PE X c (tC (ciA F ci))) (hs : unstar a = true) (hs2 : unstar c = true) (hg : Gl X "isinstance") (hm : X.mg "isinstance" = none) :
    PE X (.Call (.Name "isinstance" p) [a, c] [] pos) (rdE F W fun e h => (fa e h).bind fun x h => noEx (isiV T h x ci)) := by
  have h2 : [c].all unstar = true := by simp [hs2]
  refine (pe_callB call_isi hg hm rfl (pa_cons ha (pa_cons hc pa_nil (unstar_is hs2)) (unstar_is hs)) (by decide) (by decide) (unstar_is hs) (unstars_any h2)).wk fun σ H Q hw => ?_
  obtain ⟨m, h, e, ok, ve, rfl, o⟩ := hw
  refine ⟨m, h, e, ok, ve, rfl, o.bind.mono (fun m1 h1 H1 x n1 o1 vx => ?_) fun _ _ w => w⟩
  have o1 := o1.noEx (Ex' := fun _ _ => False)
  unfold isiV at o1
  obtain ⟨v, e1, q⟩ := Out.of n1.ok o1
  obtain ⟨b, e2, rfl⟩ := Option.map_eq_some_iff.mp e1
  obtain ⟨t, ty, kk⟩ := isi_is n1.ok K hi e2
  rw [← hK] at ty kk
  exact ⟨_, _, t, _, b, rfl, ci_is, ty, kk, q trivial⟩
end
end MP

end
section
set_option linter.all false
set_option maxRecDepth 100000
/-! MPSnd4: what is walked; comprehensions. -/
namespace MP
open PySem L2

theorem _root_.L2.PI.wk {X : Cx} {tg e : Expr} {t t' : TI} (h : PI X tg e t) (k : ∀ σ H Q, t' σ H Q → t σ H Q) : PI X tg e t' := ⟨fun pins s σ H Q I hw => h.run pins s σ H Q I (k _ _ _ hw)⟩
theorem _root_.L2.PI.or {X : Cx} {tg e : Expr} {t t' : TI} (h : PI X tg e t) (h' : PI X tg e t') : PI X tg e (fun σ H Q => t σ H Q ∨ t' σ H Q) := ⟨fun pins s σ H Q I hw => hw.elim (h.run pins s σ H Q I) (h'.run pins s σ H Q I)⟩

/-- an iterator's reading is as the own walk tells -/
structure ItS (F : Fx) (s : Src) (m0 : Mp) (h0 : OH) (J : It) : Prop where
  go : ∀ m h H, Nx F m0 h0 m h H → ∀ i x h', itemV s i h = .ok x h' → J.go i H ∧ ∀ v H', J.yld i H v H' → ∃ m', Nx F m h m' h' H' ∧ v = tr F m' x ∧ val h'.n x
  stop : ∀ m h H, Nx F m0 h0 m h H → ∀ i, endV s i h = true → J.stop i H
def rdI (F : Fx) (W : WX) (f : En → OH → R (Src × Nat)) : TI := fun σ H R => ∃ m h e, Ok F m h H ∧ valE h.n e ∧ σ = trE F m e ∧
  Out F m h (f e h) (fun m' h' H' s => ∀ J, ItS F s.1 m' h' J → R J H') fun c H' => W (Cv F c) none σ H'
section
variable {F : Fx} {s : Src} {m0 m1 m2 : Mp} {h0 h1 h2 : OH} {H1 : Hp} {J : It}
theorem ItS.mono (a : ItS F s m0 h0 J) (n : Nx F m0 h0 m1 h1 H1) : ItS F s m1 h1 J := ⟨fun m h H k => a.go m h H (n.trans k), fun m h H k => a.stop m h H (n.trans k)⟩
theorem of_of {α : Type} {o : Option α} {h h' : OH} {a : α} (e : R.of o h = .ok a h') : o = some a ∧ h' = h := by
  cases o with
  | none => cases e
  | some b => cases e; exact ⟨rfl, rfl⟩
theorem Ok.nx {m : Mp} {h : OH} {H : Hp} (ok : Ok F m h H) : Nx F m h m h H := Nx.refl ok
theorem len_trs {m : Mp} (xs : List OV) : (trs F m xs).length = xs.length := List.length_map _
theorem get_trs {m : Mp} {xs : List OV} {i : Nat} {x : OV} (e : xs[i]? = some x) : (trs F m xs)[i]? = some (tr F m x) := by rw [List.getElem?_map, e]; rfl
theorem its_lst {n : Nat} (K : PySem.W.Frag) (hK : K = F.K) (l : n < h0.n) : ItS F (.lst n) m0 h0 (Itl K (m0 n)) := by
  refine ⟨fun m h H nx i x h' e => ?_, fun m h H nx i e => ?_⟩
  · simp only [itemV] at e
    split at e
    · rename_i xs q
      obtain ⟨e1, rfl⟩ := of_of e
      obtain ⟨v1, hl⟩ := nx.ok.lst q
      rw [nx.eq n l] at hl
      refine ⟨⟨_, _, SqL.of hl, get_trs e1⟩, fun v H' y => ?_⟩
      obtain ⟨rfl, y⟩ := y
      refine ⟨m, nx.ok.nx, ?_, v1 _ (List.mem_of_getElem? e1)⟩
      have z := y _ (SqL.of hl)
      rw [get_trs e1] at z
      exact (Option.some.inj z).symm
    · cases e
  · simp only [endV] at e
    split at e
    · rename_i xs q
      obtain ⟨v1, hl⟩ := nx.ok.lst q
      rw [nx.eq n l] at hl
      refine ⟨_, SqL.of hl, ?_⟩
      rw [len_trs]
      exact Nat.le_of_eq (by simpa using e)
    · cases e
theorem its_tup {n : Nat} (K : PySem.W.Frag) (hK : K = F.K) (l : n < h0.n) : ItS F (.tup n) m0 h0 (Itt K (m0 n)) := by
  refine ⟨fun m h H nx i x h' e => ?_, fun m h H nx i e => ?_⟩
  · simp only [itemV] at e
    split at e
    · rename_i xs q
      obtain ⟨e1, rfl⟩ := of_of e
      obtain ⟨v1, hl⟩ := nx.ok.tup q
      rw [nx.eq n l] at hl
      refine ⟨⟨_, _, SqT.of hl, get_trs e1⟩, fun v H' y => ?_⟩
      obtain ⟨rfl, y⟩ := y
      refine ⟨m, nx.ok.nx, ?_, v1 _ (List.mem_of_getElem? e1)⟩
      have z := y _ (SqT.of hl)
      rw [get_trs e1] at z
      exact (Option.some.inj z).symm
    · cases e
  · simp only [endV] at e
    split at e
    · rename_i xs q
      obtain ⟨v1, hl⟩ := nx.ok.tup q
      rw [nx.eq n l] at hl
      refine ⟨_, SqT.of hl, ?_⟩
      rw [len_trs]
      exact Nat.le_of_eq (by simpa using e)
    · cases e
theorem its_scr (K : PySem.W.Frag) (hK : K = F.K) : ItS F .scr m0 h0 (Itl K F.sa) := by
  refine ⟨fun m h H nx i x h' e => ?_, fun m h H nx i e => ?_⟩
  · obtain ⟨e1, rfl⟩ := of_of e
    obtain ⟨hl, v1⟩ := nx.ok.scrL
    rw [← hK] at hl
    refine ⟨⟨_, _, hl, get_trs e1⟩, fun v H' y => ?_⟩
    obtain ⟨rfl, y⟩ := y
    refine ⟨m, nx.ok.nx, ?_, v1 _ (List.mem_of_getElem? e1)⟩
    have z := y _ hl
    rw [get_trs e1] at z
    exact (Option.some.inj z).symm
  · obtain ⟨hl, v1⟩ := nx.ok.scrL
    rw [← hK] at hl
    refine ⟨_, hl, ?_⟩
    rw [len_trs]
    exact Nat.le_of_eq (by simpa [endV] using e)
theorem its_rng {lo : Int} {n : Nat} : ItS F (.rng lo n) m0 h0 (Itr lo n) := by
  refine ⟨fun m h H nx i x h' e => ?_, fun m h H nx i e => ?_⟩
  · simp only [itemV] at e
    split at e
    · rename_i l
      cases e
      exact ⟨l, fun v H' y => ⟨m, y.1 ▸ nx.ok.nx, y.2, trivial⟩⟩
    · cases e
  · exact Nat.le_of_eq (by simpa [endV] using e)
theorem its_chr {z : Str} : ItS F (.chr z) m0 h0 (Its z) := by
  refine ⟨fun m h H nx i x h' e => ?_, fun m h H nx i e => ?_⟩
  · obtain ⟨e1, rfl⟩ := of_of e
    obtain ⟨c, e2, rfl⟩ := Option.map_eq_some_iff.mp e1
    have e3 : z.cps[i]? = some c := by rw [← Array.getElem?_toList]; exact e2
    refine ⟨(Array.getElem?_eq_some_iff.mp e3).1, fun v H' y => ?_⟩
    obtain ⟨rfl, c', e4, rfl⟩ := y
    rw [e3] at e4; cases e4
    exact ⟨m, nx.ok.nx, rfl, trivial⟩
  · exact Nat.le_of_eq (by simpa [endV] using e)
theorem its_keys {a : Nat} {own : Bool} {kvs : List (Str × OV)} (g : h0.get a = some (.dct true kvs)) (v0 : ∀ p ∈ kvs, val h0.n p.2) (l : a < h0.n) : ItS F (.keys a own) m0 h0 (Itk (m0 a) (m0.lk a) (trk F m0 kvs)) := by
  have lk : ∀ m h H, Nx F m0 h0 m h H → h.get a = some (.dct true kvs) ∧ H (m0 a) = some (.frz (m0.lk a) (.dK (trk F m0 kvs))) := fun m h H nx => by
    obtain ⟨g1, l1⟩ := nx.fr a kvs g
    have r := (nx.ok.at_ g1).2
    have r : H (m a) = some (.frz (m.lk a) (.dK (trk F m kvs))) := r
    rw [nx.eq a l, l1, trk_eq v0 nx.eq] at r
    exact ⟨g1, r⟩
  refine ⟨fun m h H nx i x h' e => ?_, fun m h H nx i e => ?_⟩
  · obtain ⟨g1, r⟩ := lk m h H nx
    simp only [itemV, g1] at e
    obtain ⟨e1, rfl⟩ := of_of e
    obtain ⟨p, e2, rfl⟩ := Option.map_eq_some_iff.mp e1
    refine ⟨⟨r, by rw [List.length_map]; exact (List.getElem?_eq_some_iff.mp e2).1⟩, fun v H' y => ?_⟩
    obtain ⟨rfl, k, w, e3, rfl⟩ := y
    rw [List.getElem?_map, e2] at e3
    cases e3
    exact ⟨m, nx.ok.nx, rfl, trivial⟩
  · obtain ⟨g1, r⟩ := lk m h H nx
    simp only [endV, g1] at e
    exact ⟨r, by rw [List.length_map]; exact Nat.le_of_eq (by simpa using e)⟩
theorem its_enum {n : Nat} (K : PySem.W.Frag) (hK : K = F.K) (l : n < h0.n) : ItS F (.enum n) m0 h0 (Ite K (m0 n)) := by
  refine ⟨fun m h H nx i x h' e => ?_, fun m h H nx i e => ?_⟩
  · simp only [itemV] at e
    split at e
    · rename_i xs q
      split at e
      · rename_i y e1
        cases e
        obtain ⟨v1, hl⟩ := nx.ok.lst q
        rw [nx.eq n l] at hl
        refine ⟨⟨_, _, SqL.of hl, get_trs e1⟩, fun v H' yy => ?_⟩
        obtain ⟨t, w, rfl, nt, rfl, yy⟩ := yy
        have z := yy _ (SqL.of hl)
        rw [get_trs e1] at z
        have z := Option.some.inj z
        subst z
        have nn := nx.ok.newT (xs := [.int i, y]) nt (vals_cons trivial (vals_cons (v1 _ (List.mem_of_getElem? e1)) vals_nil))
        exact ⟨_, nn, newref.symm, Nat.lt_succ_self _⟩
      · cases e
    · cases e
  · simp only [endV] at e
    split at e
    · rename_i xs q
      obtain ⟨v1, hl⟩ := nx.ok.lst q
      rw [nx.eq n l] at hl
      refine ⟨_, SqL.of hl, ?_⟩
      rw [len_trs]
      exact Nat.le_of_eq (by simpa using e)
    · cases e
theorem its_zip {n k : Nat} (K : PySem.W.Frag) (hK : K = F.K) (l : n < h0.n) (l2 : k < h0.n) : ItS F (.zip n k) m0 h0 (Itz K (m0 n) (m0 k)) := by
  refine ⟨fun m h H nx i x h' e => ?_, fun m h H nx i e => ?_⟩
  · simp only [itemV] at e
    split at e
    · rename_i xs ys q q2
      split at e
      · rename_i y w e1 e2
        cases e
        obtain ⟨v1, hl⟩ := nx.ok.lst q
        obtain ⟨v2, hl2⟩ := nx.ok.lst q2
        rw [nx.eq n l] at hl
        rw [nx.eq k l2] at hl2
        refine ⟨⟨_, _, _, _, SqL.of hl, SqL.of hl2, get_trs e1, get_trs e2⟩, fun v H' yy => ?_⟩
        obtain ⟨t, a, b, rfl, nt, rfl, y1, y2⟩ := yy
        have z := y1 _ (SqL.of hl)
        rw [get_trs e1] at z
        have z := Option.some.inj z
        subst z
        have z := y2 _ (SqL.of hl2)
        rw [get_trs e2] at z
        have z := Option.some.inj z
        subst z
        have nn := nx.ok.newT (xs := [y, w]) nt (vals_cons (v1 _ (List.mem_of_getElem? e1)) (vals_cons (v2 _ (List.mem_of_getElem? e2)) vals_nil))
        exact ⟨_, nn, newref.symm, Nat.lt_succ_self _⟩
      · cases e
    · cases e
  · simp only [endV] at e
    split at e
    · rename_i xs ys q q2
      obtain ⟨v1, hl⟩ := nx.ok.lst q
      obtain ⟨v2, hl2⟩ := nx.ok.lst q2
      rw [nx.eq n l] at hl
      rw [nx.eq k l2] at hl2
      refine ⟨_, _, SqL.of hl, SqL.of hl2, ?_⟩
      rw [len_trs, len_trs]
      simp only [Bool.or_eq_true, Bool.and_eq_true, beq_iff_eq, decide_eq_true_eq] at e
      omega
    · cases e
end
end MP

end
section
set_option linter.all false
set_option maxRecDepth 100000
/-! MPSnd5: iterables, targets, comprehensions. -/
namespace MP
open PySem L2

section
variable {F : Fx} {X : Cx} {W : WX} {tg a b : Expr} {fa fb : En → OH → R OV} {pos p tpos : Pos}

/-! ### iterables -/
theorem src_case {v : OV} {h h' : OH} {s : Src × Nat} (e : srcV v h = .ok s h') : h' = h ∧ ((∃ z, v = .str z ∧ s.1 = .chr z) ∨ (v = .scr ∧ s.1 = .scr) ∨ (∃ n xs, v = .ref n ∧ h.get n = some (.lst xs) ∧ s.1 = .lst n) ∨ ∃ n xs, v = .ref n ∧ h.get n = some (.tup xs) ∧ s.1 = .tup n) := by
  cases v with
  | scr => cases e; exact ⟨rfl, .inr (.inl ⟨rfl, rfl⟩)⟩
  | str z => cases e; exact ⟨rfl, .inl ⟨z, rfl, rfl⟩⟩
  | ref n =>
    simp only [srcV] at e
    split at e
    · rename_i xs q; cases e; exact ⟨rfl, .inr (.inr (.inl ⟨n, xs, rfl, q, rfl⟩))⟩
    · rename_i xs q; cases e; exact ⟨rfl, .inr (.inr (.inr ⟨n, xs, rfl, q, rfl⟩))⟩
    · cases e
  | _ => cases e
/-- what a computation comes to, where one knows it -/
theorem Out.of_ok {α : Type} {m : Mp} {h h' : OH} {x : R α} {a : α} {P : Mp → OH → Hp → α → Prop} {Ex : Nat → Hp → Prop} (o : Out F m h x P Ex) (e : x = .ok a h') : ∀ m' H', Nx F m h m' h' H' → P m' h' H' a := by subst e; exact o
theorem i_any (hK : X.K = F.K) (ha : PE X a (rdE F W fa)) : PI X tg a (rdI F W fun e h => (fa e h).bind fun x h => noEx (srcV x h)) := by
  refine ((pi_list (tg := tg) ha).or ((pi_tup (tg := tg) ha).or (pi_str (tg := tg) ha))).wk fun σ H Q hw => ?_
  obtain ⟨m, h, e, ok, ve, rfl, o⟩ := hw
  have o1 := o.bind
  cases q : fa e h with
  | ok v h1 =>
    rw [q] at o1
    have o2 : ∀ m1 H1, Nx F m h m1 h1 H1 → Out F m1 h1 (noEx (srcV v h1)) (fun m' h' H' s => ∀ J, ItS F s.1 m' h' J → Q J H') fun c H' => W (Cv F c) none (trE F m e) H' := o1
    cases q2 : srcV v h1 with
    | ok s h2 =>
      obtain ⟨rfl, cs⟩ := src_case q2
      have fin : ∀ m1 H1, Nx F m h m1 h2 H1 → ∀ J, ItS F s.1 m1 h2 J → Q J H1 := fun m1 H1 n1 J j => by
        have z := o2 m1 H1 n1
        rw [q2] at z
        exact z m1 H1 (Nx.refl n1.ok) J j
      rcases cs with ⟨z, rfl, es⟩ | ⟨rfl, es⟩ | ⟨n, xs, rfl, g, es⟩ | ⟨n, xs, rfl, g, es⟩
      · refine .inr (.inr ⟨m, h, e, ok, ve, rfl, ?_⟩)
        rw [q]
        exact fun m1 H1 n1 vx => ⟨z, rfl, fin m1 H1 n1 _ (es ▸ its_chr)⟩
      · refine .inl ⟨m, h, e, ok, ve, rfl, ?_⟩
        rw [q]
        exact fun m1 H1 n1 vx => ⟨_, rfl, ⟨_, hK ▸ n1.ok.scrL.1⟩, fin m1 H1 n1 _ (es ▸ its_scr _ hK)⟩
      · refine .inl ⟨m, h, e, ok, ve, rfl, ?_⟩
        rw [q]
        exact fun m1 H1 n1 vx => ⟨_, rfl, ⟨_, SqL.of (n1.ok.lst g).2⟩, fin m1 H1 n1 _ (es ▸ its_lst _ hK (n1.ok.lt g))⟩
      · refine .inr (.inl ⟨m, h, e, ok, ve, rfl, ?_⟩)
        rw [q]
        exact fun m1 H1 n1 vx => ⟨_, rfl, ⟨_, SqT.of (n1.ok.tup g).2⟩, fin m1 H1 n1 _ (es ▸ its_tup _ hK (n1.ok.lt g))⟩
    | ex c h2 =>
      refine .inl ⟨m, h, e, ok, ve, rfl, ?_⟩
      rw [q]
      intro m1 H1 n1 vx
      have z := o2 m1 H1 n1
      rw [q2] at z
      exact (show False from z).elim
    | no =>
      refine .inl ⟨m, h, e, ok, ve, rfl, ?_⟩
      rw [q]
      intro m1 H1 n1 vx
      have z := o2 m1 H1 n1
      rw [q2] at z
      exact (show False from z).elim
  | ex c h1 =>
    refine .inl ⟨m, h, e, ok, ve, rfl, ?_⟩
    rw [q] at o1 ⊢
    exact o1
  | no => rw [q] at o1; exact (show False from o1).elim
theorem rng_is {i : Int} (h : rngOk i = true) : -(2 ^ 62) ≤ i ∧ i < 2 ^ 62 := by
  unfold rngOk at h
  simp only [Bool.and_eq_true, decide_eq_true_eq] at h
  omega
theorem i_rng1 (hg : Gl X "range") (hm : X.mg "range" = none) (ha : PE X a (rdE F W fa)) (hs : unstar a = true) : PI X tg (.Call (.Name "range" p) [a] [] pos) (rdI F W fun e h => (fa e h).bind fun x h => noEx (ir1V x h)) := by
  refine (pi_range1 hg hm (pa_cons ha pa_nil (unstar_is hs)) (unstar_is hs)).wk fun σ H Q hw => ?_
  obtain ⟨m, h, e, ok, ve, rfl, o⟩ := hw
  refine ⟨m, h, e, ok, ve, rfl, o.bind.mono (fun m1 h1 H1 x n1 o1 vx => ?_) fun _ _ w => w⟩
  have o1 := o1.noEx (Ex' := fun _ _ => False)
  cases x with
  | int i =>
    simp only [ir1V] at o1
    split at o1
    · rename_i r
      exact ⟨i, rfl, (rng_is r).1, (rng_is r).2, Out.ok o1 (Nx.refl n1.ok) _ its_rng⟩
    · exact (show False from o1).elim
  | _ => exact (show False from o1).elim
theorem i_rng2 (hg : Gl X "range") (hm : X.mg "range" = none) (ha : PE X a (rdE F W fa)) (hb : PE X b (rdE F W fb)) (hs : unstar a = true) (hs2 : unstar b = true) :
    PI X tg (.Call (.Name "range" p) [a, b] [] pos) (rdI F W fun e h => (fa e h).bind fun x h => (fb e h).bind fun y h => noEx (ir2V x y h)) := by
  refine (pi_range2 hg hm (pa_cons ha (pa_cons hb pa_nil (unstar_is hs2)) (unstar_is hs)) (by rw [unstar_is hs, unstar_is hs2] <;> rfl) (by rw [unstar_is hs2] <;> rfl)).wk fun σ H Q hw => ?_
  obtain ⟨m, h, e, ok, ve, rfl, o⟩ := hw
  refine ⟨m, h, e, ok, ve, rfl, o.bind.mono (fun m1 h1 H1 x n1 o1 vx => ?_) fun _ _ w => w⟩
  refine ⟨m1, h1, e, n1.ok, ve.mono n1.le, (n1.trE ve).symm, o1.bind.mono (fun m2 h2 H2 y n2 o2 vy => ?_) fun _ _ w => w⟩
  have o2 := o2.noEx (Ex' := fun _ _ => False)
  cases x with
  | int i =>
    cases y with
    | int j =>
      simp only [ir2V] at o2
      split at o2
      · rename_i r
        exact ⟨i, j, rfl, ⟨(rng_is r.1).1, (rng_is r.1).2, (rng_is r.2).1, (rng_is r.2).2⟩, Out.ok o2 (Nx.refl n2.ok) _ its_rng⟩
      · exact (show False from o2).elim
    | _ => exact (show False from o2).elim
  | _ => exact (show False from o2).elim
theorem i_enum {elts : List Expr} {kk : Nat} (hK : X.K = F.K) (hg : Gl X "enumerate") (hm : X.mg "enumerate" = none) (ha : PE X a (rdE F W fa)) (hs : unstar a = true) : PI X (.Tuple elts kk tpos) (.Call (.Name "enumerate" p) [a] [] pos) (rdI F W fun e h => (fa e h).bind fun x h => noEx (ienV x h)) := by
  refine (pi_enum hg hm (pa_cons ha pa_nil (unstar_is hs)) (unstar_is hs)).wk fun σ H Q hw => ?_
  obtain ⟨m, h, e, ok, ve, rfl, o⟩ := hw
  refine ⟨m, h, e, ok, ve, rfl, o.bind.mono (fun m1 h1 H1 x n1 o1 vx => ?_) fun _ _ w => w⟩
  have o1 := o1.noEx (Ex' := fun _ _ => False)
  cases x with
  | ref n =>
    simp only [ienV] at o1
    split at o1
    · rename_i xs q
      exact ⟨_, _, rfl, SqL.of (n1.ok.lst q).2, Out.ok o1 (Nx.refl n1.ok) _ (its_enum _ hK (n1.ok.lt q))⟩
    · exact (show False from o1).elim
  | _ => exact (show False from o1).elim
theorem i_zip {elts : List Expr} {kk : Nat} (hK : X.K = F.K) (hg : Gl X "zip") (hm : X.mg "zip" = none) (ha : PE X a (rdE F W fa)) (hb : PE X b (rdE F W fb)) (hs : unstar a = true) (hs2 : unstar b = true) :
    PI X (.Tuple elts kk tpos) (.Call (.Name "zip" p) [a, b] [] pos) (rdI F W fun e h => (fa e h).bind fun x h => (fb e h).bind fun y h => noEx (izpV x y h)) := by
  have h2 : [b].all unstar = true := by simp [hs2]
  refine (pi_zip hg hm (pa_cons ha (pa_cons hb pa_nil (unstar_is hs2)) (unstar_is hs)) (unstar_is hs) (unstars_any h2)).wk fun σ H Q hw => ?_
  obtain ⟨m, h, e, ok, ve, rfl, o⟩ := hw
  refine ⟨m, h, e, ok, ve, rfl, o.bind.mono (fun m1 h1 H1 x n1 o1 vx => ?_) fun _ _ w => w⟩
  refine ⟨m1, h1, e, n1.ok, ve.mono n1.le, (n1.trE ve).symm, o1.bind.mono (fun m2 h2 H2 y n2 o2 vy => ?_) fun _ _ w => w⟩
  have o2 := o2.noEx (Ex' := fun _ _ => False)
  cases x with
  | ref n =>
    cases y with
    | ref k =>
      simp only [izpV] at o2
      split at o2
      · rename_i xs ys q q2
        refine ⟨m2 n, m2 k, _, _, ?_, SqL.of (n2.ok.lst q).2, SqL.of (n2.ok.lst q2).2, Out.ok o2 (Nx.refl n2.ok) _ (its_zip _ hK (n2.ok.lt q) (n2.ok.lt q2))⟩
        show [V.ref (m1 n), V.ref (m2 k)] = _
        rw [n2.eq n vx]
      · exact (show False from o2).elim
    | _ => exact (show False from o2).elim
  | _ => exact (show False from o2).elim

/-! ### targets -/
def rdG (F : Fx) (W : WX) (f : OV → En → OH → R En) : TG := fun v σ H Q => ∃ m h e x, Ok F m h H ∧ valE h.n e ∧ val h.n x ∧ σ = trE F m e ∧ v = tr F m x ∧
  Out F m h (f x e h) (fun m' h' H' e' => valE h'.n e' → Q (trE F m' e') H') fun c H' => W (Cv F c) none σ H'
def rdGs (F : Fx) (f : List OV → En → OH → R En) : TGs := fun vs σ H Q => ∃ m h e xs, Ok F m h H ∧ valE h.n e ∧ vals h.n xs ∧ σ = trE F m e ∧ vs = trs F m xs ∧
  Out F m h (f xs e h) (fun m' h' H' e' => valE h'.n e' → Q (trE F m' e') H') fun _ _ => False
theorem _root_.L2.PG.wk {X : Cx} {e : Expr} {t t' : TG} (h : PG X e t) (k : ∀ v σ H Q, t' v σ H Q → t v σ H Q) : PG X e t' := ⟨fun pins s σ H v u Q I r hw => h.run pins s σ H v u Q I r (k _ _ _ _ hw)⟩
theorem _root_.L2.PGs.wk {X : Cx} {e : List Expr} {t t' : TGs} (h : PGs X e t) (k : ∀ v σ H Q, t' v σ H Q → t v σ H Q) : PGs X e t' := ⟨fun pins s σ H v u Q I r hw => h.run pins s σ H v u Q I r (k _ _ _ _ hw)⟩
theorem trE_set {m : Mp} {e : En} {i : Nat} {v : OV} : trE F m (e.set i (some v)) = (trE F m e).set i (some (tr F m v)) := by
  show List.map _ _ = _
  rw [List.map_set]; rfl
theorem valE_set {n : Nat} {e : En} {i : Nat} {v : OV} (a : valE n e) (b : val n v) : valE n (e.set i (some v)) := fun x hx => by
  rcases List.mem_or_eq_of_mem_set hx with q | q
  · exact a x q
  · cases q; exact b
theorem g_tn {i : Nat} {x : Str} (hN : X.N.Nodup) (hi : X.N[i]? = some x) (hx : Loc X.env.scope x) (hf : X.fn x = true ∨ X.env.scope.names.lookup x = some .local) : PG X (.Name x pos) (rdG F W fun v e h => .ok (e.set i (some v)) h) := by
  refine (pg_name hN hi hx hf).wk fun v σ H Q hw => ?_
  obtain ⟨m, h, e, y, ok, ve, vy, rfl, rfl, o⟩ := hw
  have z := Out.ok o (Nx.refl ok) (valE_set ve vy)
  rw [trE_set] at z
  exact z
theorem gs_nil : PGs X [] (rdGs F fun vs e h => match vs with | [] => .ok e h | _ => .no) := by
  refine pgs_nil.wk fun v σ H Q hw => ?_
  obtain ⟨m, h, e, xs, ok, ve, vy, rfl, rfl, o⟩ := hw
  cases xs with
  | nil => exact ⟨rfl, Out.ok o (Nx.refl ok) ve⟩
  | cons => exact (show False from o).elim
theorem unstar_asg {env : Env} {es : List Expr} (h : unstar a = true) : (assignEach (a :: es) env).map (·.2) = assign a env :: (assignEach es env).map (·.2) := by
  cases a with
  | Starred => cases h
  | _ => rfl
theorem unstar_asgs {env : Env} : ∀ {es : List Expr}, es.all unstar = true → (assignEach es env).length = es.length ∧ (assignEach es env).findIdx? (·.1) = none
  | [], _ => ⟨rfl, rfl⟩
  | e :: r, h => by
    simp only [List.all_cons, Bool.and_eq_true] at h
    obtain ⟨h1, h2⟩ := unstar_asgs (env := env) h.2
    have q : assignEach (e :: r) env = (false, assign e env) :: assignEach r env := by
      cases e with
      | Starred => cases h.1
      | _ => rfl
    rw [q]
    refine ⟨by simp [h1], ?_⟩
    rw [List.findIdx?_cons]
    simp [h2]
theorem gs_cons {es : List Expr} {f : OV → En → OH → R En} {fs : List OV → En → OH → R En} (ha : PG X a (rdG F (fun _ _ _ _ => False) f)) (hr : PGs X es (rdGs F fs)) (hs : unstar a = true) :
    PGs X (a :: es) (rdGs F fun vs e h => match vs with | v :: vs => (f v e h).bind fun e h => fs vs e h | [] => .no) := by
  refine (pgs_cons ha hr (unstar_asg hs)).wk fun v σ H Q hw => ?_
  obtain ⟨m, h, e, xs, ok, ve, vy, rfl, rfl, o⟩ := hw
  cases xs with
  | nil => exact (show False from o).elim
  | cons x r =>
    refine ⟨_, _, rfl, m, h, e, x, ok, ve, vy x List.mem_cons_self, rfl, rfl, ?_⟩
    have vr : vals h.n r := fun y hy => vy y (List.mem_cons_of_mem _ hy)
    have o1 : Out F m h ((f x e h).bind fun e h => fs r e h) _ _ := o
    refine o1.bind.mono (fun m1 h1 H1 e1 n1 o2 ve1 => ?_) fun _ _ w => w
    exact ⟨m1, h1, e1, r, n1.ok, ve1, vr.mono n1.le, rfl, (n1.trs vr).symm, o2⟩
theorem g_tt {es : List Expr} {k n : Nat} {fs : List OV → En → OH → R En} (hK : X.K = F.K) (hc : X.calm = true) (h : PGs X es (rdGs F fs)) (hs : es.all unstar = true) (hn : es.length = n) :
    PG X (.Tuple es k pos) (rdG F W fun v e h => match tupOf h v with | some xs => if xs.length = n then noEx (fs xs e h) else .no | none => .no) := by
  obtain ⟨a1, a2⟩ := unstar_asgs (env := X.env) hs
  refine (pg_tup (n := n) hc h (a1.trans hn) a2).wk fun v σ H Q hw => ?_
  obtain ⟨m, h, e, y, ok, ve, vy, rfl, rfl, o⟩ := hw
  dsimp only at o
  split at o
  · rename_i xs q
    split at o
    · rename_i l
      cases y with
      | ref j =>
        simp only [tupOf] at q
        split at q
        · rename_i ys g
          cases q
          obtain ⟨v1, hl⟩ := ok.tup g
          exact ⟨_, _, rfl, SqT.of hl, by rw [len_trs]; exact l, m, h, e, _, ok, ve, v1, rfl, rfl, o.noEx⟩
        · cases q
      | _ => cases q
    · exact (show False from o).elim
  · exact (show False from o).elim
theorem g_ts {fi : En → OH → R OV} {oe ie : Expr} (hu : X.A.units + 64 < cLine) (ho : PE X oe (rdE F W fa)) (hi : PE X ie (rdE F W fi)) (hs : unsl ie = true) :
    PG X (.Subscript oe ie pos) (rdG F W fun v e h => (fa e h).bind fun x h => (fi e h).bind fun y h => (noEx (setV x y v h)).bind fun _ h => .ok e h) := by
  refine (pg_sub (pos := pos) ho hi (psetr (F := F) hu) ?_).wk fun v σ H Q hw => ?_
  · intro v
    cases ie with
    | Slice => cases hs
    | _ => rfl
  obtain ⟨m, h, e, y, ok, ve, vy, rfl, rfl, o⟩ := hw
  refine ⟨m, h, e, ok, ve, rfl, o.bind.mono (fun m1 h1 H1 x1 n1 o1 vx => ?_) fun _ _ w => w⟩
  refine ⟨m1, h1, e, n1.ok, ve.mono n1.le, (n1.trE ve).symm, o1.bind.mono (fun m2 h2 H2 x2 n2 o2 vx2 => ?_) fun _ _ w => w⟩
  have n02 := n1.trans n2
  refine ⟨m2, h2, x1, x2, y, n2.ok, vx.mono n2.le, vx2, vy.mono n02.le, (n2.tr vx).symm, rfl, (n02.tr vy).symm, (o2.bind.noEx).mono (fun m3 h3 H3 u n3 o3 => ?_) fun _ _ w => w⟩
  have n03 := n02.trans n3
  have z := Out.ok o3 (Nx.refl n3.ok) (ve.mono n03.le)
  rw [n03.trE ve] at z
  exact z
end
end MP

end
section
set_option linter.all false
set_option maxRecDepth 100000
/-! MPSnd6: comprehensions. -/
namespace MP
open PySem L2

section
variable {F : Fx}
abbrev noW : WX := fun _ _ _ _ => False
theorem bind_ok {α β : Type} {x : R α} {f : α → OH → R β} {b : β} {h : OH} (e : x.bind f = .ok b h) : ∃ a h1, x = .ok a h1 ∧ f a h1 = .ok b h := by
  cases x with
  | ok a h1 => exact ⟨a, h1, rfl, e⟩
  | ex c h1 => cases e
  | no => cases e
theorem wipeE_set {e : En} {i : Nat} {v : Option OV} : ∀ {own : List Nat}, i ∈ own → wipeE (e.set i v) own = wipeE e own
  | [], h => nomatch h
  | j :: r, h => by
    unfold wipeE
    by_cases k : i ∈ r
    · rw [wipeE_set k]
    · rcases List.mem_cons.mp h with q | q
      · subst q
        have z : ∀ (r : List Nat) (e : En), i ∉ r → wipeE (e.set i v) r = (wipeE e r).set i v := by
          intro r
          induction r with
          | nil => intro e _; rfl
          | cons a r ih =>
            intro e hn
            simp only [List.mem_cons, not_or] at hn
            unfold wipeE
            rw [ih e hn.2, List.set_comm _ _ hn.1]
        rw [z r e k, List.set_set]
      · exact absurd q k
theorem wipeE_idem {own : List Nat} : ∀ (l : List Nat) (e : En), (∀ i ∈ l, i ∈ own) → wipeE (wipeE e l) own = wipeE e own
  | [], e, _ => rfl
  | i :: r, e, h => by
    show wipeE ((wipeE e r).set i none) own = _
    rw [wipeE_set (h i List.mem_cons_self)]
    exact wipeE_idem r e fun j hj => h j (List.mem_cons_of_mem _ hj)
theorem trE_wipe {m : Mp} (e : En) : ∀ own : List Nat, trE F m (wipeE e own) = L2.wipe (trE F m e) own
  | [] => rfl
  | i :: r => by
    show List.map _ (List.set _ _ _) = List.set _ _ _
    rw [List.map_set, ← trE_wipe e r]; rfl
theorem valE_wipe {n : Nat} {e : En} (v : valE n e) : ∀ own : List Nat, valE n (wipeE e own)
  | [] => v
  | i :: r => fun x hx => by
    rcases List.mem_or_eq_of_mem_set (show some x ∈ (wipeE e r).set i none from hx) with q | q
    · exact valE_wipe v r x q
    · cases q
/-- the loop of a comprehension -/
theorem lc_loop {s : Src} {J : It} {tg : OV → En → OH → R En} {c : En → OH → R Bool} {mm : En → OH → R OV} {e : En} {own : List Nat} {D0 : Nat} {m2 : Mp} {h2 hk : OH} {H2 : Hp} {σ : St} {n : Nat} {QQ : Hp → Prop}
    (j : ItS F s m2 h2 J) (ok : Ok F m2 h2 H2) (l : D0 < h2.n) (ve : valE h2.n e) (es : trE F m2 (wipeE e own) = L2.wipe σ own) (tgo : ∀ x e h e1 h1, tg x e h = .ok e1 h1 → wipeE e1 own = wipeE e own)
    (r : lcM s tg c mm (wipeE e own) D0 n 0 h2 = .ok () hk) (q : ∀ m' H', Nx F m2 h2 m' hk H' → QQ H') :
    ∃ Wn : Nat → Nat → Hp → Prop, (∃ k, Wn 0 k H2) ∧ ∀ i k H, Wn i k H →
      (J.stop i H ∧ QQ H) ∨ (J.go i H ∧ ∃ Nx' : Hp → Prop, (∀ H', Nx' H' → ∃ k', k' < k ∧ Wn (i + 1) k' H') ∧ ∀ x H', J.yld i H x H' → rdG F noW tg x (L2.wipe σ own) H' fun σ2 H2 => L2.wipe σ2 own = L2.wipe σ own ∧ rdT F noW c σ2 H2 fun b H3 =>
        if b = true then rdE F noW mm σ2 H3 fun y H4 => ∃ acc, H4 (m2 D0) = some (.lst acc) ∧ acc.length < sizeLine ∧ Nx' (upd H4 (m2 D0) (.lst (acc ++ [y]))) else Nx' H3) := by
  refine ⟨fun i k H => ∃ m h, Nx F m2 h2 m h H ∧ lcM s tg c mm (wipeE e own) D0 k i h = .ok () hk, ⟨n, m2, h2, Nx.refl ok, r⟩, ?_⟩
  intro i k H ⟨m, h, nx, r⟩
  cases k with
  | zero =>
    simp only [lcM] at r
    split at r
    · rename_i hend
      cases r
      exact .inl ⟨j.stop m _ H nx i hend, q m H nx⟩
    · cases r
  | succ k =>
    simp only [lcM] at r
    obtain ⟨x, h3, e1, r⟩ := bind_ok r
    obtain ⟨en, h4, e2, r⟩ := bind_ok r
    obtain ⟨b, h5, e3, r⟩ := bind_ok r
    obtain ⟨go, yl⟩ := j.go m h H nx i x h3 e1
    refine .inr ⟨go, fun H' => ∃ m' h', Nx F m2 h2 m' h' H' ∧ lcM s tg c mm (wipeE e own) D0 k (i + 1) h' = .ok () hk, fun H' w => ⟨k, Nat.lt_succ_self _, w⟩, fun v H' y => ?_⟩
    obtain ⟨m3, nx3, rfl, vx⟩ := yl v H' y
    have n3 := nx.trans nx3
    have vw := valE_wipe (ve.mono n3.le) own
    have ew : L2.wipe σ own = trE F m3 (wipeE e own) := by rw [← es, n3.trE (valE_wipe ve own)]
    refine ⟨m3, h3, wipeE e own, x, n3.ok, vw, vx, ew, rfl, ?_⟩
    rw [e2]
    intro m4 H4 n4 ve4
    have n24 := n3.trans n4
    refine ⟨?_, m4, h4, en, n4.ok, ve4, rfl, ?_⟩
    · have e5 := tgo _ _ _ _ _ e2
      rw [wipeE_idem own e fun _ h => h] at e5
      rw [← trE_wipe, e5, ← es, n24.trE (valE_wipe ve own)]
    rw [e3]
    intro m5 H5 n5
    have n25 := n24.trans n5
    cases b with
    | false => exact ⟨m5, h5, n25, r⟩
    | true =>
      dsimp only
      rw [if_pos rfl]
      rw [if_pos rfl] at r
      obtain ⟨w, h6, e4, r⟩ := bind_ok r
      refine ⟨m5, h5, en, n5.ok, ve4.mono n5.le, (n5.trE ve4).symm, ?_⟩
      rw [e4]
      intro m6 H6 n6 vw6
      have n26 := n25.trans n6
      split at r
      · rename_i ys g
        split at r
        · rename_i ll
          obtain ⟨v1, hl⟩ := n26.ok.lst g
          rw [n26.eq D0 l] at hl
          refine ⟨_, hl, by rw [trs_len]; exact lim_lt ll, m6, _, ?_, r⟩
          have z := n26.ok.putL g rfl (vals_app v1 (vals_cons vw6 vals_nil))
          rw [trs_app, n26.eq D0 l] at z
          exact n26.trans z
        · cases r
      · cases r
end

section
variable {F : Fx} {X : Cx} {W : WX} {fi : En → OH → R (Src × Nat)} {tgF : OV → En → OH → R En} {cF : En → OH → R Bool} {mF : En → OH → R OV}
def dCompR (mF : En → OH → R OV) (tgF : OV → En → OH → R En) (fi : En → OH → R (Src × Nat)) (cF : En → OH → R Bool) (own : List Nat) : En → OH → R OV :=
  fun e h => noEx ((fi e h).bind fun s h => (lcM s.1 tgF cF mF (wipeE e own) h.n s.2 0 (h.new (.lst []))).bind fun _ h2 => unlR s.1 h.n h2)
def ownKeys : Src → Bool
  | .keys _ true => true
  | _ => false
theorem unlR_ok {s : Src} {D : Nat} {h h' : OH} {v : OV} (k : ownKeys s = false) (e : unlR s D h = .ok v h') : v = .ref D ∧ h' = h := by
  cases s with
  | keys a b =>
    cases b with
    | true => cases k
    | false => cases e; exact ⟨rfl, rfl⟩
  | _ => cases e; exact ⟨rfl, rfl⟩
theorem comp_out {own : List Nat} {m : Mp} {h : OH} {e : En} {P : Mp → OH → Hp → OV → Prop} {Ex : Nat → Hp → Prop} (o : Out F m h (dCompR mF tgF fi cF own e h) P Ex) :
    ∃ s h1 hk v hk', fi e h = .ok s h1 ∧ lcM s.1 tgF cF mF (wipeE e own) h1.n s.2 0 (h1.new (.lst [])) = .ok () hk ∧ unlR s.1 h1.n hk = .ok v hk' ∧ ∀ m' H', Nx F m h m' hk' H' → P m' hk' H' v := by
  unfold dCompR at o
  cases q : fi e h with
  | ok s h1 =>
    rw [q] at o
    have o : Out F m h (MP.noEx ((lcM s.1 tgF cF mF (wipeE e own) h1.n s.2 0 (h1.new (.lst []))).bind fun _ h2 => unlR s.1 h1.n h2)) P Ex := o
    cases q2 : lcM s.1 tgF cF mF (wipeE e own) h1.n s.2 0 (h1.new (.lst [])) with
    | ok u hk =>
      rw [q2] at o
      have o : Out F m h (MP.noEx (unlR s.1 h1.n hk)) P Ex := o
      cases q3 : unlR s.1 h1.n hk with
      | ok v hk' => rw [q3] at o; exact ⟨s, h1, hk, v, hk', rfl, q2, q3, o⟩
      | ex c hk' => rw [q3] at o; exact (show False from o).elim
      | no => rw [q3] at o; exact (show False from o).elim
    | ex c hk => rw [q2] at o; exact (show False from o).elim
    | no => rw [q2] at o; exact (show False from o).elim
  | ex c h1 => rw [q] at o; exact (show False from o).elim
  | no => rw [q] at o; exact (show False from o).elim
/-- a comprehension over anything but a dict -/
theorem lc_is {own : List Nat} (tgo : ∀ x e h e1 h1, tgF x e h = .ok e1 h1 → wipeE e1 own = wipeE e own) {σ : St} {H : Hp} {Q : VK} {m : Mp} {h : OH} {e : En} (ok : Ok F m h H) (ve : valE h.n e) (es : σ = trE F m e)
    (nk : ∀ s h', fi e h = .ok s h' → ownKeys s.1 = false) (o : Out F m h (dCompR mF tgF fi cF own e h) (fun m' h' H' v => val h'.n v → Q (tr F m' v) H') fun c H' => W (Cv F c) none σ H') :
    tLc (rdI F W fi) (rdG F noW tgF) (rdT F noW cF) (rdE F noW mF) own σ H Q := by
  subst es
  obtain ⟨s, h1, hk, v, hk', q, q2, q3, o⟩ := comp_out o
  obtain ⟨ev, eh⟩ := unlR_ok (nk s h1 q) q3
  subst ev eh
  refine ⟨m, h, e, ok, ve, rfl, ?_⟩
  rw [q]
  intro m1 H1 n1 J j D nD
  have nn := n1.ok.newL (xs := []) nD vals_nil
  have n02 := n1.trans nn
  have lc := lc_loop (F := F) (m2 := extM m1 h1.n D) (σ := trE F m e) (QQ := fun H' => Q (.ref D) H') (j.mono nn) nn.ok (Nat.lt_succ_self _) (ve.mono n02.le) (by rw [trE_wipe, n02.trE ve]) tgo q2 fun m' H' n' => by
    have z := o m' H' (n02.trans n') (Nat.lt_of_lt_of_le (Nat.lt_succ_self _) n'.le)
    have ed : tr F m' (.ref h1.n) = .ref D := by rw [n'.tr (v := .ref h1.n) (Nat.lt_succ_self _), newref]
    rw [ed] at z
    exact z
  rw [extM_self] at lc
  exact lc
/-- .. over a dict that nobody has locked: it is locked while the block runs -/
theorem lc_keys {own : List Nat} {i : Nat} {n : Nat} {kvs : List (Str × OV)} (tgo : ∀ x e h e1 h1, tgF x e h = .ok e1 h1 → wipeE e1 own = wipeE e own) {σ : St} {H : Hp} {Q : VK} {m : Mp} {h : OH} {e : En} (ok : Ok F m h H) (ve : valE h.n e) (es : σ = trE F m e)
    (ev : getV e i = some (.ref n)) (g : h.get n = some (.dct false kvs)) (ef : fi e h = .ok (.keys n true, kvs.length) (h.put n (.dct true kvs)))
    (o : Out F m h (dCompR mF tgF fi cF own e h) (fun m' h' H' v => val h'.n v → Q (tr F m' v) H') fun c H' => W (Cv F c) none σ H') :
    tLockE (tLc (iKeys (rdE F W fun e h => R.of (getV e i) h)) (rdG F noW tgF) (rdT F noW cF) (rdE F noW mF) own) σ H Q := by
  subst es
  obtain ⟨s, h1, hk, v, hk', q, q2, q3, o⟩ := comp_out o
  rw [ef] at q
  cases q
  obtain ⟨v0, hd⟩ := ok.dct g
  refine ⟨m n, _, hd, trivial, fun od => ?_⟩
  have nl := ok.lockD (od := od) g
  have gl : (h.put n (.dct true kvs)).get n = some (.dct true kvs) := by rw [OH.get_put, if_pos rfl]
  have ln := ok.lt g
  refine ⟨m.lock n od, h.put n (.dct true kvs), e, nl.ok, ve, rfl, ?_⟩
  dsimp only
  rw [ev]
  intro m1 H1 n1 _
  obtain ⟨g1, l1⟩ := n1.fr n kvs gl
  have n01 := nl.trans n1
  have e1 : m1 n = m n := n01.eq n ln
  have r1 : H1 (m1 n) = some (.frz (m1.lk n) (.dK (trk F m1 kvs))) := (n1.ok.at_ g1).2
  refine ⟨m1 n, m1.lk n, rfl, .inl ⟨_, r1, fun D nD => ?_⟩⟩
  have nn := n1.ok.newL (xs := []) nD vals_nil
  have n02 := n01.trans nn
  have js : ItS F (.keys n true) m1 (h.put n (.dct true kvs)) (Itk (m1 n) (m1.lk n) (trk F m1 kvs)) := its_keys gl v0 ln
  have lc := lc_loop (F := F) (m2 := extM m1 (h.put n (.dct true kvs)).n D) (σ := trE F m e) (QQ := fun H' => H' (m n) = some (.frz od (.dK (trk F m kvs))) ∧ Q (.ref D) (upd H' (m n) (.dK (trk F m kvs)))) (js.mono nn) nn.ok (Nat.lt_succ_self _) (ve.mono n02.le) (by rw [trE_wipe, n02.trE ve]) tgo q2 fun m' H' n' => by
    have n0' := n02.trans n'
    have nl' := (n1.trans nn).trans n'
    obtain ⟨g3, l3⟩ := nl'.fr n kvs gl
    have el : m'.lk n = od := l3.trans (if_pos rfl)
    have ea : m' n = m n := n0'.eq n ln
    have r3 : H' (m' n) = some (.frz (m'.lk n) (.dK (trk F m' kvs))) := (n'.ok.at_ g3).2
    have ek : trk F m' kvs = trk F m kvs := trk_eq v0 n0'.eq
    have o3 := n'.ok.unlockD g3
    rw [ea, el, ek] at r3
    refine ⟨r3, ?_⟩
    unfold unlR unlock at q3
    dsimp only at q3
    rw [g3] at q3
    cases q3
    rw [ea, ek] at o3
    have nx : Nx F m h m' (hk.put n (.dct false kvs)) (upd H' (m n) (.dK (trk F m kvs))) := ⟨o3, n0'.le, n0'.eq, fun j kvs' ej => by
      obtain ⟨a1, a2⟩ := n0'.fr j kvs' ej
      have ne : j ≠ n := fun z => by rw [z, g] at ej; cases ej
      exact ⟨by rw [OH.get_put, if_neg ne]; exact a1, a2⟩⟩
    have z := o m' _ nx (Nat.lt_of_lt_of_le (Nat.lt_succ_self _) n'.le)
    have ed : tr F m' (.ref (h.put n (.dct true kvs)).n) = .ref D := by rw [n'.tr (v := .ref (h.put n (.dct true kvs)).n) (Nat.lt_succ_self _), newref]
    rw [ed] at z
    exact z
  rw [extM_self] at lc
  exact lc
/-- .. over a dict that stands locked -/
theorem lc_keysL {own : List Nat} {i : Nat} {n : Nat} {kvs : List (Str × OV)} (tgo : ∀ x e h e1 h1, tgF x e h = .ok e1 h1 → wipeE e1 own = wipeE e own) {σ : St} {H : Hp} {Q : VK} {m : Mp} {h : OH} {e : En} (ok : Ok F m h H) (ve : valE h.n e) (es : σ = trE F m e)
    (ev : getV e i = some (.ref n)) (g : h.get n = some (.dct true kvs)) (ef : fi e h = .ok (.keys n false, kvs.length) h)
    (o : Out F m h (dCompR mF tgF fi cF own e h) (fun m' h' H' v => val h'.n v → Q (tr F m' v) H') fun c H' => W (Cv F c) none σ H') :
    tLc (iKeys (rdE F W fun e h => R.of (getV e i) h)) (rdG F noW tgF) (rdT F noW cF) (rdE F noW mF) own σ H Q := by
  subst es
  obtain ⟨s, h1, hk, v, hk', q, q2, q3, o⟩ := comp_out o
  rw [ef] at q
  cases q
  cases q3
  have v0 : ∀ p ∈ kvs, val h.n p.2 := (ok.at_ g).1
  have ln := ok.lt g
  refine ⟨m, h, e, ok, ve, rfl, ?_⟩
  dsimp only
  rw [ev]
  intro m1 H1 n1 _
  obtain ⟨g1, l1⟩ := n1.fr n kvs g
  have r1 : H1 (m1 n) = some (.frz (m1.lk n) (.dK (trk F m1 kvs))) := (n1.ok.at_ g1).2
  refine ⟨m1 n, m1.lk n, rfl, .inl ⟨_, r1, fun D nD => ?_⟩⟩
  have nn := n1.ok.newL (xs := []) nD vals_nil
  have n02 := n1.trans nn
  have js : ItS F (.keys n false) m1 h (Itk (m1 n) (m1.lk n) (trk F m1 kvs)) := its_keys g v0 ln
  have lc := lc_loop (F := F) (m2 := extM m1 h.n D) (σ := trE F m e) (QQ := fun H' => Q (.ref D) H') (js.mono nn) nn.ok (Nat.lt_succ_self _) (ve.mono n02.le) (by rw [trE_wipe, n02.trE ve]) tgo q2 fun m' H' n' => by
    have z := o m' _ (n02.trans n') (Nat.lt_of_lt_of_le (Nat.lt_succ_self _) n'.le)
    have ed : tr F m' (.ref h.n) = .ref D := by rw [n'.tr (v := .ref h.n) (Nat.lt_succ_self _), newref]
    rw [ed] at z
    exact z
  rw [extM_self] at lc
  exact lc

/-! ### as a value, as a statement -/
section
variable {elt tg it : Expr} {ifs : List Expr} {scope : Scope} {own : List (Str × Nat)} {pos spos py : Pos}
/-- what a comprehension's block keeps: its target, its test, its element, each at any of its contexts -/
structure Blk (F : Fx) (X : Cx) (scope : Scope) (tg : Expr) (ifs : List Expr) (elt : Expr) (tgF : OV → En → OH → R En) (cF : En → OH → R Bool) (mF : En → OH → R OV) : Prop where
  g : ∀ (s : Shared) (H : Hp) (C : Addr) (cl : List (Str × Addr)) (fp : List Addr), PG (X.blk s H scope (compEnvC scope cl C X.env) fp) tg (rdG F noW tgF)
  t : ∀ (s : Shared) (H : Hp) (C : Addr) (cl : List (Str × Addr)) (fp : List Addr), PTs (X.blk s H scope (compEnvC scope cl C X.env) fp) ifs (rdT F noW cF)
  e : ∀ (s : Shared) (H : Hp) (C : Addr) (cl : List (Str × Addr)) (fp : List Addr), PE (X.blk s H scope (compEnvC scope cl C X.env) fp) elt (rdE F noW mF)
def unset : Expr → Bool
  | .Set .. => false
  | _ => true
theorem unset_is {env : Env} {e : Expr} (h : unset e = true) : ∀ x, foldedSetIterable e env x = pure x := by
  intro x
  cases e with
  | Set => cases h
  | _ => rfl
theorem s_comp (hc : X.calm = true) (hN : X.N.Nodup) (ok : BlkOk X.N X.env.scope scope own) (B : Blk F X scope tg ifs elt tgF cF mF) (hi : PI X tg it (rdI F W fi)) (hs : unset it = true)
    (tgo : ∀ x e h e1 h1, tgF x e h = .ok e1 h1 → wipeE e1 (own.map (·.2)) = wipeE e (own.map (·.2))) (nk : ∀ e h s h', fi e h = .ok s h' → ownKeys s.1 = false) :
    PE X (.ListComp elt [⟨tg, it, ifs, 0⟩] scope pos) (rdE F W (dCompR mF tgF fi cF (own.map (·.2)))) := by
  refine (pe_lc hc hN hi ok B.g B.t B.e (unset_is hs)).wk fun σ H Q hw => ?_
  obtain ⟨m, h, e, ok, ve, rfl, o⟩ := hw
  exact lc_is tgo ok ve rfl (nk e h) o
theorem st_comp {i : Nat} {y : Str} (hc : X.calm = true) (hN : X.N.Nodup) (hy : X.N[i]? = some y) (hyl : X.env.scope.names.lookup y = some .local) (hsw : swapsWith (.ListComp elt [⟨tg, it, ifs, 0⟩] scope pos) (some (.Name y py)) spos.line X.env = pure true)
    (ok : BlkOk X.N X.env.scope scope own) (B : Blk F X scope tg ifs elt tgF cF mF) (hi : PI X tg it (rdI F W fi)) (hs : unset it = true)
    (tgo : ∀ x e h e1 h1, tgF x e h = .ok e1 h1 → wipeE e1 (own.map (·.2)) = wipeE e (own.map (·.2))) (nk : ∀ e h s h', fi e h = .ok s h' → ownKeys s.1 = false) :
    PS X (.Assign [.Name y py] (.ListComp elt [⟨tg, it, ifs, 0⟩] scope pos) spos) (tAsg (rdE F W (dCompR mF tgF fi cF (own.map (·.2)))) (gName i)) := by
  refine (ps_setLc hc hN hy hyl hsw hi ok B.g B.t B.e (unset_is hs)).wk fun D σ H hw => ?_
  obtain ⟨m, h, e, ok, ve, rfl, o⟩ := hw
  exact lc_is tgo ok ve rfl (nk e h) o
/-- .. over a name -/
def fiK (i : Nat) : En → OH → R (Src × Nat) := fun e h => (R.of (getV e i) h).bind fun x h => noEx (srcK x h)
theorem fiK_case {i : Nat} {e : En} {h h1 : OH} {s : Src × Nat} (q : fiK i e h = .ok s h1) :
    (∃ n kvs, getV e i = some (.ref n) ∧ h.get n = some (.dct false kvs) ∧ s = (.keys n true, kvs.length) ∧ h1 = h.put n (.dct true kvs)) ∨ (∃ n kvs, getV e i = some (.ref n) ∧ h.get n = some (.dct true kvs) ∧ s = (.keys n false, kvs.length) ∧ h1 = h) ∨
      ∃ v, getV e i = some v ∧ srcV v h = .ok s h1 := by
  unfold fiK at q
  obtain ⟨v, h2, q1, q2⟩ := bind_ok q
  obtain ⟨ev, rfl⟩ := of_of q1
  cases q3 : srcK v h2 with
  | ok s' h3 =>
    rw [q3] at q2
    cases q2
    unfold srcK at q3
    split at q3
    · rename_i n
      split at q3
      · rename_i kvs g; cases q3; exact .inl ⟨n, kvs, ev, g, rfl, rfl⟩
      · rename_i kvs g; cases q3; exact .inr (.inl ⟨n, kvs, ev, g, rfl, rfl⟩)
      · exact .inr (.inr ⟨_, ev, q3⟩)
    · exact .inr (.inr ⟨_, ev, q3⟩)
  | ex c h3 => rw [q3] at q2; cases q2
  | no => rw [q3] at q2; cases q2
def fiV (i : Nat) : En → OH → R (Src × Nat) := fun e h => (R.of (getV e i) h).bind fun x h => noEx (srcV x h)
theorem src_nk {v : OV} {h h1 : OH} {s : Src × Nat} (q : srcV v h = .ok s h1) : ownKeys s.1 = false := by
  obtain ⟨_, ⟨_, _, e⟩ | ⟨_, e⟩ | ⟨_, _, _, _, e⟩ | ⟨_, _, _, _, e⟩⟩ := src_case q <;> rw [e] <;> rfl
theorem fiV_nk {i : Nat} {e : En} {h h1 : OH} {s : Src × Nat} (q : fiV i e h = .ok s h1) : ownKeys s.1 = false := by
  obtain ⟨v, h2, q1, q2⟩ := bind_ok q
  obtain ⟨ev, rfl⟩ := of_of q1
  cases q3 : srcV v h2 with
  | ok s' h3 => rw [q3] at q2; cases q2; exact src_nk q3
  | ex c h3 => rw [q3] at q2; cases q2
  | no => rw [q3] at q2; cases q2
/-- the reading is one of the three -/
theorem keys_split {own : List Nat} {i : Nat} (tgo : ∀ x e h e1 h1, tgF x e h = .ok e1 h1 → wipeE e1 own = wipeE e own) {σ : St} {H : Hp} {Q : VK} (hw : rdE F W (dCompR mF tgF (fiK i) cF own) σ H Q) :
    tLc (rdI F W (fiV i)) (rdG F noW tgF) (rdT F noW cF) (rdE F noW mF) own σ H Q ∨ tLc (iKeys (rdE F W fun e h => R.of (getV e i) h)) (rdG F noW tgF) (rdT F noW cF) (rdE F noW mF) own σ H Q ∨
      tLockE (tLc (iKeys (rdE F W fun e h => R.of (getV e i) h)) (rdG F noW tgF) (rdT F noW cF) (rdE F noW mF) own) σ H Q := by
  obtain ⟨m, h, e, ok, ve, rfl, o⟩ := hw
  obtain ⟨s, h1, hk, v, hk', q, q2, q3, o'⟩ := comp_out o
  rcases fiK_case q with ⟨n, kvs, ev, g, rfl, rfl⟩ | ⟨n, kvs, ev, g, rfl, rfl⟩ | ⟨v', ev, sv⟩
  · exact .inr (.inr (lc_keys tgo ok ve rfl ev g q o))
  · exact .inr (.inl (lc_keysL tgo ok ve rfl ev g q o))
  · have qv : fiV i e h = .ok s h1 := by
      unfold fiV
      rw [ev]
      show noEx (srcV v' h) = _
      rw [sv]; rfl
    have o2 : Out F m h (dCompR mF tgF (fiV i) cF own e h) (fun m' h' H' v => val h'.n v → Q (tr F m' v) H') fun c H' => W (Cv F c) none (trE F m e) H' := by
      have e1 : dCompR mF tgF (fiV i) cF own e h = dCompR mF tgF (fiK i) cF own e h := by unfold dCompR; rw [q, qv]
      rw [e1]; exact o
    exact .inl (lc_is tgo ok ve rfl (fun s' h' z => fiV_nk z) o2)
theorem s_compK {i : Nat} {y : Str} {pn : Pos} (hK : X.K = F.K) (hc : X.calm = true) (hN : X.N.Nodup) (ok : BlkOk X.N X.env.scope scope own) (B : Blk F X scope tg ifs elt tgF cF mF) (hv : PE X (.Name y pn) (rdE F W fun e h => R.of (getV e i) h))
    (tgo : ∀ x e h e1 h1, tgF x e h = .ok e1 h1 → wipeE e1 (own.map (·.2)) = wipeE e (own.map (·.2))) :
    PE X (.ListComp elt [⟨tg, .Name y pn, ifs, 0⟩] scope pos) (rdE F W (dCompR mF tgF (fiK i) cF (own.map (·.2)))) := by
  have h1 := pe_lc (pos := pos) hc hN (i_any (tg := tg) hK hv) ok B.g B.t B.e
  have h2 := pe_lc (pos := pos) hc hN (pi_keys (tg := tg) hv) ok B.g B.t B.e
  exact (h1.or (h2.or (pe_lock h2))).wk fun σ H Q hw => keys_split tgo hw
theorem tLock_asg {t : TE} {i : Nat} {D : Ends} {σ : St} {H : Hp} (h : tLockE t σ H fun x H1 => gName i x σ H1 D.nx) : tLock (tAsg t (gName i)) D σ H := by
  obtain ⟨d, u, hd, mu, h⟩ := h
  exact ⟨d, u, hd, mu, fun od => h od⟩
theorem _root_.L2.PS.or {X : Cx} {st : Stmt} {t t' : TS} (h : PS X st t) (h' : PS X st t') : PS X st (fun D σ H => t D σ H ∨ t' D σ H) := ⟨fun pins s σ H D I hw => hw.elim (h.run pins s σ H D I) (h'.run pins s σ H D I)⟩
theorem st_compK {i j : Nat} {x y : Str} {pn : Pos} (hK : X.K = F.K) (hc : X.calm = true) (hN : X.N.Nodup) (hy : X.N[j]? = some x) (hyl : X.env.scope.names.lookup x = some .local) (hsw : swapsWith (.ListComp elt [⟨tg, .Name y pn, ifs, 0⟩] scope pos) (some (.Name x py)) spos.line X.env = pure true)
    (ok : BlkOk X.N X.env.scope scope own) (B : Blk F X scope tg ifs elt tgF cF mF) (hv : PE X (.Name y pn) (rdE F W fun e h => R.of (getV e i) h))
    (tgo : ∀ x e h e1 h1, tgF x e h = .ok e1 h1 → wipeE e1 (own.map (·.2)) = wipeE e (own.map (·.2))) :
    PS X (.Assign [.Name x py] (.ListComp elt [⟨tg, .Name y pn, ifs, 0⟩] scope pos) spos) (tAsg (rdE F W (dCompR mF tgF (fiK i) cF (own.map (·.2)))) (gName j)) := by
  have h1 := ps_setLc (pos := pos) (spos := spos) hc hN hy hyl hsw (i_any (tg := tg) hK hv) ok B.g B.t B.e
  have h2 := ps_setLc (pos := pos) (spos := spos) hc hN hy hyl hsw (pi_keys (tg := tg) hv) ok B.g B.t B.e
  refine (h1.or (h2.or (ps_lock h2))).wk fun D σ H hw => ?_
  rcases keys_split tgo hw with q | q | q
  · exact .inl q
  · exact .inr (.inl q)
  · exact .inr (.inr (tLock_asg q))
end
end
end MP

end
section
set_option linter.all false
set_option maxRecDepth 100000
/-! MPSnd7: statements. -/
namespace MP
open PySem L2

section
variable {F : Fx} {W : WX}
abbrev exW (F : Fx) (W : WX) : Mp → Nat → En → Hp → Prop := fun m' c e' H' => W (Cv F c) none (trE F m' e') H'
theorem OutS.mono {m : Mp} {h : OH} {x : RS} {P P' : Mp → OH → Hp → Fl → En → Prop} {Ex : Mp → Nat → En → Hp → Prop} (o : OutS F m h x P Ex) (k : ∀ m' h' H' a e, Nx F m h m' h' H' → P m' h' H' a e → P' m' h' H' a e) : OutS F m h x P' Ex := by
  cases x with
  | ok a e h' => exact fun m' H' n => k _ _ _ _ _ n (o m' H' n)
  | ex c e h' => exact o
  | no => exact o
theorem OutS.later {m m' : Mp} {h h' : OH} {H' : Hp} {x : RS} {P : Mp → OH → Hp → Fl → En → Prop} {Ex : Mp → Nat → En → Hp → Prop} (o : OutS F m h x P Ex) (n : Nx F m h m' h' H') : OutS F m' h' x P Ex := by
  cases x with
  | ok a e h2 => exact fun m2 H2 n2 => o m2 H2 (n.trans n2)
  | ex c e h2 => exact fun m2 H2 n2 => o m2 H2 (n.trans n2)
  | no => exact o
theorem OutS.bind {m : Mp} {h : OH} {x : RS} {f : Fl → En → OH → RS} {P : Mp → OH → Hp → Fl → En → Prop} {Ex : Mp → Nat → En → Hp → Prop} (o : OutS F m h (x.bind f) P Ex) : OutS F m h x (fun m1 h1 _ a e => OutS F m1 h1 (f a e h1) P Ex) Ex := by
  cases x with
  | ok a e h1 =>
    intro m1 H1 n1
    have o : OutS F m h (f a e h1) P Ex := o
    exact o.later n1
  | ex c e h1 => exact o
  | no => exact o
theorem OutS.thenS {α : Type} {m : Mp} {h : OH} {x : R α} {e : En} {f : α → OH → RS} {P : Mp → OH → Hp → Fl → En → Prop} (ve : valE h.n e) (o : OutS F m h (x.thenS e f) P (exW F W)) :
    Out F m h x (fun m1 h1 _ a => OutS F m1 h1 (f a h1) P (exW F W)) fun c H' => W (Cv F c) none (trE F m e) H' := by
  cases x with
  | ok a h1 =>
    intro m1 H1 n1
    have o : OutS F m h (f a h1) P _ := o
    exact o.later n1
  | ex c h1 =>
    intro m1 H1 n1
    have z := o m1 H1 n1
    rw [exW, n1.trE ve] at z
    exact z
  | no => exact o
/-- a statement's end, where one knows it -/
theorem OutS.fin {m : Mp} {h : OH} {H : Hp} {a : Fl} {e : En} {P : Mp → OH → Hp → Fl → En → Prop} {Ex : Mp → Nat → En → Hp → Prop} (o : OutS F m h (.ok a e h) P Ex) (ok : Ok F m h H) : P m h H a e := o m H (Nx.refl ok)
end

section
variable {F : Fx} {X : Cx} {W : WX} {a b c : Expr} {fa fb : En → OH → R OV} {ga : En → OH → R Bool} {sa sb : En → OH → RS} {st : Stmt} {bd bd2 : List Stmt} {pos p tpos : Pos}

theorem st_pass : PS X (.Pass pos) (rdS F W fun e h => .ok .nx e h) := ps_pass.wk fun D σ H hw => by
  obtain ⟨m, h, e, ok, ve, rfl, o⟩ := hw; exact o.fin ok ve
theorem st_brk : PS X (.Break pos) (rdS F W fun e h => .ok .bk e h) := ps_break.wk fun D σ H hw => by
  obtain ⟨m, h, e, ok, ve, rfl, o⟩ := hw; exact o.fin ok ve
theorem st_cont : PS X (.Continue pos) (rdS F W fun e h => .ok .ct e h) := ps_continue.wk fun D σ H hw => by
  obtain ⟨m, h, e, ok, ve, rfl, o⟩ := hw; exact o.fin ok ve
theorem st_retn : PS X (.Return none pos) (rdS F W fun e h => .ok (.rt .non) e h) := ps_retN.wk fun D σ H hw => by
  obtain ⟨m, h, e, ok, ve, rfl, o⟩ := hw; exact o.fin ok ve trivial
theorem ss_nil : PSs X [] (rdS F W fun e h => .ok .nx e h) := pss_nil.wk fun D σ H hw => by
  obtain ⟨m, h, e, ok, ve, rfl, o⟩ := hw; exact o.fin ok ve
theorem ss_cons (ha : PS X st (rdS F W sa)) (hb : PSs X bd (rdS F W sb)) : PSs X (st :: bd) (rdS F W fun e h => (sa e h).bind fun f e h => match f with | .nx => sb e h | _ => .ok f e h) := by
  refine (pss_cons ha hb).wk fun D σ H hw => ?_
  obtain ⟨m, h, e, ok, ve, rfl, o⟩ := hw
  refine ⟨m, h, e, ok, ve, rfl, o.bind.mono fun m1 h1 H1 f e1 n1 o1 ve1 => ?_⟩
  cases f with
  | nx => exact ⟨m1, h1, e1, n1.ok, ve1, rfl, o1⟩
  | bk => exact o1.fin n1.ok ve1
  | ct => exact o1.fin n1.ok ve1
  | rt v => exact o1.fin n1.ok ve1
def uncomp : Expr → Bool
  | .ListComp .. => false
  | .SetComp .. => false
  | .DictComp .. => false
  | _ => true
theorem uncomp_is {t : Option Expr} {l : Nat} {env : Env} (h : uncomp a = true) : swapsWith a t l env = pure false := by
  cases a with
  | ListComp => cases h
  | SetComp => cases h
  | DictComp => cases h
  | _ => rfl
theorem st_sex (ha : PE X a (rdE F W fa)) (hs : uncomp a = true) : PS X (.Expr a pos) (rdS F W fun e h => (fa e h).thenS e fun _ h => .ok .nx e h) := by
  refine (ps_expr ha (uncomp_is hs)).wk fun D σ H hw => ?_
  obtain ⟨m, h, e, ok, ve, rfl, o⟩ := hw
  refine ⟨m, h, e, ok, ve, rfl, (o.thenS ve).mono (fun m1 h1 H1 x n1 o1 vx => ?_) fun _ _ w => w⟩
  have z := o1.fin n1.ok (ve.mono n1.le)
  rw [n1.trE ve] at z
  exact z
theorem st_ret (ha : PE X a (rdE F W fa)) : PS X (.Return (some a) pos) (rdS F W fun e h => (fa e h).thenS e fun x h => .ok (.rt x) e h) := by
  refine (ps_ret ha).wk fun D σ H hw => ?_
  obtain ⟨m, h, e, ok, ve, rfl, o⟩ := hw
  refine ⟨m, h, e, ok, ve, rfl, (o.thenS ve).mono (fun m1 h1 H1 x n1 o1 vx => ?_) fun _ _ w => w⟩
  exact o1.fin n1.ok (ve.mono n1.le) vx
theorem st_if (hc : PT X c (rdT F W ga)) (ha : PSs X bd (rdS F W sa)) (hb : PSs X bd2 (rdS F W sb)) : PS X (.If c bd bd2 pos) (rdS F W fun e h => (ga e h).thenS e fun k h => if k = true then sa e h else sb e h) := by
  refine (ps_if hc ha hb).wk fun D σ H hw => ?_
  obtain ⟨m, h, e, ok, ve, rfl, o⟩ := hw
  refine ⟨m, h, e, ok, ve, rfl, (o.thenS ve).mono (fun m1 h1 H1 k n1 o1 => ?_) fun _ _ w => w⟩
  cases k with
  | true => exact ⟨m1, h1, e, n1.ok, ve.mono n1.le, (n1.trE ve).symm, o1⟩
  | false => exact ⟨m1, h1, e, n1.ok, ve.mono n1.le, (n1.trE ve).symm, o1⟩

/-! ### assignments -/
def asgR (fa : En → OH → R OV) (g : OV → En → OH → R En) : En → OH → RS := fun e h => (fa e h).thenS e fun x h => (g x e h).thenS e fun e h => .ok .nx e h
theorem asg_name {i : Nat} {D : Ends} {σ : St} {H : Hp} (hw : rdS F W (asgR fa fun v e h => .ok (e.set i (some v)) h) D σ H) : tAsg (rdE F W fa) (gName i) D σ H := by
  obtain ⟨m, h, e, ok, ve, rfl, o⟩ := hw
  refine ⟨m, h, e, ok, ve, rfl, (OutS.thenS ve o).mono (fun m1 h1 H1 x n1 o1 vx => ?_) fun _ _ w => w⟩
  have z := OutS.fin (show OutS F m1 h1 (.ok .nx (e.set i (some x)) h1) _ _ from o1) n1.ok (valE_set (ve.mono n1.le) vx)
  have z : D.nx (trE F m1 (e.set i (some x))) H1 := z
  rw [trE_set, n1.trE ve] at z
  exact z
theorem st_set {i : Nat} {x : Str} (hN : X.N.Nodup) (hi : X.N[i]? = some x) (hx : Loc X.env.scope x) (hf : X.fn x = true ∨ X.env.scope.names.lookup x = some .local) (ha : PE X a (rdE F W fa)) (hs : swapsWith a (some (.Name x p)) pos.line X.env = pure false) :
    PS X (.Assign [.Name x p] a pos) (rdS F W (asgR fa fun v e h => .ok (e.set i (some v)) h)) := (ps_set hN hi hx ha hs hf).wk fun D σ H hw => asg_name hw
theorem asg_any {g : OV → En → OH → R En} {D : Ends} {σ : St} {H : Hp} (hw : rdS F W (asgR fa g) D σ H) : tAsg (rdE F W fa) (rdG F W g) D σ H := by
  obtain ⟨m, h, e, ok, ve, rfl, o⟩ := hw
  refine ⟨m, h, e, ok, ve, rfl, (OutS.thenS ve o).mono (fun m1 h1 H1 x n1 o1 vx => ?_) fun _ _ w => w⟩
  have ve1 := ve.mono n1.le
  refine ⟨m1, h1, e, x, n1.ok, ve1, vx, (n1.trE ve).symm, rfl, (o1.thenS ve1).mono (fun m2 h2 H2 e2 n2 o2 ve2 => ?_) fun _ _ w => by rw [n1.trE ve] at w; exact w⟩
  exact o2.fin n2.ok ve2
theorem st_asgT {es : List Expr} {k : Nat} {g : OV → En → OH → R En} (ha : PE X a (rdE F W fa)) (hg : PG X (.Tuple es k p) (rdG F W g)) (hw : swappedStores [.Tuple es k p] a X.env = pure none) : PS X (.Assign [.Tuple es k p] a pos) (rdS F W (asgR fa g)) := by
  refine (ps_asg ha hg ?_ hw rfl).wk fun D σ H q => asg_any q
  cases a <;> rfl
theorem st_asgS {oe ie : Expr} {g : OV → En → OH → R En} (ha : PE X a (rdE F W fa)) (hg : PG X (.Subscript oe ie p) (rdG F W g)) : PS X (.Assign [.Subscript oe ie p] a pos) (rdS F W (asgR fa g)) := by
  refine (ps_asg ha hg ?_ ?_ rfl).wk fun D σ H q => asg_any q
  · cases a <;> rfl
  · cases a <;> rfl
theorem st_asgF {T : Tb} {oe : Expr} {f : Str} {fo : En → OH → R OV} (hK : X.K = F.K) (hc : ∀ c, okC T c = true → Cls F.K (F.ca c) ∧ NoAttr F.K (F.ca c) f) (ha : PE X a (rdE F W fa)) (ho : PE X oe (rdE F W fo)) :
    PS X (.Assign [.Attribute oe f p] a pos) (rdS F W (asgR fa fun v e h => (fo e h).bind fun x h => (noEx (setF T x f v h)).bind fun _ h => .ok e h)) := by
  refine (ps_fld ho ha ?_).wk fun D σ H hw => ?_
  · cases a <;> rfl
  obtain ⟨m, h, e, ok, ve, rfl, o⟩ := hw
  refine ⟨m, h, e, ok, ve, rfl, (OutS.thenS ve o).mono (fun m1 h1 H1 y n1 o1 vy => ?_) fun _ _ w => w⟩
  have ve1 := ve.mono n1.le
  refine ⟨m1, h1, e, n1.ok, ve1, (n1.trE ve).symm, ((o1.thenS ve1).bind).mono (fun m2 h2 H2 x n2 o2 vx => ?_) fun _ _ w => by rw [n1.trE ve] at w; exact w⟩
  have n02 := n1.trans n2
  have o3 := (Out.bind o2).noEx (Ex' := fun _ _ => False)
  unfold setF at o3
  split at o3
  · rename_i n
    split at o3
    · rename_i ci fs g
      split at o3
      · rename_i oc
        obtain ⟨c1, c2⟩ := hc ci oc.1
        rw [← hK] at c1 c2
        obtain ⟨v1, dx, hi⟩ := n2.ok.ins g
        refine ⟨_, _, dx, _, rfl, hi, c1, c2, by rw [List.length_map]; omega, ?_⟩
        have nx : Nx F m2 h2 m2 (h2.put n (.ins ci (putF fs f y))) (upd H2 (m2 n) (.ins (F.ca ci) dx (L2.putF f (tr F m1 y) (trf F m2 fs)))) := by
          refine n2.ok.put (o := .ins ci (putF fs f y)) g rfl (val_putF (vy.mono n2.le) v1) ⟨dx, ?_⟩
          rw [upd_same, ← n2.tr vy, putF_trf]
        have o4 := Out.ok o3 nx
        have o5 := Out.ok o4 (Nx.refl nx.ok)
        have z := o5.fin nx.ok (ve.mono n02.le)
        have z : D.nx (trE F m2 e) _ := z
        rw [n02.trE ve] at z
        exact z
      · exact (show False from o3).elim
    · exact (show False from o3).elim
  · exact (show False from o3).elim
theorem st_par2 {i j : Nat} {x y : Str} {px py pt pt2 : Pos} {kt k2 : Nat} {xa : En → OH → R (List OV)} (hc : X.calm = true) (hN : X.N.Nodup) (hi : X.N[i]? = some x) (hj : X.N[j]? = some y) (hij : i ≠ j)
    (hx : X.env.scope.names.lookup x = some .local) (hy : X.env.scope.names.lookup y = some .local) (ha : PA X [a, b] (rdA F W xa)) (hw : swappedStores [.Tuple [.Name x px, .Name y py] kt pt] (.Tuple [a, b] k2 pt2) X.env = pure (some [x, y])) :
    PS X (.Assign [.Tuple [.Name x px, .Name y py] kt pt] (.Tuple [a, b] k2 pt2) pos) (rdS F W fun e h => (xa e h).thenS e fun vs h => match setAll e [i, j] vs with | some e => .ok .nx e h | none => .no) := by
  refine (ps_par hc hN hi hj hij hx hy ha hw).wk fun D σ H q => ?_
  obtain ⟨m, h, e, ok, ve, rfl, o⟩ := q
  refine ⟨m, h, e, ok, ve, rfl, (OutS.thenS ve o).mono (fun m1 h1 H1 vs n1 o1 vv => ?_) fun _ _ w => w⟩
  match vs, o1, vv with
  | [u, w], o1, vv =>
    refine ⟨_, _, rfl, ?_⟩
    have v1 : val h1.n u := vv u (by simp)
    have v2 : val h1.n w := vv w (by simp)
    have z := OutS.fin (show OutS F m1 h1 (.ok .nx ((e.set i (some u)).set j (some w)) h1) _ _ from o1) n1.ok (valE_set (valE_set (ve.mono n1.le) v1) v2)
    have z : D.nx (trE F m1 ((e.set i (some u)).set j (some w))) H1 := z
    rw [trE_set, trE_set, n1.trE ve] at z
    exact z
  | [], o1, _ => exact (show False from o1).elim
  | [_], o1, _ => exact (show False from o1).elim
  | _ :: _ :: _ :: _, o1, _ => exact (show False from o1).elim
theorem st_par3 {i j l : Nat} {x y z : Str} {px py pz pt pt2 : Pos} {kt k2 : Nat} {xa : En → OH → R (List OV)} (hc : X.calm = true) (hN : X.N.Nodup) (hi : X.N[i]? = some x) (hj : X.N[j]? = some y) (hl : X.N[l]? = some z) (hij : i ≠ j) (hil : i ≠ l) (hjl : j ≠ l)
    (hx : X.env.scope.names.lookup x = some .local) (hy : X.env.scope.names.lookup y = some .local) (hz : X.env.scope.names.lookup z = some .local) (ha : PA X [a, b, c] (rdA F W xa))
    (hw : swappedStores [.Tuple [.Name x px, .Name y py, .Name z pz] kt pt] (.Tuple [a, b, c] k2 pt2) X.env = pure (some [x, y, z])) :
    PS X (.Assign [.Tuple [.Name x px, .Name y py, .Name z pz] kt pt] (.Tuple [a, b, c] k2 pt2) pos) (rdS F W fun e h => (xa e h).thenS e fun vs h => match setAll e [i, j, l] vs with | some e => .ok .nx e h | none => .no) := by
  refine (ps_par3 hc hN hi hj hl hij hil hjl hx hy hz ha hw).wk fun D σ H q => ?_
  obtain ⟨m, h, e, ok, ve, rfl, o⟩ := q
  refine ⟨m, h, e, ok, ve, rfl, (OutS.thenS ve o).mono (fun m1 h1 H1 vs n1 o1 vv => ?_) fun _ _ w => w⟩
  match vs, o1, vv with
  | [u, w, t], o1, vv =>
    refine ⟨_, _, _, rfl, ?_⟩
    have v1 : val h1.n u := vv u (by simp)
    have v2 : val h1.n w := vv w (by simp)
    have v3 : val h1.n t := vv t (by simp)
    have z := OutS.fin (show OutS F m1 h1 (.ok .nx (((e.set i (some u)).set j (some w)).set l (some t)) h1) _ _ from o1) n1.ok (valE_set (valE_set (valE_set (ve.mono n1.le) v1) v2) v3)
    have z : D.nx (trE F m1 (((e.set i (some u)).set j (some w)).set l (some t))) H1 := z
    rw [trE_set, trE_set, trE_set, n1.trE ve] at z
    exact z
  | [], o1, _ => exact (show False from o1).elim
  | [_], o1, _ => exact (show False from o1).elim
  | [_, _], o1, _ => exact (show False from o1).elim
  | _ :: _ :: _ :: _ :: _, o1, _ => exact (show False from o1).elim
theorem st_aug {i : Nat} {x : Str} (hN : X.N.Nodup) (hi : X.N[i]? = some x) (hx : Loc X.env.scope x) (hf : X.fn x = true ∨ X.env.scope.names.lookup x = some .local) (ha : PE X a (rdE F W fa)) :
    PS X (.AugAssign (.Name x p) .Add a pos) (rdS F W fun e h => match getV e i with
      | some (.int x) => (fa e h).thenS e fun y h => (match y with | .int y => .ok .nx (e.set i (some (.int (x + y)))) h | _ => .no)
      | _ => .no) := by
  refine (ps_aug hN hi hx ha ip_add hf).wk fun D σ H hw => ?_
  obtain ⟨m, h, e, ok, ve, rfl, o⟩ := hw
  dsimp only at o
  split at o
  · rename_i k g
    refine ⟨_, trE_get g, m, h, e, ok, ve, rfl, (OutS.thenS ve o).mono (fun m1 h1 H1 y n1 o1 vy => ?_) fun _ _ w => w⟩
    cases y with
    | int y =>
      refine ⟨_, _, rfl, rfl, ?_⟩
      have z := OutS.fin (show OutS F m1 h1 (.ok .nx (e.set i (some (.int (k + y)))) h1) _ _ from o1) n1.ok (valE_set (ve.mono n1.le) trivial)
      have z : D.nx (trE F m1 (e.set i (some (.int (k + y))))) H1 := z
      rw [trE_set, n1.trE ve] at z
      exact z
    | _ => exact (show False from o1).elim
  · exact (show False from o).elim

/-! ### loops -/
theorem st_while (hp : PassesOwn (model X.prog X.w) X.A X.env X.xe) (hc : PT X c (rdT F W ga)) (ha : PSs X bd (rdS F W sa)) : PS X (.While c bd [] pos) (rdS F W fun e h => whM WHN ga sa e h) := by
  refine (ps_while hp hc ha).wk fun D σ H hw => ?_
  refine ⟨fun k σ H => rdS F W (fun e h => whM k ga sa e h) D σ H, ⟨WHN, hw⟩, fun k σ H hw => ?_⟩
  obtain ⟨m, h, e, ok, ve, rfl, o⟩ := hw
  cases k with
  | zero => exact (show False from o).elim
  | succ k =>
    refine ⟨m, h, e, ok, ve, rfl, (OutS.thenS ve (show OutS F m h ((ga e h).thenS e _) _ _ from o)).mono (fun m1 h1 H1 b n1 o1 => ?_) fun _ _ w => w⟩
    have ve1 := ve.mono n1.le
    cases b with
    | true =>
      refine ⟨fun σ' H' => rdS F W (fun e h => whM k ga sa e h) D σ' H', fun σ' H' q => ⟨k, Nat.lt_succ_self _, q⟩, m1, h1, e, n1.ok, ve1, (n1.trE ve).symm, ?_⟩
      rw [if_pos rfl] at o1
      refine o1.bind.mono fun m2 h2 H2 f e2 n2 o2 ve2 => ?_
      cases f with
      | nx => exact ⟨m2, h2, e2, n2.ok, ve2, rfl, o2⟩
      | ct => exact ⟨m2, h2, e2, n2.ok, ve2, rfl, o2⟩
      | bk => exact o2.fin n2.ok ve2
      | rt v => exact o2.fin n2.ok ve2
    | false =>
      dsimp only
      rw [if_neg Bool.false_ne_true] at o1 ⊢
      have z := o1.fin n1.ok ve1
      rw [n1.trE ve] at z
      exact z
theorem itemV_nex {s : Src} {i : Nat} {h h' : OH} {c : Nat} (e : itemV s i h = .ex c h') : False := by
  have no : ∀ (o : Option OV) (h : OH), R.of o h ≠ .ex c h' := fun o h q => by cases o <;> cases q
  cases s with
  | lst a => simp only [itemV] at e; split at e <;> first | exact no _ _ e | cases e
  | scr => exact no _ _ e
  | tup a => simp only [itemV] at e; split at e <;> first | exact no _ _ e | cases e
  | rng lo n => simp only [itemV] at e; split at e <;> cases e
  | chr z => exact no _ _ e
  | keys a b => simp only [itemV] at e; split at e <;> first | exact no _ _ e | cases e
  | enum a => simp only [itemV] at e; split at e <;> first | cases e | (split at e <;> cases e)
  | zip a b => simp only [itemV] at e; split at e <;> first | cases e | (split at e <;> cases e)
theorem st_for {tg it : Expr} {fi : En → OH → R (Src × Nat)} {tgF : OV → En → OH → R En} (hp : PassesOwn (model X.prog X.w) X.A X.env X.xe) (hc : X.calm = true) (hi : PI X tg it (rdI F W fi)) (hg : PG X tg (rdG F W tgF)) (ha : PSs X bd (rdS F W sa)) (hs : unset it = true) :
    PS X (.For tg it bd [] pos) (rdS F W fun e h => (fi e h).thenS e fun s h => if isKeys s.1 = true then .no else forM s.1 tgF sa s.2 0 e h) := by
  refine (ps_for hp hc hi hg ha (unset_is hs)).wk fun D σ H hw => ?_
  obtain ⟨m, h, e, ok, ve, rfl, o⟩ := hw
  refine ⟨m, h, e, ok, ve, rfl, (OutS.thenS ve o).mono (fun m0 h0 H0 s n0 o0 => ?_) fun _ _ w => w⟩
  split at o0
  · exact (show False from o0).elim
  · intro J j
    refine ⟨fun i k σ H => ∃ m h e, Nx F m0 h0 m h H ∧ valE h.n e ∧ σ = trE F m e ∧ OutS F m h (forM s.1 tgF sa k i e h) (fun m' h' H' a e' => flD F D m' h' H' a e') (exW F W),
      ⟨s.2, m0, h0, e, Nx.refl n0.ok, ve.mono n0.le, (n0.trE ve).symm, o0⟩, fun i k σ H hw => ?_⟩
    obtain ⟨m1, h1, e1, n1, ve1, rfl, o1⟩ := hw
    cases k with
    | zero =>
      simp only [forM] at o1
      split at o1
      · rename_i hend
        exact .inl ⟨j.stop m1 h1 H n1 i hend, o1.fin n1.ok ve1⟩
      · exact (show False from o1).elim
    | succ k =>
      simp only [forM] at o1
      cases q : itemV s.1 i h1 with
      | ok x h2 =>
        rw [q] at o1
        obtain ⟨go, yl⟩ := j.go m1 h1 H n1 i x h2 q
        refine .inr ⟨go, fun σ' H' => ∃ m h e, Nx F m0 h0 m h H' ∧ valE h.n e ∧ σ' = trE F m e ∧ OutS F m h (forM s.1 tgF sa k (i + 1) e h) (fun m' h' H' a e' => flD F D m' h' H' a e') (exW F W), fun σ' H' w => ⟨k, Nat.lt_succ_self _, w⟩, fun v H' y => ?_⟩
        obtain ⟨m2, n2, rfl, vx⟩ := yl v H' y
        have n02 := n1.trans n2
        have ve2 := ve1.mono n2.le
        have o2 : OutS F m1 h1 ((tgF x e1 h2).thenS e1 _) _ _ := o1
        refine ⟨m2, h2, e1, x, n2.ok, ve2, vx, (n2.trE ve1).symm, rfl, ((o2.later n2).thenS ve2).mono (fun m3 h3 H3 e3 n3 o3 ve3 => ?_) fun _ _ w => by rw [n2.trE ve1] at w; exact w⟩
        have n03 := n02.trans n3
        refine ⟨m3, h3, e3, n3.ok, ve3, rfl, o3.bind.mono fun m4 h4 H4 f e4 n4 o4 ve4 => ?_⟩
        have n04 := n03.trans n4
        cases f with
        | nx => exact ⟨m4, h4, e4, n04, ve4, rfl, o4⟩
        | ct => exact ⟨m4, h4, e4, n04, ve4, rfl, o4⟩
        | bk => exact o4.fin n4.ok ve4
        | rt v => exact o4.fin n4.ok ve4
      | ex c h2 => exact (itemV_nex q).elim
      | no => rw [q] at o1; exact (show False from o1).elim
end
end MP

end
section
set_option linter.all false
set_option maxRecDepth 100000
/-! MPChk: the own syntax against the given syntax. -/
namespace MP
open PySem L2

/-- what holds through a whole text -/
structure Gc where
  fns : List Str
  clsn : List Str
  gcs : List (Str × OV)
  flds : List Str
  cis : List CI
  mth : List (Nat × Nat × Str)
/-- what holds in one block -/
structure Cc where
  N : List Str
  sc : Scope
  bk : Option Scope
inductive Qy where
  | e (x : Expr) | as (xs : List Expr) | o (x : Option Expr) | it (tg x : Expr) | g (x : Expr) | gs (xs : List Expr) | s (x : Stmt) | ss (xs : List Stmt)
def lookS (l : List (Str × NameKind)) (x : Str) : Option NameKind :=
  match l with
  | [] => none
  | (y, k) :: r => bif strEq x y then some k else lookS r x
theorem lookS_eq (l : List (Str × NameKind)) (x : Str) : lookS l x = l.lookup x := by
  induction l with
  | nil => rfl
  | cons p r ih =>
    obtain ⟨y, k⟩ := p
    rw [List.lookup_cons, lookS, ih, strEq_beq]
    cases x == y <;> rfl
def isGl : Option NameKind → Bool
  | some .globalImplicit => true
  | _ => false
def isVis : Option NameKind → Bool
  | some .local => true
  | some .cell => true
  | some .free => true
  | _ => false
def isLoc : Option NameKind → Bool
  | some .local => true
  | some .cell => true
  | _ => false
def isL : Option NameKind → Bool
  | some .local => true
  | _ => false
def isC : Option NameKind → Bool
  | some .cell => true
  | _ => false
def nodbg (x : Str) : Bool := !(strEq x "__debug__") && !(strEq x "__classdict__")
def Cc.glob (C : Cc) (x : Str) : Bool := isGl (lookS C.sc.names x) && nodbg x
def Cc.var (C : Cc) (i : Nat) (x : Str) : Bool := (match C.N[i]? with | some z => strEq z x | none => false) && isVis (lookS C.sc.names x) && nodbg x
def Cc.fnb (C : Cc) (x : Str) : Bool := match C.bk with | none => true | some s => isC (lookS s.names x)
def Cc.store (C : Cc) (i : Nat) (x : Str) : Bool := (match C.N[i]? with | some z => strEq z x | none => false) && isLoc (lookS C.sc.names x) && (C.fnb x || isL (lookS C.sc.names x))
def Cc.into (C : Cc) (scope : Scope) : Cc := ⟨C.N, L2.relS scope C.sc, some scope⟩
def hasS (l : List Str) (x : Str) : Bool := l.any (strEq x)
def atS (l : List Str) (i : Nat) (x : Str) : Bool := match l[i]? with | some y => strEq x y | none => false
def ownP (N : List Str) (own : List Nat) : List (Str × Nat) := own.map fun i => (N.getD i Str.empty, i)
def ciIs (G : Gc) (c : CI) (x : Str) : Bool :=
  match c with
  | .str => strEq x "str" | .lst => strEq x "list" | .tup => strEq x "tuple" | .int => strEq x "int" | .bool => strEq x "bool"
  | .own d => atS G.clsn d x
def isIkv : A → Bool
  | .ikv _ => true
  | _ => false
/-- a target's slots are among own -/
def tgIn (own : List Nat) : A → Bool
  | .tn i => own.contains i
  | .tt _ ts => tgIn own ts
  | .nil => true
  | .cons a b => tgIn own a && tgIn own b
  | _ => false
def isName : Expr → Bool
  | .Name .. => true
  | _ => false
/-- no exchange of the stores -/
def noSwap (x a : Expr) (C : Cc) : Bool :=
  match x, a with
  | .Name y _, .ListComp .. => !(isL (lookS C.sc.names y))
  | _, .ListComp .. => false
  | _, .SetComp .. => false
  | _, .DictComp .. => false
  | _, _ => true
/-- the comprehension's list goes to the name itself -/
def doSwap (x a : Expr) (C : Cc) : Bool :=
  match x, a with
  | .Name y py, .ListComp _ _ sc pos => isL (lookS C.sc.names y) && (py.line == pos.line) && !(sc.names.any fun (n, k) => n == y && (k == .local || k == .cell))
  | _, _ => false
def unTup : Expr → Bool
  | .Tuple .. => false
  | _ => true
def unattr : Expr → Bool
  | .Attribute .. => false
  | _ => true
abbrev Ck := Cc → Qy → Bool
def kE (f : Cc → Expr → Bool) : Ck := fun C q => match q with | .e x => f C x | .o (some x) => f C x | _ => false
def cNon : Ck := kE fun _ x => match x with | .Constant .none _ _ => true | _ => false
def cBl (b : Bool) : Ck := kE fun _ x => match x with | .Constant (.bool c) _ _ => b == c | _ => false
def cInt (i : Int) : Ck := kE fun _ x => match x with | .Constant (.int j) _ _ => decide (i = j) | _ => false
def cStr (z : Str) : Ck := kE fun _ x => match x with | .Constant (.str y) _ _ => strEq z y | _ => false
def cVar (i : Nat) : Ck := kE fun C x => match x with | .Name y _ => C.var i y | _ => false
def cGc (G : Gc) (z : Str) (v : OV) : Ck := kE fun C x => match x with | .Name y _ => strEq z y && C.glob y && G.gcs.any fun p => strEq p.1 z && decide (p.2 = v) | _ => false
def cBin (op : BOp) (a b : Ck) : Ck := kE fun C x => match x with | .BinOp x o y _ => decide (o = opP op) && a C (.e x) && b C (.e y) | _ => false
def cNeg (a : Ck) : Ck := kE fun C x => match x with | .UnaryOp .USub x _ => a C (.e x) | _ => false
def cNot (a : Ck) : Ck := kE fun C x => match x with | .UnaryOp .Not x _ => a C (.e x) | _ => false
def cCmp (op : COp) (a b : Ck) : Ck := kE fun C x => match x with | .Compare x [o] [y] _ => decide (o = cmpP op) && unset y && a C (.e x) && b C (.e y) | _ => false
def cChain (o1 o2 : COp) (a b c : Ck) : Ck := kE fun C x => match x with
  | .Compare x [p1, p2] [y, z] _ => decide (p1 = cmpP o1) && decide (p2 = cmpP o2) && unset z && a C (.e x) && b C (.e y) && c C (.e z) | _ => false
def boolT (op : BoolOp) (y : Expr) (r : List Expr) (p : Pos) : Expr := match r with | [] => y | _ :: _ => .BoolOp op (y :: r) p
def cAnd (a b : Ck) : Ck := kE fun C x => match x with | .BoolOp .And (x :: y :: r) p => a C (.e x) && b C (.e (boolT .And y r p)) | _ => false
def cOr (a b : Ck) : Ck := kE fun C x => match x with | .BoolOp .Or (x :: y :: r) p => a C (.e x) && b C (.e (boolT .Or y r p)) | _ => false
def cIfe (t a b : Ck) : Ck := kE fun C x => match x with | .IfExp x y z _ => t C (.e x) && a C (.e y) && b C (.e z) | _ => false
def cLst (es : Ck) : Ck := kE fun C x => match x with | .List xs _ => es C (.as xs) | _ => false
def cTup (es : Ck) : Ck := kE fun C x => match x with | .Tuple xs _ _ => es C (.as xs) | _ => false
def cIx (a b : Ck) : Ck := kE fun C x => match x with | .Subscript x y _ => unsl y && a C (.e x) && b C (.e y) | _ => false
def cSl (a lo hi : Ck) : Ck := kE fun C x => match x with | .Subscript x (.Slice l u none _) _ => a C (.e x) && lo C (.o l) && hi C (.o u) | _ => false
def cRev (a : Ck) : Ck := kE fun C x => match x with | .Subscript x (.Slice none none (some (.UnaryOp .USub (.Constant (.int i) _ _) _)) _) _ => decide (i = 1) && a C (.e x) | _ => false
def cFld (G : Gc) (a : Ck) (f : Str) : Ck := kE fun C x => match x with | .Attribute x g _ => strEq f g && hasS G.flds g && unsup x && a C (.e x) | _ => false
def cCall (G : Gc) (f : Nat) (es : Ck) : Ck := kE fun C x => match x with | .Call (.Name x _) args [] _ => atS G.fns f x && !(strEq x Str.empty) && C.glob x && args.all unstar && es C (.as args) | _ => false
def cMake (T : Tb) (G : Gc) (c : Nat) (es : Ck) : Ck := kE fun C x => match x with | .Call (.Name x _) args [] _ => atS G.clsn c x && okC T c && C.glob x && args.all unstar && es C (.as args) | _ => false
def mthHas (G : Gc) (m : Str) (p : Nat × Nat) : Bool := G.mth.any fun q => Nat.beq q.1 p.1 && Nat.beq q.2.1 p.2 && strEq q.2.2 m
def cMeth (G : Gc) (a : Ck) (ms : List (Nat × Nat)) (m : Str) (es : Ck) : Ck := kE fun C x => match x with
  | .Call (.Attribute x g ap) args [] cp => strEq m g && unsup x && (ap.endLine == cp.line) && decide (args.length < 20) && !ms.isEmpty && ms.all (mthHas G m) && args.all unstar && a C (.e x) && es C (.as args) | _ => false
def cBf (b : BF) (es : Ck) : Ck := kE fun C x => match x with | .Call (.Name x _) (y :: r) [] _ => strEq x (bfName b) && C.glob x && (y :: r).all unstar && es C (.as (y :: r)) | _ => false
def cBm (a : Ck) (m : BM) (es : Ck) : Ck := kE fun C x => match x with
  | .Call (.Attribute x g ap) args [] cp => strEq g (bmName m) && unsup x && (ap.endLine == cp.line) && decide (args.length < 20) && args.all unstar && a C (.e x) && es C (.as args) | _ => false
def cIsi (G : Gc) (a : Ck) (c : CI) : Ck := kE fun C x => match x with
  | .Call (.Name i _) [x, .Name y _] [] _ => strEq i "isinstance" && C.glob i && ciIs G c y && C.glob y && G.cis.any (fun d => decide (d = c)) && unstar x && a C (.e x) | _ => false
def cSset (f0 : Str) (a : Ck) : Ck := kE fun C x => match x with
  | .Call (.Name f _) [.Call (.Name g _) [y] [] _] [] _ => strEq f f0 && strEq g "set" && C.glob f && C.glob g && unstar y && a C (.e y) | _ => false
def cDct (ks : List Str) (ea : A) : Ck := kE fun _ x => match x with | .Dict [] [] _ => ks.isEmpty && (match ea with | .nil => true | _ => false) | _ => false
def cComp (ta ca : A) (e t it c : Ck) (own : List Nat) : Ck := kE fun C x => match x with
  | .ListComp elt [⟨tg, iter, ifs, 0⟩] scope _ =>
    L2.blkC C.N C.sc scope (ownP C.N own) && unset iter && unattr tg && tgIn own ta && it C (.it tg iter) && t (C.into scope) (.g tg) && e (C.into scope) (.e elt) &&
      (match ifs with | [] => (match ca with | .nil => true | _ => false) | [i] => c (C.into scope) (.e i) | _ => false)
  | _ => false
def cNil : Ck := fun _ q => match q with | .as [] => true | .o none => true | .gs [] => true | _ => false
def cCons (a b : Ck) : Ck := fun C q => match q with
  | .as (x :: r) => unstar x && a C (.e x) && b C (.as r)
  | .gs (x :: r) => unstar x && unattr x && a C (.g x) && b C (.gs r)
  | _ => false
def cIex (a : Ck) : Ck := fun C q => match q with | .it _ x => a C (.e x) | _ => false
def cIkv (i : Nat) : Ck := fun C q => match q with | .it _ (.Name y _) => C.var i y | _ => false
def cIr1 (a : Ck) : Ck := fun C q => match q with | .it _ (.Call (.Name r _) [x] [] _) => strEq r "range" && C.glob r && unstar x && a C (.e x) | _ => false
def cIr2 (a b : Ck) : Ck := fun C q => match q with | .it _ (.Call (.Name r _) [x, y] [] _) => strEq r "range" && C.glob r && unstar x && unstar y && a C (.e x) && b C (.e y) | _ => false
def cIen (a : Ck) : Ck := fun C q => match q with | .it (.Tuple _ _ _) (.Call (.Name r _) [x] [] _) => strEq r "enumerate" && C.glob r && unstar x && a C (.e x) | _ => false
def cIzp (a b : Ck) : Ck := fun C q => match q with | .it (.Tuple _ _ _) (.Call (.Name r _) [x, y] [] _) => strEq r "zip" && C.glob r && unstar x && unstar y && a C (.e x) && b C (.e y) | _ => false
def cTn (i : Nat) : Ck := fun C q => match q with | .g (.Name y _) => C.store i y | _ => false
def cTt (n : Nat) (ts : Ck) : Ck := fun C q => match q with | .g (.Tuple xs _ _) => decide (xs.length = n) && xs.all unstar && ts C (.gs xs) | _ => false
def cTf (G : Gc) (a : Ck) (f : Str) : Ck := fun C q => match q with | .g (.Attribute x g _) => strEq f g && hasS G.flds g && a C (.e x) | _ => false
def cTs (a i : Ck) : Ck := fun C q => match q with | .g (.Subscript x y _) => unsl y && a C (.e x) && i C (.e y) | _ => false
def cSex (a : Ck) : Ck := fun C q => match q with | .s (.Expr x _) => uncomp x && a C (.e x) | _ => false
/-- which targets take which values -/
def sasOk (C : Cc) (x y : Expr) : Bool :=
  match x with
  | .Name _ _ => noSwap x y C || doSwap x y C
  | .Tuple ts _ _ => (match y with | .Tuple vs _ _ => vs.all (foldedForSure 8) || ts.any (fun t => !isName t) | _ => true)
  | .Subscript _ _ _ => true
  | .Attribute _ _ _ => true
  | _ => false
def cSas (t e : Ck) : Ck := fun C q => match q with | .s (.Assign [x] y _) => sasOk C x y && t C (.g x) && e C (.e y) | _ => false
def parOk (C : Cc) (i : Nat) (x : Str) : Bool := (match C.N[i]? with | some z => strEq z x | none => false) && isL (lookS C.sc.names x)
def cSpar (is : List Nat) (es : Ck) : Ck := fun C q => match q with
  | .s (.Assign [.Tuple [.Name x px, .Name y py] _ _] (.Tuple [a, b] _ _) _) =>
    (match is with
      | [i, j] => parOk C i x && parOk C j y && !(Nat.beq i j) && (py.line == px.line) && !(strEq y x) && unstar a && unstar b && !([a, b].all (foldedForSure 8)) && !([a, b].all (constantsAlone 8)) && es C (.as [a, b])
      | _ => false)
  | .s (.Assign [.Tuple [.Name x px, .Name y py, .Name z pz] _ _] (.Tuple [a, b, c] _ _) _) =>
    (match is with
      | [i, j, l] => parOk C i x && parOk C j y && parOk C l z && !(Nat.beq i j) && !(Nat.beq i l) && !(Nat.beq j l) && (py.line == px.line) && (pz.line == px.line) && !(strEq y x) && !(strEq z x) && !(strEq z y) &&
          unstar a && unstar b && unstar c && !([a, b, c].all (foldedForSure 8)) && !([a, b, c].all (constantsAlone 8)) && es C (.as [a, b, c])
      | _ => false)
  | _ => false
def cAug (i : Nat) (a : Ck) : Ck := fun C q => match q with | .s (.AugAssign (.Name y _) .Add x _) => C.store i y && a C (.e x) | _ => false
def cRet (a : Ck) : Ck := fun C q => match q with | .s (.Return (some x) _) => a C (.e x) | _ => false
def cRetn : Ck := fun _ q => match q with | .s (.Return none _) => true | _ => false
def cSif (c a b : Ck) : Ck := fun C q => match q with | .s (.If x y z _) => c C (.e x) && a C (.ss y) && b C (.ss z) | _ => false
def cSwh (c b : Ck) : Ck := fun C q => match q with | .s (.While x y [] _) => C.bk.isNone && c C (.e x) && b C (.ss y) | _ => false
def cSfor (ia : A) (t it b : Ck) : Ck := fun C q => match q with | .s (.For x y z [] _) => C.bk.isNone && !(isIkv ia) && unset y && unattr x && t C (.g x) && it C (.it x y) && b C (.ss z) | _ => false
def cSpass : Ck := fun _ q => match q with | .s (.Pass _) => true | _ => false
def cScont : Ck := fun _ q => match q with | .s (.Continue _) => true | _ => false
def cSbrk : Ck := fun _ q => match q with | .s (.Break _) => true | _ => false
def cSnil : Ck := fun _ q => match q with | .ss [] => true | _ => false
def cScons (a b : Ck) : Ck := fun C q => match q with | .ss (x :: r) => a C (.s x) && b C (.ss r) | _ => false
def cNo : Ck := fun _ _ => false
/-- a statement that is never come to -/
def cSno : Ck := fun _ q => match q with | .s _ => true | _ => false
/-- an expression with a mark -/
def cAnn (a : Ck) : Ck := fun C q => match q with | .e x => a C (.e x) | .o (some x) => a C (.o (some x)) | _ => false
noncomputable def chk (T : Tb) (G : Gc) (a : A) : Ck :=
  A.rec (motive := fun _ => Ck) cNon (fun b => cBl b) (fun i => cInt i) (fun x => cStr x) (fun i => cVar i) (fun x v => cGc G x v)
    (fun op _ _ a b => cBin op a b) (fun _ a => cNeg a) (fun _ a => cNot a) (fun op _ _ a b => cCmp op a b) (fun o1 o2 _ _ _ a b c => cChain o1 o2 a b c)
    (fun _ _ a b => cAnd a b) (fun _ _ a b => cOr a b) (fun _ _ _ t a b => cIfe t a b) (fun _ es => cLst es) (fun _ es => cTup es) (fun ks es _ => cDct ks es)
    (fun _ _ a b => cIx a b) (fun _ _ _ a lo hi => cSl a lo hi) (fun _ a => cRev a) (fun _ f a => cFld G a f)
    (fun f _ es => cCall G f es) (fun c _ es => cMake T G c es) (fun _ ms m _ a es => cMeth G a ms m es) (fun b _ es => cBf b es) (fun _ m _ a es => cBm a m es)
    (fun _ c a => cIsi G a c) (fun _ a => cSset "sorted" a) (fun _ a => cSset "len" a) (fun _ t _ c own ek tk ik ck => cComp t c ek tk ik ck own)
    cNil (fun _ _ a b => cCons a b) (fun _ a => cIex a) (fun i => cIkv i) (fun _ a => cIr1 a) (fun _ _ a b => cIr2 a b) (fun _ a => cIen a) (fun _ _ a b => cIzp a b)
    (fun i => cTn i) (fun n _ ts => cTt n ts) (fun _ f a => cTf G a f) (fun _ _ a i => cTs a i)
    (fun _ a => cSex a) (fun _ _ t e => cSas t e) (fun is _ es => cSpar is es) (fun i _ a => cAug i a) (fun _ a => cRet a) cRetn
    (fun _ _ _ c a b => cSif c a b) (fun _ _ c b => cSwh c b) (fun _ i _ t it b => cSfor i t it b) cSpass cScont cSbrk (fun _ => cNo) (fun _ _ _ _ _ => cNo)
    cSno cSnil (fun _ _ a b => cScons a b) (fun _ a => cAnn a) (fun _ a => cAnn a) a
end MP

end
section
set_option linter.all false
set_option maxRecDepth 100000
/-! MPSound: what the checker passes has its reading. -/
namespace MP
open PySem L2

def bnNames : List Str := ["len", "all", "any", "list", "dict", "max", "min", "sorted", "abs", "tuple", "str", "isinstance", "range", "enumerate", "zip", "int", "bool", "set"]
/-- the facts of the text -/
structure Gf (F : Fx) (T : Tb) (L k : Nat) (G : Gc) (P : Program) (w : World) (mg : Str → Option Value) (base : Heap) : Prop where
  bn : ∀ x ∈ bnNames, mg x = none
  fn : ∀ f x, G.fns[f]? = some x → x ≠ Str.empty → ∃ fa, mg x = some (.ref fa) ∧ Df F T P w mg base L k f fa
  mkc : ∀ c, okC T c = true → ∃ f fa, (T.clss[c]?).bind (·.init) = some f ∧ Mk F.K (F.ca c) fa ∧ Df F T P w mg base L k f fa
  cl : ∀ c x, G.clsn[c]? = some x → mg x = some (.ref (F.ca c))
  mt : ∀ c f m, (c, f, m) ∈ G.mth → ∃ fa, Cls F.K (F.ca c) ∧ Meth F.K (F.ca c) m fa ∧ Df F T P w mg base L k f fa
  fld : ∀ c f, okC T c = true → f ∈ G.flds → Cls F.K (F.ca c) ∧ NoAttr F.K (F.ca c) f
  ins : ∀ c, okC T c = true → InsOk F c
  kit : ∀ c ∈ G.cis, KitOk F T c
  gc : ∀ x v, (x, v) ∈ G.gcs → ∃ u, mg x = some u ∧ (∀ n, val n v) ∧ (∀ m, tr F m v = tr F Mp.zero v) ∧ RelV (tr F Mp.zero v) u
/-- a block's context is as the checker sees it -/
structure Good (F : Fx) (T : Tb) (L k : Nat) (G : Gc) (C : Cc) (X : Cx) (W : WX) : Prop where
  hK : X.K = F.K
  nd : X.N.Nodup
  hN : X.N = C.N
  sc : X.env.scope = C.sc
  calm : X.calm = true
  un : X.A.units + 64 < cLine
  tk : Takes X W
  own : C.bk.isNone = true → PassesOwn (model X.prog X.w) X.A X.env X.xe
  fn : ∀ x, C.fnb x = true → X.fn x = true
  room : Room (L + 1) X.A
  gf : Gf F T L k G X.prog X.w X.mg X.base
structure SE (F : Fx) (X : Cx) (W : WX) (d : Den) (x : Expr) : Prop where
  pe : PE X x (rdE F W d.ex)
  pt : PT X x (rdT F W d.ts)
  pw : ∀ op vs p, x = .BoolOp op vs p → PW X x (rdT F W d.ts)
  st : ∀ i y py spos, uncomp x = false → X.N[i]? = some y → X.env.scope.names.lookup y = some .local → swapsWith x (some (.Name y py)) spos.line X.env = pure true → PS X (.Assign [.Name y py] x spos) (tAsg (rdE F W d.ex) (gName i))
  po : PO X (some x) (rdO F W d.op)
structure SI (F : Fx) (X : Cx) (W : WX) (a : A) (d : Den) (tg x : Expr) : Prop where
  pi : isIkv a = false → PI X tg x (rdI F W d.it)
  nk : isIkv a = false → ∀ e h s h', d.it e h = .ok s h' → ownKeys s.1 = false
  ik : ∀ i, a = .ikv i → ∃ y p, x = .Name y p ∧ PE X x (rdE F W fun e h => R.of (getV e i) h)
def SQ (F : Fx) (X : Cx) (W : WX) (a : A) (d : Den) : Qy → Prop
  | .e x => SE F X W d x
  | .as xs => PA X xs (rdA F W d.xs) ∧ (xs = [] → d.xs = fun _ h => .ok [] h)
  | .o x => PO X x (rdO F W d.op)
  | .it tg x => SI F X W a d tg x
  | .g x => (unattr x = true → PG X x (rdG F W d.tg)) ∧ ((∃ y p, x = .Name y p) → ∃ i y p, x = .Name y p ∧ X.N[i]? = some y ∧ Loc X.env.scope y ∧ (X.fn y = true ∨ X.env.scope.names.lookup y = some .local) ∧ d.tg = fun v e h => .ok (e.set i (some v)) h) ∧
      (∀ o f p, x = .Attribute o f p → ∀ (y : Expr) (fa : En → OH → R OV) (pos : Pos), PE X y (rdE F W fa) → PS X (.Assign [x] y pos) (rdS F W (asgR fa d.tg)))
  | .gs xs => PGs X xs (rdGs F d.tgs)
  | .s x => PS X x (rdS F W d.st)
  | .ss xs => PSs X xs (rdS F W d.st)
section
variable {F : Fx} {T : Tb} {L k : Nat} {G : Gc} {C : Cc} {X : Cx} {W : WX}
theorem good_look (g : Good F T L k G C X W) (x : Str) : lookS C.sc.names x = X.env.scope.names.lookup x := by rw [lookS_eq, g.sc]
theorem isGl_is {o : Option NameKind} (h : isGl o = true) : o = some .globalImplicit := by
  cases o with
  | none => cases h
  | some k => cases k <;> first | rfl | cases h
theorem isL_is {o : Option NameKind} (h : isL o = true) : o = some .local := by
  cases o with
  | none => cases h
  | some k => cases k <;> first | rfl | cases h
theorem isC_is {o : Option NameKind} (h : isC o = true) : o = some .cell := by
  cases o with
  | none => cases h
  | some k => cases k <;> first | rfl | cases h
theorem nodbg_is {x : Str} (h : nodbg x = true) : (x == ("__debug__" : Str)) = false ∧ (x == ("__classdict__" : Str)) = false := by
  unfold nodbg at h
  simp only [Bool.and_eq_true, Bool.not_eq_true'] at h
  rw [← strEq_beq, ← strEq_beq]
  exact h
theorem glob_is (g : Good F T L k G C X W) {x : Str} (h : C.glob x = true) : Gl X x ∧ (x == ("__debug__" : Str)) = false := by
  unfold Cc.glob at h
  rw [Bool.and_eq_true] at h
  have z := isGl_is h.1
  rw [good_look g] at z
  exact ⟨z, (nodbg_is h.2).1⟩
theorem nth_is {l : List Str} {i : Nat} {x : Str} (h : (match l[i]? with | some z => strEq z x | none => false) = true) : l[i]? = some x := by
  cases q : l[i]? with
  | none => rw [q] at h; cases h
  | some z => rw [q] at h; rw [strEq_iff.mp h]
theorem var_is (g : Good F T L k G C X W) {i : Nat} {x : Str} {p : Pos} (h : C.var i x = true) : PE X (.Name x p) (rdE F W fun e h => R.of (getV e i) h) := by
  unfold Cc.var at h
  simp only [Bool.and_eq_true] at h
  obtain ⟨⟨h1, h2⟩, h3⟩ := h
  have v : Vis X.env.scope x := by
    rw [good_look g] at h2
    unfold Vis
    cases q : X.env.scope.names.lookup x with
    | none => rw [q] at h2; cases h2
    | some k => rw [q] at h2; cases k <;> first | exact .inl rfl | exact .inr (.inl rfl) | exact .inr (.inr rfl) | cases h2
  exact s_var (by rw [g.hN]; exact nth_is h1) v (nodbg_is h3).1 (nodbg_is h3).2
theorem store_is (g : Good F T L k G C X W) {i : Nat} {x : Str} (h : C.store i x = true) : X.N[i]? = some x ∧ Loc X.env.scope x ∧ (X.fn x = true ∨ X.env.scope.names.lookup x = some .local) := by
  unfold Cc.store at h
  simp only [Bool.and_eq_true, Bool.or_eq_true] at h
  obtain ⟨⟨h1, h2⟩, h3⟩ := h
  rw [good_look g] at h2 h3
  refine ⟨by rw [g.hN]; exact nth_is h1, ?_, h3.imp (fun q => g.fn x q) isL_is⟩
  unfold L2.Loc
  cases q : X.env.scope.names.lookup x with
  | none => rw [q] at h2; cases h2
  | some k => rw [q] at h2; cases k <;> first | exact .inl rfl | exact .inr rfl | cases h2
theorem plain_bool {x : Expr} (h : plainT x = true) {op vs p} (e : x = .BoolOp op vs p) : False := by subst e; cases h
/-- an expression whose test is its value's truth -/
theorem SE.plain {m : En → OH → R OV} {x : Expr} (g : Good F T L k G C X W) (h : PE X x (rdE F W m)) (hp : plainT x = true) (hu : uncomp x = true) : SE F X W (Den.E m) x :=
  ⟨h, t_truth g.hK h hp, fun _ _ _ e => (plain_bool hp e).elim, fun _ _ _ _ z => (by rw [hu] at z; cases z), o_some h⟩
theorem vac_t {x : Expr} : PT X x (rdT F W fun _ _ => .no) := ⟨fun _ _ _ _ _ _ hw => by
  obtain ⟨_, _, _, _, _, _, o⟩ := hw; exact (show False from o).elim⟩
theorem vac_o {x : Option Expr} : PO X x (rdO F W fun _ _ => .no) := ⟨fun _ _ _ _ _ _ hw => by
  obtain ⟨_, _, _, _, _, _, o⟩ := hw; exact (show False from o).elim⟩
/-- what an own piece's check gives -/
def Snd (F : Fx) (T : Tb) (L k : Nat) (G : Gc) (a : A) : Prop := ∀ C X W, Good F T L k G C X W → ∀ q, chk T G a C q = true → SQ F X W a (den T (callN T k) a) q
/-- an expression's piece -/
theorem snd_e {a : A} {f : Cc → Expr → Bool} (hc : chk T G a = kE f) (h : ∀ C X W, Good F T L k G C X W → ∀ x, f C x = true → SE F X W (den T (callN T k) a) x) : Snd F T L k G a := by
  intro C X W g q hq
  rw [hc] at hq
  cases q with
  | e x => exact h C X W g x hq
  | o x =>
    cases x with
    | none => cases hq
    | some x => exact (h C X W g x hq).po
  | _ => cases hq
theorem snd_no {a : A} (hc : chk T G a = cNo) : Snd F T L k G a := by
  intro C X W g q hq
  rw [hc] at hq
  cases hq
theorem mem_str {x : Str} {l : List Str} (h : hasS l x = true) : x ∈ l := by
  unfold hasS at h
  obtain ⟨y, hy, e⟩ := List.any_eq_true.mp h
  rw [strEq_iff.mp e]; exact hy

theorem q_non : Snd F T L k G .non := snd_e rfl fun C X W g x h => by
  split at h <;> first | (cases h; done) | exact .plain g s_non rfl rfl
theorem q_bl {b : Bool} : Snd F T L k G (.bl b) := snd_e rfl fun C X W g x h => by
  split at h
  · have e := beq_iff_eq.mp h
    subst e
    exact .plain g s_bl rfl rfl
  · cases h
theorem q_int {b : Int} : Snd F T L k G (.int b) := snd_e rfl fun C X W g x h => by
  split at h
  · have e := of_decide_eq_true h
    subst e
    exact .plain g s_int rfl rfl
  · cases h
theorem q_str {b : Str} : Snd F T L k G (.str b) := snd_e rfl fun C X W g x h => by
  split at h
  · have e := strEq_iff.mp h
    subst e
    exact .plain g s_str rfl rfl
  · cases h
theorem q_var {i : Nat} : Snd F T L k G (.var i) := snd_e rfl fun C X W g x h => by
  split at h
  · exact .plain g (var_is g h) rfl rfl
  · cases h
theorem q_gc {z : Str} {v : OV} : Snd F T L k G (.gc z v) := snd_e rfl fun C X W g x h => by
  split at h
  · simp only [Bool.and_eq_true] at h
    obtain ⟨⟨h1, h2⟩, h3⟩ := h
    have e := strEq_iff.mp h1
    subst e
    obtain ⟨p, hp, h4⟩ := List.any_eq_true.mp h3
    simp only [Bool.and_eq_true, decide_eq_true_eq] at h4
    obtain ⟨p1, p2⟩ := p
    have e1 := strEq_iff.mp h4.1
    have e2 := h4.2
    dsimp only at e1 e2
    subst e1 e2
    obtain ⟨u, a1, a2, a3, a4⟩ := g.gf.gc _ _ hp
    obtain ⟨b1, b2⟩ := glob_is g h2
    exact .plain g (s_gc b1 a1 a2 a3 a4 b2) rfl rfl
  · cases h
theorem q_bin {op : BOp} {a b : A} (sa : Snd F T L k G a) (sb : Snd F T L k G b) : Snd F T L k G (.bin op a b) := snd_e rfl fun C X W g x h => by
  split at h
  · simp only [Bool.and_eq_true, decide_eq_true_eq] at h
    obtain ⟨⟨rfl, h2⟩, h3⟩ := h
    have ha : SE F X W _ _ := sa C X W g _ h2
    have hb : SE F X W _ _ := sb C X W g _ h3
    refine .plain g (s_bin ?_ ha.pe hb.pe) rfl rfl
    cases op with
    | add => exact opr_add
    | sub => exact opr_sub
    | mul =>
      have e : (fun x y h => match x with | .str _ => R.no | _ => binV .mul x y h) = binV .mul := by
        funext x y h
        cases x <;> rfl
      exact e ▸ opr_mul
    | fdiv => exact opr_fdiv
    | mod => exact opr_mod
    | pow => exact opr_pow
  · cases h
theorem q_neg {a : A} (sa : Snd F T L k G a) : Snd F T L k G (.neg a) := snd_e rfl fun C X W g x h => by
  split at h
  · have ha : SE F X W _ _ := sa C X W g _ h
    exact .plain g (s_neg ha.pe) rfl rfl
  · cases h
theorem q_not {a : A} (sa : Snd F T L k G a) : Snd F T L k G (.not a) := snd_e rfl fun C X W g x h => by
  split at h
  · have ha : SE F X W _ _ := sa C X W g _ h
    exact ⟨s_not ha.pe, t_not ha.pt, fun _ _ _ e => (nomatch e), fun _ _ _ _ z => (by cases z), vac_o⟩
  · cases h
theorem unset_marks {op : CmpOp} {y : Expr} (h : unset y = true) : behindInMarks op y = false := by
  cases y with
  | Set => cases h
  | _ => rfl
theorem q_cmp {op : COp} {a b : A} (sa : Snd F T L k G a) (sb : Snd F T L k G b) : Snd F T L k G (.cmp op a b) := snd_e rfl fun C X W g x h => by
  split at h
  · simp only [Bool.and_eq_true, decide_eq_true_eq] at h
    obtain ⟨⟨⟨rfl, h1⟩, h2⟩, h3⟩ := h
    have ha : SE F X W _ _ := sa C X W g _ h2
    have hb : SE F X W _ _ := sb C X W g _ h3
    have o := opr_cmp (F := F) g.hK g.un op
    have pe := s_cmp (pos := ‹Pos›) o ha.pe hb.pe (unset_marks h1)
    exact ⟨pe, t_cmp o ha.pe hb.pe (unset_marks h1), fun _ _ _ e => (nomatch e), fun _ _ _ _ z => (by cases z), o_some pe⟩
  · cases h
theorem q_chain {p1 p2 : COp} {a b c : A} (sa : Snd F T L k G a) (sb : Snd F T L k G b) (sc : Snd F T L k G c) : Snd F T L k G (.chain p1 p2 a b c) := snd_e rfl fun C X W g x h => by
  split at h
  · simp only [Bool.and_eq_true, decide_eq_true_eq] at h
    obtain ⟨⟨⟨⟨⟨rfl, rfl⟩, h1⟩, h2⟩, h3⟩, h4⟩ := h
    have ha : SE F X W _ _ := sa C X W g _ h2
    have hb : SE F X W _ _ := sb C X W g _ h3
    have hc : SE F X W _ _ := sc C X W g _ h4
    have lm : ∀ y z, unset z = true → lastMarks [cmpP p1, cmpP p2] [y, z] = false := fun y z h => by
      cases z with
      | Set => cases h
      | _ => rfl
    have pe := s_chain (pos := ‹Pos›) (opr_cmp (F := F) g.hK g.un p1) (opr_cmp (F := F) g.hK g.un p2) ha.pe hb.pe hc.pe (lm _ _ h1)
    exact ⟨pe, t_chain (opr_cmp (F := F) g.hK g.un p1) (opr_cmp (F := F) g.hK g.un p2) ha.pe hb.pe hc.pe (lm _ _ h1), fun _ _ _ e => (nomatch e), fun _ _ _ _ z => (by cases z), o_some pe⟩
  · cases h
theorem boolT_e {op : BoolOp} {y : Expr} {r : List Expr} {p : Pos} {d : Den} (s : SE F X W d (boolT op y r p)) : PE X (.BoolOp op (y :: r) p) (rdE F W d.ex) ∧ PW X (.BoolOp op (y :: r) p) (rdT F W d.ts) := by
  cases r with
  | nil =>
    refine ⟨pe_one s.pe, ?_⟩
    cases op with
    | And => exact pw_and1 s.pt
    | Or => exact pw_or1 s.pt
  | cons z r => exact ⟨s.pe, s.pw _ _ _ rfl⟩
theorem q_and {a b : A} (sa : Snd F T L k G a) (sb : Snd F T L k G b) : Snd F T L k G (.and a b) := snd_e rfl fun C X W g x h => by
  split at h
  · simp only [Bool.and_eq_true] at h
    have ha : SE F X W _ _ := sa C X W g _ h.1
    obtain ⟨b1, b2⟩ := boolT_e (sb C X W g _ h.2)
    have w := w_and ha.pt b2
    exact ⟨s_and ha.pe b1, w.pt, fun _ _ _ e => w, fun _ _ _ _ z => (by cases z), vac_o⟩
  · cases h
theorem q_or {a b : A} (sa : Snd F T L k G a) (sb : Snd F T L k G b) : Snd F T L k G (.or a b) := snd_e rfl fun C X W g x h => by
  split at h
  · simp only [Bool.and_eq_true] at h
    have ha : SE F X W _ _ := sa C X W g _ h.1
    obtain ⟨b1, b2⟩ := boolT_e (sb C X W g _ h.2)
    have w := w_or ha.pt b2
    exact ⟨s_or ha.pe b1, w.pt, fun _ _ _ e => w, fun _ _ _ _ z => (by cases z), vac_o⟩
  · cases h
theorem q_ife {t a b : A} (st : Snd F T L k G t) (sa : Snd F T L k G a) (sb : Snd F T L k G b) : Snd F T L k G (.ife t a b) := snd_e rfl fun C X W g x h => by
  split at h
  · simp only [Bool.and_eq_true] at h
    have ht : SE F X W _ _ := st C X W g _ h.1.1
    have ha : SE F X W _ _ := sa C X W g _ h.1.2
    have hb : SE F X W _ _ := sb C X W g _ h.2
    exact ⟨s_ife ht.pt ha.pe hb.pe, vac_t, fun _ _ _ e => (nomatch e), fun _ _ _ _ z => (by cases z), vac_o⟩
  · cases h
theorem q_lst {es : A} (s : Snd F T L k G es) : Snd F T L k G (.lst es) := snd_e rfl fun C X W g x h => by
  split at h
  · exact .plain g (s_lst (s C X W g _ h).1) rfl rfl
  · cases h
theorem q_tup {es : A} (s : Snd F T L k G es) : Snd F T L k G (.tup es) := snd_e rfl fun C X W g x h => by
  split at h
  · exact .plain g (s_tup (s C X W g _ h).1) rfl rfl
  · cases h
theorem q_ix {a b : A} (sa : Snd F T L k G a) (sb : Snd F T L k G b) : Snd F T L k G (.ix a b) := snd_e rfl fun C X W g x h => by
  split at h
  · simp only [Bool.and_eq_true] at h
    have ha : SE F X W _ _ := sa C X W g _ h.1.2
    have hb : SE F X W _ _ := sb C X W g _ h.2
    exact .plain g (s_ix (ixr g.hK g.un) ha.pe hb.pe h.1.1) rfl rfl
  · cases h
theorem q_sl {a lo hi : A} (sa : Snd F T L k G a) (sl : Snd F T L k G lo) (sh : Snd F T L k G hi) : Snd F T L k G (.sl a lo hi) := snd_e rfl fun C X W g x h => by
  split at h
  · simp only [Bool.and_eq_true] at h
    have ha : SE F X W _ _ := sa C X W g _ h.1.1
    exact .plain g (s_sl (slr g.hK) ha.pe (sl C X W g _ h.1.2) (sh C X W g _ h.2)) rfl rfl
  · cases h
theorem q_rev {a : A} (sa : Snd F T L k G a) : Snd F T L k G (.rev a) := snd_e rfl fun C X W g x h => by
  split at h
  · simp only [Bool.and_eq_true, decide_eq_true_eq] at h
    obtain ⟨rfl, h2⟩ := h
    have ha : SE F X W _ _ := sa C X W g _ h2
    exact .plain g (s_rev g.hK ha.pe) rfl rfl
  · cases h
theorem q_fld {a : A} {f : Str} (sa : Snd F T L k G a) : Snd F T L k G (.fld a f) := snd_e rfl fun C X W g x h => by
  split at h
  · simp only [Bool.and_eq_true] at h
    obtain ⟨⟨⟨h1, h2⟩, h3⟩, h4⟩ := h
    have e := strEq_iff.mp h1
    subst e
    have ha : SE F X W _ _ := sa C X W g _ h4
    exact .plain g (s_fld g.hK (fun c hc => g.gf.fld c _ hc (mem_str h2)) ha.pe h3) rfl rfl
  · cases h
theorem atS_is {l : List Str} {i : Nat} {x : Str} (h : atS l i x = true) : l[i]? = some x := by
  unfold atS at h
  cases q : l[i]? with
  | none => rw [q] at h; cases h
  | some z => rw [q] at h; rw [strEq_iff.mp h]
theorem q_call {f : Nat} {es : A} (s : Snd F T L k G es) : Snd F T L k G (.call f es) := snd_e rfl fun C X W g x h => by
  split at h
  · simp only [Bool.and_eq_true, Bool.not_eq_true'] at h
    obtain ⟨⟨⟨⟨h1, h2⟩, h3⟩, h4⟩, h5⟩ := h
    obtain ⟨fa, m1, d⟩ := g.gf.fn f _ (atS_is h1) (ne_f h2)
    obtain ⟨b1, b2⟩ := glob_is g h3
    obtain ⟨a1, a2⟩ := s C X W g _ h5
    exact .plain g (s_call g.hK g.tk d (g.room.mono (Nat.le_succ _)) b1 m1 b2 a1 h4 a2) rfl rfl
  · cases h
theorem q_make {c : Nat} {es : A} (s : Snd F T L k G es) : Snd F T L k G (.make c es) := snd_e rfl fun C X W g x h => by
  split at h
  · simp only [Bool.and_eq_true] at h
    obtain ⟨⟨⟨⟨h1, h2⟩, h3⟩, h4⟩, h5⟩ := h
    obtain ⟨f, fa, e1, mk, d⟩ := g.gf.mkc c h2
    obtain ⟨b1, b2⟩ := glob_is g h3
    obtain ⟨a1, a2⟩ := s C X W g _ h5
    exact .plain g (s_make g.hK g.tk d g.room mk e1 b1 (g.gf.cl c _ (atS_is h1)) b2 a1 h4 a2) rfl rfl
  · cases h
theorem meth_ht {o : Expr} {ms : Str} {apos pos : Pos} {es : List Expr} {env : Env} (hb : attributeBase o ms env (eval o env) = eval o env) (hs : es.all unstar = true) (hn : es.length < 20) (hl : (apos.endLine == pos.line) = true) :
    eval (.Call (.Attribute o ms apos) es [] pos) env = (do
      let ov ← eval o env
      standAt apos.atName
      let (f, first) ← holding [ov] (getMethod ov ms (do return (← importBound o env).getD true))
      callWith pos f first (backTo pos (starEach es env)) (backToKw pos (keywordEach [] env))) := by
  have few : methodCallForm (es.length + ([] : List Keyword).length) (backTo pos (starEach es env)) (backToKw pos (keywordEach [] env)) = true := by
    unfold methodCallForm
    rw [unstars_all hs]
    show (true && true && decide (es.length + 0 + 0 < 30)) = true
    simp
    omega
  rw [arm_eval_Call, hb]
  unfold methodCall
  rw [few]
  have e1 : methodCallPos true o env apos pos = pure pos := by
    unfold methodCallPos
    rw [hl]
    rfl
  rw [e1]
  rfl
theorem q_meth {a : A} {ms : List (Nat × Nat)} {m : Str} {es : A} (sa : Snd F T L k G a) (s : Snd F T L k G es) : Snd F T L k G (.meth a ms m es) := snd_e rfl fun C X W g x h => by
  split at h
  · simp only [Bool.and_eq_true, decide_eq_true_eq, Bool.not_eq_true'] at h
    obtain ⟨⟨⟨⟨⟨⟨⟨⟨h1, h2⟩, hl⟩, hn⟩, h0⟩, h3⟩, h4⟩, h5⟩, h6⟩ := h
    have e := strEq_iff.mp h1
    subst e
    have ha : SE F X W _ _ := sa C X W g _ h5
    obtain ⟨a1, a2⟩ := s C X W g _ h6
    refine .plain g (s_meths (by intro z; rw [z] at h0; cases h0) fun p hp => ?_) rfl rfl
    have h3 := List.all_eq_true.mp h3 p hp
    obtain ⟨q, hq, h7⟩ := List.any_eq_true.mp h3
    obtain ⟨p1, p2, p3⟩ := q
    simp only [Bool.and_eq_true] at h7
    have e1 : p1 = p.1 := Nat.eq_of_beq_eq_true h7.1.1
    have e2 : p2 = p.2 := Nat.eq_of_beq_eq_true h7.1.2
    have e3 := strEq_iff.mp h7.2
    subst e1 e2 e3
    obtain ⟨fa, cl, me, d⟩ := g.gf.mt _ _ _ hq
    exact s_meth g.hK g.tk d (g.room.mono (Nat.le_succ _)) cl me ha.pe a1 h4 a2 (meth_ht (unsup_is h2) h4 hn hl)
  · cases h
theorem q_bf {b : BF} {es : A} (s : Snd F T L k G es) : Snd F T L k G (.bf b es) := snd_e rfl fun C X W g x h => by
  split at h
  · simp only [Bool.and_eq_true] at h
    obtain ⟨⟨⟨h1, h2⟩, h3⟩, h4⟩ := h
    have e := strEq_iff.mp h1
    subst e
    refine .plain g (s_bf g.hK g.calm (glob_is g h2).1 (g.gf.bn _ ?_) (s C X W g _ h4).1 h3) rfl rfl
    cases b <;> decide
  · cases h
theorem q_bm {a : A} {m : BM} {es : A} (sa : Snd F T L k G a) (s : Snd F T L k G es) : Snd F T L k G (.bm a m es) := snd_e rfl fun C X W g x h => by
  split at h
  · simp only [Bool.and_eq_true, decide_eq_true_eq] at h
    obtain ⟨⟨⟨⟨⟨⟨h1, h2⟩, h3⟩, h4⟩, h5⟩, h6⟩, h7⟩ := h
    have e := strEq_iff.mp h1
    subst e
    have ha : SE F X W _ _ := sa C X W g _ h6
    obtain ⟨a1, a2⟩ := s C X W g _ h7
    exact .plain g (s_bm g.hK g.un ha.pe a1 h5 h2 h3 h4 a2) rfl rfl
  · cases h

theorem kitcn (g : Good F T L k G C X W) {c : CI} {y : Str} {p : Pos} (h1 : ciIs G c y = true) (h2 : C.glob y = true) : PE X (.Name y p) (tC (ciA F c)) := by
  obtain ⟨b1, b2⟩ := glob_is g h2
  cases c with
  | own d => exact pe_glob b1 (g.gf.cl d _ (atS_is h1)) rfl b2
  | str => have e := strEq_iff.mp h1; subst e; exact pe_bltn b1 (g.gf.bn _ (by decide)) rfl rfl
  | lst => have e := strEq_iff.mp h1; subst e; exact pe_bltn b1 (g.gf.bn _ (by decide)) rfl rfl
  | tup => have e := strEq_iff.mp h1; subst e; exact pe_bltn b1 (g.gf.bn _ (by decide)) rfl rfl
  | int => have e := strEq_iff.mp h1; subst e; exact pe_bltn b1 (g.gf.bn _ (by decide)) rfl rfl
  | bool => have e := strEq_iff.mp h1; subst e; exact pe_bltn b1 (g.gf.bn _ (by decide)) rfl rfl
theorem q_isi {a : A} {c : CI} (sa : Snd F T L k G a) : Snd F T L k G (.isi a c) := snd_e rfl fun C X W g x h => by
  split at h
  · simp only [Bool.and_eq_true] at h
    obtain ⟨⟨⟨⟨⟨⟨h1, h2⟩, h3⟩, h4⟩, h5⟩, h6⟩, h7⟩ := h
    have e := strEq_iff.mp h1
    subst e
    obtain ⟨d, hd, e⟩ := List.any_eq_true.mp h5
    have e := of_decide_eq_true e
    subst e
    have ha : SE F X W _ _ := sa C X W g _ h7
    exact .plain g (s_isi g.hK (g.gf.kit _ hd) g.gf.ins ha.pe (kitcn g h3 h4) h6 rfl (glob_is g h2).1 (g.gf.bn _ (by decide))) rfl rfl
  · cases h
/-! ### lists -/
theorem q_nil : Snd F T L k G .nil := fun C X W g q h => by
  cases q with
  | as xs =>
    cases xs with
    | nil => exact ⟨a_nil, fun _ => rfl⟩
    | cons => cases h
  | o x =>
    cases x with
    | none => exact o_none
    | some => cases h
  | gs xs =>
    cases xs with
    | nil => exact gs_nil
    | cons => cases h
  | _ => cases h
theorem rdG_no {f : OV → En → OH → R En} {x : Expr} (h : PG X x (rdG F W f)) : PG X x (rdG F noW f) := h.wk fun v σ H Q hw => by
  obtain ⟨m, h, e, y, ok, ve, vy, es, ev, o⟩ := hw
  exact ⟨m, h, e, y, ok, ve, vy, es, ev, o.mono (fun _ _ _ _ _ q => q) fun _ _ w => w.elim⟩
theorem q_cons {a b : A} (sa : Snd F T L k G a) (sb : Snd F T L k G b) : Snd F T L k G (.cons a b) := fun C X W g q h => by
  cases q with
  | as xs =>
    cases xs with
    | nil => cases h
    | cons x r =>
      have h : (unstar x && chk T G a C (.e x) && chk T G b C (.as r)) = true := h
      simp only [Bool.and_eq_true] at h
      have ha : SE F X W _ _ := sa C X W g _ h.1.2
      exact ⟨a_cons ha.pe (sb C X W g _ h.2).1 h.1.1, fun e => nomatch e⟩
  | gs xs =>
    cases xs with
    | nil => cases h
    | cons x r =>
      have h : (unstar x && unattr x && chk T G a C (.g x) && chk T G b C (.gs r)) = true := h
      simp only [Bool.and_eq_true] at h
      exact gs_cons (rdG_no ((sa C X W g _ h.1.2).1 h.1.1.2)) (sb C X W g _ h.2) h.1.1.1
  | _ => cases h

/-! ### iterables -/
theorem q_iex {a : A} (sa : Snd F T L k G a) : Snd F T L k G (.iex a) := fun C X W g q h => by
  cases q with
  | it tg x =>
    have ha : SE F X W _ _ := sa C X W g _ h
    refine ⟨fun _ => i_any g.hK ha.pe, fun _ e h s h' q => ?_, fun i e => nomatch e⟩
    obtain ⟨v, h2, q1, q2⟩ := bind_ok q
    cases q3 : srcV v h2 with
    | ok s' h3 => rw [q3] at q2; cases q2; exact src_nk q3
    | ex c h3 => rw [q3] at q2; cases q2
    | no => rw [q3] at q2; cases q2
  | _ => cases h
theorem q_ikv {i : Nat} : Snd F T L k G (.ikv i) := fun C X W g q h => by
  cases q with
  | it tg x =>
    cases x with
    | Name y p =>
      refine ⟨fun e => (nomatch e), fun e => (nomatch e), fun j e => ?_⟩
      cases e
      exact ⟨y, p, rfl, var_is g h⟩
    | _ => cases h
  | _ => cases h
theorem rng_nk {x : R (Src × Nat)} {s : Src × Nat} {h : OH} (h1 : ∀ s h, x = .ok s h → ownKeys s.1 = false) (e : noEx x = .ok s h) : ownKeys s.1 = false := by
  cases x with
  | ok a h2 => cases e; exact h1 _ _ rfl
  | ex c h2 => cases e
  | no => cases e
theorem ir1_nk {v : OV} {h h' : OH} {s : Src × Nat} (e : ir1V v h = .ok s h') : ownKeys s.1 = false := by
  cases v <;> simp only [ir1V] at e <;> first | (cases e; done) | (split at e <;> cases e; rfl)
theorem ir2_nk {v w : OV} {h h' : OH} {s : Src × Nat} (e : ir2V v w h = .ok s h') : ownKeys s.1 = false := by
  cases v <;> cases w <;> simp only [ir2V] at e <;> first | (cases e; done) | (split at e <;> cases e; rfl)
theorem ien_nk {v : OV} {h h' : OH} {s : Src × Nat} (e : ienV v h = .ok s h') : ownKeys s.1 = false := by
  cases v <;> simp only [ienV] at e <;> first | (cases e; done) | (split at e <;> cases e; rfl)
theorem izp_nk {v w : OV} {h h' : OH} {s : Src × Nat} (e : izpV v w h = .ok s h') : ownKeys s.1 = false := by
  cases v <;> cases w <;> simp only [izpV] at e <;> first | (cases e; done) | (split at e <;> cases e; rfl)
theorem q_ir1 {a : A} (sa : Snd F T L k G a) : Snd F T L k G (.ir1 a) := fun C X W g q h => by
  cases q with
  | it tg x =>
    have hh : (match Qy.it tg x with | .it _ (.Call (.Name r _) [x] [] _) => strEq r "range" && C.glob r && unstar x && chk T G a C (.e x) | _ => false) = true := h
    split at hh
    · rename_i q
      cases q
      simp only [Bool.and_eq_true] at hh
      obtain ⟨⟨⟨h1, h2⟩, h3⟩, h4⟩ := hh
      have e := strEq_iff.mp h1
      subst e
      have ha : SE F X W _ _ := sa C X W g _ h4
      refine ⟨fun _ => i_rng1 (glob_is g h2).1 (g.gf.bn _ (by decide)) ha.pe h3, fun _ e h s h' q => ?_, fun i e => nomatch e⟩
      obtain ⟨v, h2, q1, q2⟩ := bind_ok q
      exact rng_nk (fun _ _ => ir1_nk) q2
    · cases hh
  | _ => cases h
theorem q_ir2 {a b : A} (sa : Snd F T L k G a) (sb : Snd F T L k G b) : Snd F T L k G (.ir2 a b) := fun C X W g q h => by
  cases q with
  | it tg x =>
    have hh : (match Qy.it tg x with | .it _ (.Call (.Name r _) [x, y] [] _) => strEq r "range" && C.glob r && unstar x && unstar y && chk T G a C (.e x) && chk T G b C (.e y) | _ => false) = true := h
    split at hh
    · rename_i q
      cases q
      simp only [Bool.and_eq_true] at hh
      obtain ⟨⟨⟨⟨⟨h1, h2⟩, h3⟩, h4⟩, h5⟩, h6⟩ := hh
      have e := strEq_iff.mp h1
      subst e
      have ha : SE F X W _ _ := sa C X W g _ h5
      have hb : SE F X W _ _ := sb C X W g _ h6
      refine ⟨fun _ => i_rng2 (glob_is g h2).1 (g.gf.bn _ (by decide)) ha.pe hb.pe h3 h4, fun _ e h s h' q => ?_, fun i e => nomatch e⟩
      obtain ⟨v, h2, q1, q2⟩ := bind_ok q
      obtain ⟨w, h3, q3, q4⟩ := bind_ok q2
      exact rng_nk (fun _ _ => ir2_nk) q4
    · cases hh
  | _ => cases h
theorem q_ien {a : A} (sa : Snd F T L k G a) : Snd F T L k G (.ien a) := fun C X W g q h => by
  cases q with
  | it tg x =>
    have hh : (match Qy.it tg x with | .it (.Tuple _ _ _) (.Call (.Name r _) [x] [] _) => strEq r "enumerate" && C.glob r && unstar x && chk T G a C (.e x) | _ => false) = true := h
    split at hh
    · rename_i q
      cases q
      simp only [Bool.and_eq_true] at hh
      obtain ⟨⟨⟨h1, h2⟩, h3⟩, h4⟩ := hh
      have e := strEq_iff.mp h1
      subst e
      have ha : SE F X W _ _ := sa C X W g _ h4
      refine ⟨fun _ => i_enum g.hK (glob_is g h2).1 (g.gf.bn _ (by decide)) ha.pe h3, fun _ e h s h' q => ?_, fun i e => nomatch e⟩
      obtain ⟨v, h2, q1, q2⟩ := bind_ok q
      exact rng_nk (fun _ _ => ien_nk) q2
    · cases hh
  | _ => cases h
theorem q_izp {a b : A} (sa : Snd F T L k G a) (sb : Snd F T L k G b) : Snd F T L k G (.izp a b) := fun C X W g q h => by
  cases q with
  | it tg x =>
    have hh : (match Qy.it tg x with | .it (.Tuple _ _ _) (.Call (.Name r _) [x, y] [] _) => strEq r "zip" && C.glob r && unstar x && unstar y && chk T G a C (.e x) && chk T G b C (.e y) | _ => false) = true := h
    split at hh
    · rename_i q
      cases q
      simp only [Bool.and_eq_true] at hh
      obtain ⟨⟨⟨⟨⟨h1, h2⟩, h3⟩, h4⟩, h5⟩, h6⟩ := hh
      have e := strEq_iff.mp h1
      subst e
      have ha : SE F X W _ _ := sa C X W g _ h5
      have hb : SE F X W _ _ := sb C X W g _ h6
      refine ⟨fun _ => i_zip g.hK (glob_is g h2).1 (g.gf.bn _ (by decide)) ha.pe hb.pe h3 h4, fun _ e h s h' q => ?_, fun i e => nomatch e⟩
      obtain ⟨v, h2, q1, q2⟩ := bind_ok q
      obtain ⟨w, h3, q3, q4⟩ := bind_ok q2
      exact rng_nk (fun _ _ => izp_nk) q4
    · cases hh
  | _ => cases h
end
end MP

end
section
set_option linter.all false
set_option maxRecDepth 100000
/-! MPSet1: a set of texts grows. -/
namespace MP
open PySem PySem.Froz

def textV : Value → Str
  | .str k _ => k
  | _ => Str.empty
/-- the payload holds the texts l, each once, and its order is led or drawn -/
structure PayOk (P : Program) (w : World) (D : SD) (l : List Str) : Prop where
  tx : TxOk P w D l
  nd : l.Nodup
  ris : L2.Ris D.2.2.place.toList
  led : w.params.followText "set-order" = true ∨ D.2.2.led = true
  str : ∀ e ∈ D.1.toList, ∃ k tk, e.2 = Value.str k tk
  pm : (D.1.toList.map fun e => textV e.2).Perm l
section
variable {P : Program} {w : World} {A : Around} {E : Value → Shared → Prop} {s : Shared}
theorem tailTx_ris {ep : Nat} {es : Array (Int × Value)} {t : SetTable} {wd : Bool} (r : L2.Ris t.place.toList) : L2.Ris (tailTx ep es t wd).2.2.place.toList := by
  unfold tailTx
  by_cases c : (!wd && t.tooFull) = true
  · rw [if_pos c]; exact L2.relayAll_ris _ _ _
  · rw [if_neg c]; exact r
theorem tailTx_led {ep : Nat} {es : Array (Int × Value)} {t : SetTable} {wd : Bool} : (tailTx ep es t wd).2.2.led = t.led := by
  unfold tailTx
  by_cases c : (!wd && t.tooFull) = true
  · rw [if_pos c]; exact L2.relayAll_led _ _ _
  · rw [if_neg c]
theorem tailTx_perm {ep : Nat} {es : Array (Int × Value)} {t : SetTable} {wd : Bool} : (tailTx ep es t wd).1.toList.Perm es.toList := by
  unfold tailTx
  by_cases c : (!wd && t.tooFull) = true
  · rw [if_pos c]; exact relayAll_perm _ _ _
  · rw [if_neg c]
theorem addTx_ris {D : SD} {h : Int} {v : Value} (r : L2.Ris D.2.2.place.toList) : L2.Ris (addTx h v D).2.2.place.toList := by
  have r1 := L2.layNew_ris D.2.2 D.1 h v r
  unfold addTx
  refine tailTx_ris ?_
  by_cases c : (layNew D.2.2 D.1 h v).2.1.plain = true
  · rw [if_pos c]; exact r1
  · rw [if_neg c]; exact r1
theorem addTx_led {D : SD} {h : Int} {v : Value} : (addTx h v D).2.2.led = D.2.2.led := by
  have r1 := L2.layNew_led D.2.2 D.1 h v
  unfold addTx
  rw [tailTx_led]
  by_cases c : (layNew D.2.2 D.1 h v).2.1.plain = true
  · rw [if_pos c]; exact r1
  · rw [if_neg c]; exact r1
theorem addTx_perm {D : SD} {h : Int} {v : Value} : (addTx h v D).1.toList.Perm (D.1.toList ++ [(h, v)]) := by
  have p := layNew_perm D.2.2 D.1 h v
  rw [Array.toList_push] at p
  exact tailTx_perm.trans p
theorem PayOk.add {D : SD} {l : List Str} {k : Str} (u : Tok) (F : PayOk P w D l) (hk : k ∉ l) : PayOk P w (addTx (hashStr w k) (.str k u) D) (k :: l) := by
  refine ⟨add_ok u F.tx, List.nodup_cons.mpr ⟨hk, F.nd⟩, addTx_ris F.ris, by rw [addTx_led]; exact F.led, fun e he => ?_, ?_⟩
  · rcases List.mem_append.mp (addTx_perm.mem_iff.mp he) with q | q
    · exact F.str e q
    rw [List.mem_singleton] at q
    rw [q]
    exact ⟨k, u, rfl⟩
  · have p := (addTx_perm (D := D) (h := hashStr w k) (v := .str k u)).map fun e => textV e.2
    rw [List.map_append] at p
    refine p.trans ((F.pm.append_right _).trans ?_)
    exact List.perm_append_comm
theorem pay_dup {a : Addr} {T : String} {D : SD} {l : List Str} {k : Str} {u : Tok} {Q : Bool → Shared → Prop} (ho : s.heap.get? a = some (sObj T D)) (F : PayOk P w D l) (hk : k ∈ l) (hb : l.length < scanBound)
    (h : Q false s) : wpAny (model P w) A (setAddHashed a (.str k u) (hashStr w k)) Q E s := by
  rcases D with ⟨es, ep, t⟩
  rcases (F.tx.mem k).mp hk with ⟨old, there, same⟩
  have few : es.size < scanBound := by rw [show es.size = l.length from F.tx.sz]; exact hb
  delta setAddHashed setAddHashedIn
  apply wpAny_holding
  apply wpAny_bind
  apply wpAny_setState_of ho rfl F.tx.fit
  dsimp only
  rw [byScan_of rfl few F.tx.el, if_pos rfl]
  delta setAddByScan
  apply wpAny_bind
  apply wpAny_bind
  apply wpAny_rule
  apply wpAny_bind
  apply wpAny_setScan_of (knd := strKind P w) (k := k) (is_str k u) ho rfl F.tx.fit F.tx.el
  generalize found : List.findIdx? (fun e => (strKind P w).is k e.2) es.toList = r
  rcases r with _ | j
  · exact absurd same (by rw [List.findIdx?_eq_none_iff.mp found old there]; exact Bool.false_ne_true)
  · exact wpAny_pure (wpAny_pure h)
theorem pay_add {a : Addr} {D : SD} {l : List Str} {k : Str} {u : Tok} {Q : Bool → Shared → Prop} (ho : s.heap.get? a = some (sObj "set" D)) (F : PayOk P w D l) (hb : l.length + 1 < scanBound)
    (h : ∀ b h' D', Heap.SameBut a s.heap h' → h'.get? a = some (sObj "set" D') → PayOk P w D' (if k ∈ l then l else k :: l) → Q b { s with heap := h' }) : wpAny (model P w) A (setAddHashed a (.str k u) (hashStr w k)) Q E s := by
  by_cases hk : k ∈ l
  · refine pay_dup ho F hk (by omega) ?_
    exact h false s.heap D (Heap.SameBut.refl _ _) ho (by rw [if_pos hk]; exact F)
  · refine add_x ho F.tx hk hb ?_
    refine h true _ (addTx (hashStr w k) (.str k u) D) (Heap.SameBut.update _ _ _) (get_upd _ ho rfl) (by rw [if_neg hk]; exact F.add u hk)
end
end MP

end
section
set_option linter.all false
set_option maxRecDepth 100000
/-! MPSet2: set(list of texts), its members in a list. -/
namespace MP
open PySem PySem.Froz PyProof.Rows

/-- the texts, each once, as they come -/
def gather : List Str → List Str → List Str
  | l, [] => l
  | l, k :: r => gather (if k ∈ l then l else k :: l) r
theorem gather_snoc (r : List Str) : ∀ (l : List Str) (k : Str), gather l (r ++ [k]) = (if k ∈ gather l r then gather l r else k :: gather l r) := by
  induction r with
  | nil => intro l k; rfl
  | cons x r ih => intro l k; exact ih _ k
theorem gather_len (r : List Str) : ∀ l : List Str, (gather l r).length ≤ l.length + r.length := by
  induction r with
  | nil => intro l; exact Nat.le_refl _
  | cons x r ih =>
    intro l
    have q := ih (if x ∈ l then l else x :: l)
    show (gather (if x ∈ l then l else x :: l) r).length ≤ _
    rw [List.length_cons]
    by_cases c : x ∈ l
    · rw [if_pos c] at q ⊢; omega
    · rw [if_neg c] at q ⊢; rw [List.length_cons] at q; omega
section
variable {P : Program} {w : World} {A : Around} {E : Value → Shared → Prop} {s : Shared}
/-- one turn of the walk that fills a set: nothing is left, or one more comes in -/
theorem fill_turn {I S : Addr} {fp wr : List Addr} {G : Array GenState → Array GenState → Prop} {n i : Nat} {Pv : Nat → Value → Prop} {St : Nat → Shared → Prop} {R : Result → Shared → Prop}
    (W : WalksS P w A.in1 I fp wr G n Pv St) (st : St i s)
    (k : (i = n ∧ ∀ u, Moved wr G s u → R (.ok (.ret .none)) u) ∨
      (i < n ∧ ∀ v u, Pv i v → St (i + 1) u → Moved wr G s u → wpAny (model P w) A.in1 (holding [v] (setAdd S v)) (fun _ x => codeAny (model P w) A (.builtin "set.update.loop" ⟨[.ref S, .ref I], []⟩) R x) (fun e x => R (.error e) x) u)) :
    codeAny (model P w) A (.builtin "set.update.loop" ⟨[.ref S, .ref I], []⟩) R s := by
  apply codeAny_builtin F.entry_set_update_loop
  simp only [Around.under_plainId F.plain_set_update_loop]
  change wpAny _ _ (bind (pyNext (.ref I)) _) _ _ _
  apply wpAny_bind
  rcases k with ⟨rfl, k⟩ | ⟨lt, k⟩
  · exact W.done s _ _ st fun u m => wpAny_pure (k u m)
  · refine W.item i s _ _ lt st fun v u p su m => ?_
    exact wpAny_bind (wpAny_mono (k v u p su m) (fun _ x q => wpAny_pure ⟨plainId_quiet F.plain_set_update_loop _, q⟩) fun _ _ q => q)
/-- a text comes into a set of texts -/
theorem put_text {S : Addr} {D : SD} {l : List Str} {k : Str} {u : Tok} {Q : Bool → Shared → Prop} (hS : s.heap.get? S = some (sObj "set" D)) (F : PayOk P w D l) (hb : l.length + 1 < scanBound)
    (h : ∀ b h' tk D', Heap.SameBut S s.heap h' → h'.get? S = some (sObj "set" D') → PayOk P w D' (if k ∈ l then l else k :: l) → s.toks ≤ tk → Q b { s with heap := h', toks := tk }) : wpAny (model P w) A (holding [.str k u] (setAdd S (.str k u))) Q E s := by
  apply wpAny_holding
  simp only [setAdd]
  apply wpAny_holding
  apply wpAny_bind
  apply (strKind P w).pyHash (k := k) (strKind_is _ _ _ _)
  exact pay_add (s := { s with toks := s.toks + 1 }) hS F hb fun b h' D' sb g F' => h b h' (s.toks + 1) D' sb g F' (Nat.le_succ _)
/-- all that is walked comes in -/
theorem fill {I : Addr} {fp wr : List Addr} {G : Array GenState → Array GenState → Prop} {Pv : Nat → Value → Prop} {St : Nat → Shared → Prop} {R : Result → Shared → Prop} {xs : List Str}
    (W : WalksS P w A.in1 I fp wr G xs.length Pv St) {S : Addr} (free : S ∉ fp) (few : xs.length + 1 < scanBound) (texts : ∀ i v, Pv i v → ∃ t, ∃ k, xs[i]? = some k ∧ v = .str k t) :
    ∀ (todo done : List Str) (s : Shared) (D : SD), done ++ todo = xs → St done.length s → s.heap.get? S = some (sObj "set" D) → PayOk P w D (gather [] done) →
      (∀ u D', Moved (S :: wr) G s u → u.heap.get? S = some (sObj "set" D') → PayOk P w D' (gather [] xs) → R (.ok (.ret .none)) u) →
      codeAny (model P w) A (.builtin "set.update.loop" ⟨[.ref S, .ref I], []⟩) R s
  | [], done, s, D, e, st, hS, F, goal => by
    rw [List.append_nil] at e
    subst e
    exact fill_turn W st (.inl ⟨rfl, fun u m => goal u D (m.mono fun _ q => List.mem_cons_of_mem _ q) (m.heap S _ (fun q => free (W.sub _ q)) hS) F⟩)
  | x :: todo, done, s, D, e, st, hS, F, goal => by
    have at_ : xs[done.length]? = some x := by rw [← e]; simp
    have le : done.length < xs.length := (List.getElem?_eq_some_iff.mp at_).1
    refine fill_turn W st (.inr ⟨le, fun v u p su m => ?_⟩)
    obtain ⟨t, k, ek, rfl⟩ := texts _ v p
    rw [at_] at ek
    cases ek
    have small : (gather [] done).length + 1 < scanBound := by
      have := gather_len done []
      rw [List.length_nil] at this
      omega
    refine put_text (m.heap S _ (fun q => free (W.sub _ q)) hS) F small fun b h' tk D' sb g F' lt => ?_
    rw [← gather_snoc] at F'
    have keep : ∀ c, c ≠ S → ∀ o, u.heap.get? c = some o → h'.get? c = some o := fun c q o z => by rw [sb.2 c q]; exact z
    refine fill W free few texts todo (done ++ [x]) _ D' (by rw [List.append_assoc]; exact e) ?_ g F' fun y D'' m2 => goal y D'' (Moved.trans W.gtrans ((m.mono fun _ q => List.mem_cons_of_mem _ q).then_heap lt fun c o q z => keep c (fun w => q (by rw [w]; exact List.mem_cons_self)) o z) m2)
    rw [List.length_append, List.length_singleton]
    exact W.frame _ u _ _ su lt fun c hc o z => keep c (fun w => free (by rw [← w]; exact hc)) o z
theorem strs_get {us : List Value} {xs : List Str} (h : PyProof.Rows.StrsAre us xs) : ∀ (i : Nat) (v : Value), us[i]? = some v → ∃ k t, xs[i]? = some k ∧ v = .str k t := by
  induction h with
  | nil => intro i v e; simp at e
  | cons x t _ ih =>
    intro i v e
    cases i with
    | zero => simp at e; exact ⟨_, _, rfl, e.symm⟩
    | succ i => exact ih i v (by simpa using e)
abbrev d0 (w : World) : SD := (#[], 0, .fresh 0 0 (!w.params.followText "set-order"))
theorem pay_new : PayOk P w (d0 w) [] where
  tx := TxOk.nil rfl
  nd := List.nodup_nil
  ris := List.Pairwise.nil
  led := by
    change _ ∨ (!w.params.followText "set-order") = true
    rcases w.params.followText "set-order" with _ | _
    · right; rfl
    · left; rfl
  str := fun e he => by simp at he
  pm := List.Perm.refl _
/-- a new set filled: only it and the two counters may have changed -/
def Filled (P : Program) (w : World) (S : Addr) (xs : List Str) (t u : Shared) : Prop :=
  ∃ D h' tk, u = { t with heap := h', toks := tk } ∧ h'.get? S = some (sObj "set" D) ∧ PayOk P w D (gather [] xs) ∧ ∀ b o, b ≠ S → t.heap.get? b = some o → h'.get? b = some o
theorem set_init {S l : Addr} {items : Array Value} {xs : List Str} (calm : A.handled = none) (new : s.heap.get? S = some (sObj "set" (d0 w))) (lst : s.heap.IsList l items) (are : PyProof.Rows.StrsAre items.toList xs) (few : xs.length + 1 < scanBound) (ne : S ≠ l) :
    codeAny (model P w) A (.call (.builtin "set.__init__") ⟨[.ref S, .ref l], []⟩) (wants (fun r u => r = .none ∧ Filled P w S xs s u) E) s := by
  apply codeAny_call_builtin PySem.F.called_set.init.plain PySem.F.entry_set_init
  have kind : Shared.TypeIs s (.ref S) "set" := ⟨_, new, rfl⟩
  apply check_set_init_1 kind
  have lst0 := lst
  obtain ⟨⟨_, dict, _, slots⟩, got, rfl, z, rfl⟩ := lst
  have s1 := PySem.F.sub_list_set
  have s2 := PySem.F.sub_list_frozenset
  have s3 : (Value.type "list" == Value.type "dict") = false := by decide
  simp only [Builtin.«set.__init__», noKeywords, Builtin.Frozenset.updateFrom]
  have calm2 : A.in1.in1.handled = none := by simp [calm]
  have inside : l < s.heap.objs.size := Heap.lt_size got
  have inS : S < s.heap.objs.size := Heap.lt_size new
  generalize walk : pyIter = it
  wp_walk
  subst walk
  apply wpAny_pyIter_list lst0
  apply wpAny_bind
  apply wpAny_runValue
  have free : S ∉ [s.heap.objs.size, l] := by
    intro q
    rcases List.mem_cons.mp q with q | q
    · exact Nat.lt_irrefl _ (q ▸ inS)
    · exact ne (List.mem_singleton.mp q)
  have size : items.size = xs.length := by rw [← Array.length_toList]; exact StrsAre.len_eq are
  have way := (Walks.list (prog := P) (w := w) calm2 s.heap.objs.size l (Nat.ne_of_lt inside) items).toS
  rw [size] at way
  refine fill way free few (fun i v q => ?_) xs [] _ (d0 w) rfl ⟨⟨_, Heap.get?_push_size _ rfl, rfl, rfl⟩, lst0.push _⟩ (Heap.get?_push_of_some _ new) pay_new fun u D m hD F => ?_
  · obtain ⟨k, t, e1, e2⟩ := strs_get are i v (by rw [Array.getElem?_toList]; exact q)
    exact ⟨t, k, e1, e2⟩
  · apply wpAny_pure
    apply wpAny_pure
    obtain ⟨h', g', dr', tk, os'⟩ := u
    cases m.gens
    cases m.drawn
    cases m.os
    refine ⟨rfl, D, h', tk, rfl, hD, F, fun b o n e => m.heap b o (fun q => ?_) (Heap.get?_push_of_some _ e)⟩
    rcases List.mem_cons.mp q with q | q
    · exact n q
    · rw [List.mem_singleton.mp q] at e
      exact Nat.lt_irrefl _ (Heap.lt_size e)
set_option maxHeartbeats 3200000 in
theorem set_of_list {l : Addr} {items : Array Value} (xs : List Str) {Q : Value → Shared → Prop} (hh : A.handled = none) (hl : s.heap.IsList l items) (hit : PyProof.Rows.StrsAre items.toList xs) (hb : xs.length + 1 < scanBound)
    (h : ∀ (h' : Heap) (tk : Nat) (D : SD), h'.get? s.heap.objs.size = some (sObj "set" D) → PayOk P w D (gather [] xs) → (∀ b o, s.heap.get? b = some o → h'.get? b = some o) → Q (.ref s.heap.objs.size) { s with heap := h', toks := tk }) :
    wpAny (model P w) A (call (.type "set") [.ref l]) Q E s := by
  obtain ⟨t, tn⟩ : ∃ t : Shared, t = { s with heap := s.heap.push (sObj "set" (d0 w)) } := ⟨_, rfl⟩
  have new : t.heap.get? s.heap.objs.size = some (sObj "set" (d0 w)) := by rw [tn]; exact Heap.get?_push_size _ rfl
  have lst : t.heap.IsList l items := by rw [tn]; exact hl.push _
  have ne : s.heap.objs.size ≠ l := fun q => by
    obtain ⟨o, got, _⟩ := hl
    rw [← q] at got
    exact Nat.lt_irrefl _ (Heap.lt_size got)
  have calm : A.in1.handled = none := by simp [hh]
  obtain ⟨_, _, f1⟩ := PySem.F.called_set.mro
  have ⟨f2, f3, f4, f5, f6⟩ := And.intro PySem.F.called_set.made (And.intro PySem.F.called_set.sub (And.intro PySem.F.called_set.notType (And.intro PySem.F.called_set.canCreate (PySem.F.typeCall_set_1 (.ref l)))))
  have ⟨f7, f8⟩ := And.intro PySem.F.called_set.init.lookup (PySem.F.called_set.init.bind (.ref s.heap.objs.size))
  apply wpAny_call
  apply codeAny_of_tree
  change wpAny _ _ (callAny (.type "set") _) _ _ _
  apply wpAny_pure
  refine ⟨Code.quiet_builtin _ (by decide +kernel), ?_⟩
  apply codeAny_builtin PySem.F.entry_type_call
  simp only [Around.under_plain (weight_type_call_type "set" [.ref l] []) rfl]
  repeat' (first | assumption | wp_step)
  refine codeAny_mono (L2.code_set_led1 (.ref l) (E := E) (Q₁ := fun o u => o = .ref s.heap.objs.size ∧ u = t) ⟨rfl, tn.symm⟩) ?_
  rintro (e | f) u hr
  · exact hr
  · cases f <;> try exact hr.elim
    obtain ⟨rfl, rfl⟩ := hr
    have kind : Shared.TypeIs u (.ref s.heap.objs.size) "set" := ⟨_, new, rfl⟩
    repeat' (first | assumption | wp_step)
    refine codeAny_mono (set_init (E := E) calm new lst hit hb ne) ?_
    rintro (e | f) y hr2
    · exact hr2
    · cases f <;> try exact hr2.elim
      obtain ⟨rfl, D, h', tk, rfl, g, F, keep⟩ := hr2
      repeat' (first | assumption | wp_step)
      subst tn
      exact h h' tk D g F fun b o e => keep b o (Nat.ne_of_lt (Heap.lt_size e)) (Heap.get?_push_of_some _ e)
end
end MP

end
section
set_option linter.all false
set_option maxRecDepth 100000
/-! MPSet3: sorted(set(list of texts)), len(set(list of texts)). -/
namespace MP
open PySem PySem.Froz PyProof.Rows

section
variable {P : Program} {w : World} {A : Around} {E : Value → Shared → Prop} {s : Shared}
theorem texts_are : ∀ (vs : List Value), (∀ v ∈ vs, ∃ k tk, v = Value.str k tk) → StrsAre vs (vs.map textV)
  | [], _ => .nil
  | v :: r, h => by
    obtain ⟨k, tk, rfl⟩ := h v List.mem_cons_self
    exact .cons k tk (texts_are r fun u hu => h u (List.mem_cons_of_mem _ hu))
theorem sorted_pay {a : Addr} {D : SD} {l : List Str} {Q : Value → Shared → Prop} (ha : s.heap.get? a = some (sObj "set" D)) (F : PayOk P w D l) (hh : A.handled = none) (hb : l.length < scanBound) (hz : l.length ≤ sizeLine)
    (hQ : ∀ s' p (out : List Value) (c : Nat) (ss : List Str), (∀ b o, s.heap.get? b = some o → s'.heap.get? b = some o) → s'.gens = s.gens → s'.os = s.os → s.heap.objs.size ≤ p →
      s'.heap.get? p = some (seqObj "list" out.toArray c) → StrsAre out ss → ss.Perm l → sortedS ss = true → Q (.ref p) s') :
    wpAny (model P w) A (call (.builtin "sorted") [.ref a]) Q E s := by
  rcases D with ⟨es, ep, t⟩
  have many : es.size = l.length := F.tx.sz
  apply Calls.call_function_entry kind_sorted plain_sorted entry_sorted (args_sorted1 _)
  simp only [Builtin.«sorted»]
  apply wpAny_bind (m := checkCount _ _ _ _)
  apply wpAny_pure
  apply wpAny_bind
  refine L2.collect_set (es := es) (ep := ep) (t := t) (by simpa using hh) ⟨_, ha, rfl, rfl⟩ F.tx.fit (by rw [many]; exact hb) F.ris F.led ?_
  intro s1 vs old fresh gs os perm
  have same : (vs.map textV).Perm l := ((perm.map textV).trans (by rw [List.map_map]; exact List.Perm.refl _)).trans F.pm
  have count : vs.length = l.length := by rw [← same.length_eq, List.length_map]
  have texts : StrsAre vs (vs.map textV) := texts_are vs fun v hv => by
    rcases List.mem_map.mp (perm.subset hv) with ⟨e, he, rfl⟩
    exact F.str e he
  apply wpAny_bind
  refine wpAny_newList ?_ (by rw [count]; exact hz)
  have got := Heap.get?_push_size s1.heap (o := seqObj "list" vs.toArray 0) rfl
  apply wpAny_bind
  apply wpAny_holding
  refine wpAny_call_entry slot_list_sort ⟨_, got, rfl⟩ entry_list_sort ?_ (args_list_sort _)
  refine list_sort_treeKAny strKind_oneLt got texts.keysOf (fun _ _ _ e => keyKind_strs (e ▸ texts)) (by rw [count]; exact hz) fun st perm2 rising => ⟨_, rfl, ?_⟩
  rcases sorted_out_str texts perm2 rising with ⟨ss, are, perm3, sorted⟩
  rcases sortedHeap_at (vs := vs) (out := (arrOf st).map (·.2)) got with ⟨c, at_⟩
  apply wpAny_pure
  refine ⟨_, rfl, hQ _ s1.heap.objs.size _ c ss ?_ gs os fresh (by rw [Array.toArray_toList]; exact at_) are (perm3.trans same) sorted⟩
  intro x o hx
  have hx1 := old x o hx
  have still : ∀ ys, (sortedHeap (s1.heap.push (seqObj "list" vs.toArray 0)) s1.heap.objs.size vs ys).get? x = some o := fun ys => by
    rw [sortedHeap_old (Nat.ne_of_lt (Heap.lt_size hx1)) (size_push' .. ▸ Nat.lt_succ_of_lt (Heap.lt_size hx1)), Heap.get?_push_of_some _ hx1]
  exact still _
end

theorem gather_mem (r : List Str) : ∀ (l : List Str) (k : Str), k ∈ gather l r ↔ k ∈ l ∨ k ∈ r := by
  induction r with
  | nil => intro l k; simp [gather]
  | cons x r ih =>
    intro l k
    show k ∈ gather (if x ∈ l then l else x :: l) r ↔ _
    rw [ih]
    by_cases c : x ∈ l
    · rw [if_pos c, List.mem_cons]
      constructor
      · rintro (q | q)
        · exact .inl q
        · exact .inr (.inr q)
      · rintro (q | q | q)
        · exact .inl q
        · exact .inl (q ▸ c)
        · exact .inr q
    · rw [if_neg c, List.mem_cons, List.mem_cons]
      constructor
      · rintro ((q | q) | q)
        · exact .inr (.inl q)
        · exact .inl q
        · exact .inr (.inr q)
      · rintro (q | q | q)
        · exact .inl (.inr q)
        · exact .inl (.inl q)
        · exact .inr q
theorem any_strEq (x : Str) (xs : List Str) : xs.any (strEq x) = decide (x ∈ xs) := by
  induction xs with
  | nil => rfl
  | cons y r ih =>
    rw [List.any_cons, ih, strEq_eq]
    by_cases e : x = y
    · simp [e]
    · simp [e]
theorem dedup_is (lt : Str → Str → Bool) (xs : List Str) : (dedup lt xs).Nodup ∧ ∀ k, k ∈ dedup lt xs ↔ k ∈ xs := by
  induction xs with
  | nil => exact ⟨List.nodup_nil, fun k => Iff.rfl⟩
  | cons x r ih =>
    unfold dedup
    rw [any_strEq]
    by_cases c : x ∈ r
    · rw [if_pos (by simp [c])]
      refine ⟨ih.1, fun k => ?_⟩
      rw [ih.2, List.mem_cons]
      exact ⟨.inr, fun q => q.elim (fun e => e ▸ c) id⟩
    · rw [if_neg (by simp [c])]
      refine ⟨List.nodup_cons.mpr ⟨fun q => c ((ih.2 x).mp q), ih.1⟩, fun k => ?_⟩
      rw [List.mem_cons, List.mem_cons, ih.2]
theorem gather_perm (lt : Str → Str → Bool) {xs : List Str} (h : (gather [] xs).Nodup) : (gather [] xs).Perm (dedup lt xs) :=
  (List.perm_ext_iff_of_nodup h (dedup_is lt xs).1).mpr fun k => by
    rw [gather_mem, (dedup_is lt xs).2]
    simp
open L2 in
section
variable {F : Fx} {X : Cx} {W : WX} {a : Expr} {fa : En → OH → R OV} {pos pos2 p p2 : Pos}
/-- set(e) of a list of texts: what comes before the set is used -/
theorem set_arg {pins : List (Addr × Obj)} {s : Shared} {σ : L2.St} {H : Hp} {Q : VK} {Z : Value → Shared → Prop} (hK : X.K = F.K) (hc : X.calm = true) (hg : Gl X "set") (hm : X.mg "set" = none) (ha : PE X a (rdE F W fa)) (hs : unstar a = true)
    (I : Inv X pins σ H s) (fv : OV → OH → R OV) (hf : ∀ x h v h', fv x h = .ok v h' → ∃ xs ss, lstOf h x = some xs ∧ strsOf xs = some ss ∧ ss.length ≤ 4000)
    (hne : ∀ x h c h', fv x h = .ex c h' → False) (hw : rdE F W (fun e h => (fa e h).bind fun x h => noEx (fv x h)) σ H Q)
    (hZ : ∀ (m : Mp) (h : OH) (H1 : Hp) (x : OV) (xs : List OV) (ss : List Str) (s2 : Shared) (b : Addr) (D : SD), Ok F m h H1 → lstOf h x = some xs → strsOf xs = some ss → ss.length ≤ 4000 → Inv X pins σ H1 s2 → s2.heap.get? b = some (sObj "set" D) → PayOk X.prog X.w D (gather [] ss) →
      Out F m h (fv x h) (fun m' h' H' v => val h'.n v → Q (tr F m' v) H') (fun _ _ => False) → Z (.ref b) s2) :
    wpAny (model X.prog X.w) X.A (eval (.Call (.Name "set" p2) [a] [] pos2) X.env) Z X.xe s := by
  refine wpAny_Call_Name_kw (ld_blt I hg hm rfl ?_ (by decide) (by decide))
  refine PyProof.Rows.callWith_type1 (thn ((pa_cons ha pa_nil (unstar_is hs)).run pos2 pins s σ H (fun vs H1 => ∃ m h x, Ok F m h H1 ∧ vs = [tr F m x] ∧ Out F m h (fv x h) (fun m' h' H' v => val h'.n v → Q (tr F m' v) H') fun _ _ => False) I ?_) fun us s1 ⟨vs, H1, I1, r1, m, h, x, ok, ev, o⟩ => ?_) (unstar_is hs) rfl
  · obtain ⟨m, h, e, ok, ve, rfl, o⟩ := hw
    exact ⟨m, h, e, ok, ve, rfl, o.bind.mono (fun m1 h1 H1 x n1 o1 vx => ⟨m1, h1, x, n1.ok, rfl, o1.noEx⟩) fun _ _ w => w⟩
  · subst ev
    obtain ⟨u, rfl, ru⟩ := vals1 r1
    cases q : fv x h with
    | ok v h' =>
      obtain ⟨xs, ss, e1, e2, e3⟩ := hf _ _ _ _ q
      obtain ⟨v1, b, eb, hl⟩ := ok.isL e1
      rw [trs_strs e2, ← hK] at hl
      rw [eb] at ru
      obtain rfl : u = Value.ref b := ru
      obtain ⟨its, rv, pl, hz⟩ := I1.list hl
      refine set_of_list ss (I.ok.hd hc) pl.isList (vals_strsAre _ _ rv) (by unfold scanBound; omega) fun h2 tk D hD FF kp => ?_
      exact hZ m h H1 x xs ss _ _ D ok e1 e2 e3 (I1.kept (t' := tk) kp) hD FF o
    | ex c h' => exact (hne _ _ _ _ q).elim
    | no => rw [q] at o; exact (show False from o).elim
theorem sset_form {x v : OV} {h h' : OH} (e : ssetV x h = .ok v h') : ∃ xs ss, lstOf h x = some xs ∧ strsOf xs = some ss ∧ ss.length ≤ 4000 := by
  unfold ssetV at e
  split at e
  · rename_i ss q
    obtain ⟨xs, e1, e2⟩ := lst_bind q
    split at e
    · rename_i l; exact ⟨xs, ss, e1, e2, l⟩
    · cases e
  · cases e
theorem lset_form {x v : OV} {h h' : OH} (e : lsetV x h = .ok v h') : ∃ xs ss, lstOf h x = some xs ∧ strsOf xs = some ss ∧ ss.length ≤ 4000 := by
  unfold lsetV at e
  split at e
  · rename_i ss q
    obtain ⟨xs, e1, e2⟩ := lst_bind q
    split at e
    · rename_i l; exact ⟨xs, ss, e1, e2, l⟩
    · cases e
  · cases e
theorem sset_ne {x : OV} {h h' : OH} {c : Nat} (e : ssetV x h = .ex c h') : False := by
  unfold ssetV at e
  split at e
  · split at e <;> cases e
  · cases e
theorem lset_ne {x : OV} {h h' : OH} {c : Nat} (e : lsetV x h = .ex c h') : False := by
  unfold lsetV at e
  split at e
  · split at e <;> cases e
  · cases e
theorem s_sset (hK : X.K = F.K) (hc : X.calm = true) (hg0 : Gl X "sorted") (hm0 : X.mg "sorted" = none) (hg : Gl X "set") (hm : X.mg "set" = none) (ha : PE X a (rdE F W fa)) (hs : unstar a = true) :
    PE X (.Call (.Name "sorted" p) [.Call (.Name "set" p2) [a] [] pos2] [] pos) (rdE F W fun e h => (fa e h).bind fun x h => noEx (ssetV x h)) := by
  refine ⟨fun pins s σ H Q I hw => ?_⟩
  refine wpAny_Call_Name_kw (ld_blt I hg0 hm0 rfl ?_ (by decide) (by decide))
  refine PyProof.Rows.callWith_builtin1 ?_ rfl rfl
  refine Calls.spliced_cons (set_arg hK hc hg hm ha hs I ssetV (fun _ _ _ _ e => sset_form e) (fun _ _ _ _ e => sset_ne e) hw fun m h H1 x xs ss s2 b D ok e1 e2 e3 I2 hD FF o => Calls.spliced_nil ?_)
  have gl := gather_len ss []
  rw [List.length_nil] at gl
  refine sorted_pay hD FF (I2.ok.hd hc) (by unfold scanBound; omega) (by rw [sizeLine_eq]; omega) fun s' q out c ss' kp g os hp hget hS pm srt => ?_
  have es : ss' = setSorted ss := by
    have z := strs_sorted_uniq (pm.trans (gather_perm strLt FF.nd)) (sortedS_srtd srt)
    exact z
  have np : H1 q = none := I2.hok.fresh hp
  have hlen : ((setSorted ss).map V.str).length ≤ sizeLine := by
    rw [List.length_map, ← es, pm.length_eq, sizeLine_eq]; omega
  have J : Inv X pins σ (upd H1 q (.lst ((setSorted ss).map V.str))) { s2 with heap := s'.heap, gens := s'.gens, drawn := s'.drawn, toks := s'.toks } :=
    I2.call (ch := []) (Un.laid kp hp np) (I2.hok.laid kp hp ⟨hlen, out, c, by rw [← es]; exact vals_of_strs hS, hget⟩) (by rw [g]; exact I2.bare) (fun _ z => nomatch z)
  have e : s' = { s2 with heap := s'.heap, gens := s'.gens, drawn := s'.drawn, toks := s'.toks } := by
    cases s'
    cases s2
    cases os
    rfl
  rw [e]
  refine ⟨.ref q, _, J, rfl, ?_⟩
  unfold ssetV at o
  rw [e1] at o
  simp only [Option.bind_some, e2, if_pos e3] at o
  have z := Out.ok o (ok.newL np (vals_str _)) (Nat.lt_succ_self _)
  rw [newref, trs_str'] at z
  exact z
theorem s_lset (hK : X.K = F.K) (hc : X.calm = true) (hg0 : Gl X "len") (hm0 : X.mg "len" = none) (hg : Gl X "set") (hm : X.mg "set" = none) (ha : PE X a (rdE F W fa)) (hs : unstar a = true) :
    PE X (.Call (.Name "len" p) [.Call (.Name "set" p2) [a] [] pos2] [] pos) (rdE F W fun e h => (fa e h).bind fun x h => noEx (lsetV x h)) := by
  refine ⟨fun pins s σ H Q I hw => ?_⟩
  refine wpAny_Call_Name_kw (ld_blt I hg0 hm0 rfl ?_ (by decide) (by decide))
  refine PyProof.Rows.callWith_builtin1 ?_ rfl rfl
  refine Calls.spliced_cons (set_arg hK hc hg hm ha hs I lsetV (fun _ _ _ _ e => lset_form e) (fun _ _ _ _ e => lset_ne e) hw fun m h H1 x xs ss s2 b D ok e1 e2 e3 I2 hD FF o => Calls.spliced_nil ?_)
  have gl := gather_len ss []
  rw [List.length_nil] at gl
  have hsz : D.1.size = (gather [] ss).length := FF.tx.sz
  have hn : D.1.size = (dedup strLt ss).length := by rw [hsz]; exact (gather_perm strLt FF.nd).length_eq
  refine PySem.call_len_set hD ⟨rfl, rfl, rfl⟩ rfl FF.tx.fit (by rw [hsz]; omega) ?_
  unfold lsetV at o
  rw [e1] at o
  simp only [Option.bind_some, e2, if_pos e3] at o
  have z := Out.ok o (Nx.refl ok) trivial
  exact ⟨.int ((dedup strLt ss).length : Nat), H1, I2.tok _, ⟨s2.toks + 1, by rw [hn]⟩, z⟩
end
end MP

end
section
set_option linter.all false
set_option maxRecDepth 100000
/-! MPSound2: comprehensions, targets, statements; the whole. -/
namespace MP
open PySem L2

section
variable {F : Fx} {T : Tb} {L k : Nat} {G : Gc} {C : Cc} {X : Cx} {W : WX}
theorem ownP_snd (N : List Str) (own : List Nat) : (ownP N own).map (·.2) = own := by
  unfold ownP
  rw [List.map_map]
  exact List.map_id own
theorem good_blk (g : Good F T L k G C X W) (scope : Scope) (s : Shared) (H : Hp) (Ca : Addr) (cl : List (Str × Addr)) (fp : List Addr) :
    Good F T L k G (C.into scope) (X.blk s H scope (compEnvC scope cl Ca X.env) fp) noW := by
  refine ⟨g.hK, g.nd, g.hN, ?_, g.calm, g.un, fun u s' x => ?_, fun h => (nomatch h), fun x h => ?_, g.room, g.gf⟩
  · show relS scope X.env.scope = relS scope C.sc
    rw [g.sc]
  · obtain ⟨_, _, _, _, _, _, _, _, _, _, _, _, _, _, _, _, w⟩ := x
    exact w.elim
  · have h : isC (lookS scope.names x) = true := h
    rw [lookS_eq] at h
    show (scope.names.lookup x == some .cell) = true
    rw [isC_is h]
    rfl
theorem tgs_in {call : Nat → List OV → OH → R OV} {own : List Nat} (t : A) : tgIn own t = true → (∀ x e h e1 h1, (den T call t).tg x e h = .ok e1 h1 → wipeE e1 own = wipeE e own) ∧ ∀ xs e h e1 h1, (den T call t).tgs xs e h = .ok e1 h1 → wipeE e1 own = wipeE e own := by
  induction t with
  | tn i =>
    intro h
    have hi : i ∈ own := by simpa [tgIn] using h
    refine ⟨fun x e h e1 h1 q => ?_, fun xs e h e1 h1 q => nomatch q⟩
    cases q
    exact wipeE_set hi
  | tt n ts ih =>
    intro h
    obtain ⟨_, i2⟩ := ih h
    refine ⟨fun x e h e1 h1 q => ?_, fun xs e h e1 h1 q => nomatch q⟩
    have q : (match tupOf h x with | some xs => if xs.length = n then noEx ((den T call ts).tgs xs e h) else .no | none => .no) = R.ok e1 h1 := q
    split at q
    · rename_i xs _
      split at q
      · cases z : (den T call ts).tgs xs e h with
        | ok a b => rw [z] at q; cases q; exact i2 _ _ _ _ _ z
        | ex c b => rw [z] at q; cases q
        | no => rw [z] at q; cases q
      · cases q
    · cases q
  | nil =>
    intro h
    refine ⟨fun x e h e1 h1 q => (nomatch q), fun xs e h e1 h1 q => ?_⟩
    cases xs with
    | nil => cases q; rfl
    | cons => cases q
  | cons a b ia ib =>
    intro h
    have h : (tgIn own a && tgIn own b) = true := h
    rw [Bool.and_eq_true] at h
    obtain ⟨a1, _⟩ := ia h.1
    obtain ⟨_, b2⟩ := ib h.2
    refine ⟨fun x e h e1 h1 q => (nomatch q), fun xs e h e1 h1 q => ?_⟩
    cases xs with
    | nil => cases q
    | cons x r =>
      have q : ((den T call a).tg x e h).bind (fun e h => (den T call b).tgs r e h) = R.ok e1 h1 := q
      obtain ⟨e2, h2, q1, q2⟩ := bind_ok q
      exact (b2 _ _ _ _ _ q2).trans (a1 _ _ _ _ _ q1)
  | _ => intro h; exact absurd h (by simp [tgIn])
theorem pts_yes : PTs X [] (rdT F noW fun _ h => .ok true h) := ⟨fun pins s σ H Q I hw => pts_nil.run pins s σ H Q I (by
  obtain ⟨m, h, e, ok, ve, rfl, o⟩ := hw
  exact Out.ok o (Nx.refl ok))⟩
theorem q_comp {e t it c : A} {own : List Nat} (se : Snd F T L k G e) (st : Snd F T L k G t) (si : Snd F T L k G it) (sc : Snd F T L k G c) : Snd F T L k G (.comp e t it c own) := snd_e rfl fun C X W g x h => by
  split at h
  · rename_i elt tg iter ifs scope p
    simp only [Bool.and_eq_true] at h
    obtain ⟨⟨⟨⟨⟨⟨⟨h1, h2⟩, h8⟩, h3⟩, h4⟩, h5⟩, h6⟩, h7⟩ := h
    have ok : BlkOk X.N X.env.scope scope (ownP C.N own) := by rw [g.hN, g.sc]; exact blkOk_by h1
    have B : Blk F X scope tg ifs elt (den T (callN T k) t).tg (den T (callN T k) c).ts (den T (callN T k) e).ex := by
      refine ⟨fun s H Ca cl fp => (st _ _ _ (good_blk g scope s H Ca cl fp) _ h5).1 h8, fun s H Ca cl fp => ?_, fun s H Ca cl fp => ?_⟩
      · split at h7
        · split at h7
          · exact pts_yes
          · cases h7
        · have z : SE F _ noW _ _ := sc _ _ _ (good_blk g scope s H Ca cl fp) _ h7
          exact pts_one z.pt
        · cases h7
      · have z : SE F _ noW _ _ := se _ _ _ (good_blk g scope s H Ca cl fp) _ h6
        exact z.pe
    have tgo := (tgs_in (T := T) (call := callN T k) t h3).1
    rw [← ownP_snd C.N own] at tgo
    have I : SI F X W it _ tg iter := si C X W g _ h4
    have en : (den T (callN T k) (.comp e t it c own)).ex = dCompR (den T (callN T k) e).ex (den T (callN T k) t).tg (den T (callN T k) it).it (den T (callN T k) c).ts ((ownP C.N own).map (·.2)) := by
      rw [ownP_snd]; rfl
    have both : PE X (.ListComp elt [⟨tg, iter, ifs, 0⟩] scope p) (rdE F W (den T (callN T k) (.comp e t it c own)).ex) ∧
        ∀ i y py spos, X.N[i]? = some y → X.env.scope.names.lookup y = some .local → swapsWith (.ListComp elt [⟨tg, iter, ifs, 0⟩] scope p) (some (.Name y py)) spos.line X.env = pure true →
          PS X (.Assign [.Name y py] (.ListComp elt [⟨tg, iter, ifs, 0⟩] scope p) spos) (tAsg (rdE F W (den T (callN T k) (.comp e t it c own)).ex) (gName i)) := by
      rw [en]
      cases hk : isIkv it with
      | false => exact ⟨s_comp g.calm g.nd ok B (I.pi hk) h2 tgo (I.nk hk), fun i y py spos a1 a2 a3 => st_comp g.calm g.nd a1 a2 a3 ok B (I.pi hk) h2 tgo (I.nk hk)⟩
      | true =>
        cases it with
        | ikv i =>
          obtain ⟨y, py, rfl, pv⟩ := I.ik i rfl
          exact ⟨s_compK g.hK g.calm g.nd ok B pv tgo, fun j z pz spos a1 a2 a3 => st_compK g.hK g.calm g.nd a1 a2 a3 ok B pv tgo⟩
        | _ => cases hk
    exact ⟨both.1, t_truth g.hK both.1 rfl, fun _ _ _ e => (nomatch e), fun i y py spos _ a1 a2 a3 => both.2 i y py spos a1 a2 a3, o_some both.1⟩
  · cases h

theorem q_sset {a : A} (sa : Snd F T L k G a) : Snd F T L k G (.sset a) := snd_e rfl fun C X W g x h => by
  split at h
  · simp only [Bool.and_eq_true] at h
    obtain ⟨⟨⟨⟨⟨h1, h2⟩, h3⟩, h4⟩, h5⟩, h6⟩ := h
    have e1 := strEq_iff.mp h1
    have e2 := strEq_iff.mp h2
    subst e1 e2
    have ha : SE F X W _ _ := sa C X W g _ h6
    exact .plain g (s_sset g.hK g.calm (glob_is g h3).1 (g.gf.bn _ (by decide)) (glob_is g h4).1 (g.gf.bn _ (by decide)) ha.pe h5) rfl rfl
  · cases h
theorem q_lset {a : A} (sa : Snd F T L k G a) : Snd F T L k G (.lset a) := snd_e rfl fun C X W g x h => by
  split at h
  · simp only [Bool.and_eq_true] at h
    obtain ⟨⟨⟨⟨⟨h1, h2⟩, h3⟩, h4⟩, h5⟩, h6⟩ := h
    have e1 := strEq_iff.mp h1
    have e2 := strEq_iff.mp h2
    subst e1 e2
    have ha : SE F X W _ _ := sa C X W g _ h6
    exact .plain g (s_lset g.hK g.calm (glob_is g h3).1 (g.gf.bn _ (by decide)) (glob_is g h4).1 (g.gf.bn _ (by decide)) ha.pe h5) rfl rfl
  · cases h
theorem s_dct0 {pos : Pos} {call : Nat → List OV → OH → R OV} : PE X (.Dict [] [] pos) (rdE F W (den T call (.dct [] .nil)).ex) := by
  refine pe_dnewK.wk fun σ H Q hw => ?_
  obtain ⟨m, h, e, ok, ve, rfl, o⟩ := hw
  intro p np
  have n1 := ok.newD (kvs := []) np (fun q hq => nomatch hq)
  have g : (h.new (.dct false [])).get h.n = some (.dct false []) := by rw [OH.get_new, if_pos rfl]
  have o2 : Out F m h (noEx (dctV [] h.n [] (h.new (.dct false [])))) (fun m' h' H' v => val h'.n v → Q (tr F m' v) H') fun c H' => W (Cv F c) none (trE F m e) H' := o
  unfold dctV at o2
  simp only [List.length_nil, if_true, g] at o2
  have n2 := n1.ok.putD (xs := []) g rfl (fun q hq => nomatch hq)
  have z := o2 _ _ (n1.trans n2) (Nat.lt_succ_self _)
  have e1 : extM m h.n p h.n = p := extM_self
  rw [newref, e1] at z
  have e2 : upd (upd H p (.dK (trk F m []))) p (.dK (trk F (extM m h.n p) [])) = upd H p (.dK []) := by
    funext b
    unfold upd
    by_cases c : b = p
    · rw [if_pos c, if_pos c]; rfl
    · rw [if_neg c, if_neg c, if_neg c]
  rw [e2] at z
  exact z
theorem q_dct {ks : List Str} {es : A} : Snd F T L k G (.dct ks es) := snd_e rfl fun C X W g x h => by
  split at h
  · simp only [Bool.and_eq_true] at h
    cases ks with
    | nil =>
      cases es with
      | nil => exact .plain g (s_dct0 (T := T) (call := callN T k)) rfl rfl
      | _ => cases h.2
    | cons => cases h.1
  · cases h
/-! ### targets -/
theorem q_tn {i : Nat} : Snd F T L k G (.tn i) := fun C X W g q h => by
  cases q with
  | g x =>
    cases x with
    | Name y p =>
      obtain ⟨a1, a2, a3⟩ := store_is g (show C.store i y = true from h)
      exact ⟨fun _ => g_tn g.nd a1 a2 a3, fun _ => ⟨i, y, p, rfl, a1, a2, a3, rfl⟩, fun _ _ _ e => nomatch e⟩
    | _ => cases h
  | _ => cases h
theorem q_tt {n : Nat} {ts : A} (s : Snd F T L k G ts) : Snd F T L k G (.tt n ts) := fun C X W g q h => by
  cases q with
  | g x =>
    cases x with
    | Tuple xs j p =>
      have h : (decide (xs.length = n) && xs.all unstar && chk T G ts C (.gs xs)) = true := h
      simp only [Bool.and_eq_true, decide_eq_true_eq] at h
      exact ⟨fun _ => g_tt g.hK g.calm (s C X W g _ h.2) h.1.2 h.1.1, fun ⟨_, _, e⟩ => (nomatch e), fun _ _ _ e => nomatch e⟩
    | _ => cases h
  | _ => cases h
theorem q_ts {a i : A} (sa : Snd F T L k G a) (si : Snd F T L k G i) : Snd F T L k G (.ts a i) := fun C X W g q h => by
  cases q with
  | g x =>
    cases x with
    | Subscript u v p =>
      have h : (unsl v && chk T G a C (.e u) && chk T G i C (.e v)) = true := h
      simp only [Bool.and_eq_true] at h
      have ha : SE F X W _ _ := sa C X W g _ h.1.2
      have hi : SE F X W _ _ := si C X W g _ h.2
      exact ⟨fun _ => g_ts g.un ha.pe hi.pe h.1.1, fun ⟨_, _, e⟩ => (nomatch e), fun _ _ _ e => nomatch e⟩
    | _ => cases h
  | _ => cases h
theorem vac_s {st : Stmt} {f : En → OH → RS} (hf : ∀ e h, f e h = .no) : PS X st (rdS F W f) := ⟨fun _ _ _ _ _ _ hw => by
  obtain ⟨_, _, _, _, _, _, o⟩ := hw; rw [hf] at o; exact (show False from o).elim⟩
theorem pg_vac {x : Expr} {f : OV → En → OH → R En} (h : ∀ m h e v (P : Mp → OH → Hp → En → Prop) Ex, Out F m h (f v e h) P Ex → False) : PG X x (rdG F W f) := ⟨fun pins s σ H v u Q I r hw => by
  obtain ⟨m, h1, e, y, ok, ve, vy, es, ev, o⟩ := hw; exact (h _ _ _ _ _ _ o).elim⟩

/-! ### statements -/
theorem q_sex {a : A} (sa : Snd F T L k G a) : Snd F T L k G (.sex a) := fun C X W g q h => by
  cases q with
  | s x =>
    cases x with
    | Expr e p =>
      have h : (uncomp e && chk T G a C (.e e)) = true := h
      simp only [Bool.and_eq_true] at h
      have ha : SE F X W _ _ := sa C X W g _ h.2
      exact st_sex ha.pe h.1
    | _ => cases h
  | _ => cases h
theorem q_ret {a : A} (sa : Snd F T L k G a) : Snd F T L k G (.ret a) := fun C X W g q h => by
  cases q with
  | s x =>
    cases x with
    | Return e p =>
      cases e with
      | none => cases h
      | some e =>
        have ha : SE F X W _ _ := sa C X W g _ h
        exact st_ret ha.pe
    | _ => cases h
  | _ => cases h
theorem q_retn : Snd F T L k G .retn := fun C X W g q h => by
  cases q with
  | s x =>
    cases x with
    | Return e p =>
      cases e with
      | none => exact st_retn
      | some e => cases h
    | _ => cases h
  | _ => cases h
theorem q_spass : Snd F T L k G .spass := fun C X W g q h => by
  cases q with
  | s x =>
    cases x with
    | Pass p => exact st_pass
    | _ => cases h
  | _ => cases h
theorem q_scont : Snd F T L k G .scont := fun C X W g q h => by
  cases q with
  | s x =>
    cases x with
    | Continue p => exact st_cont
    | _ => cases h
  | _ => cases h
theorem q_sbrk : Snd F T L k G .sbrk := fun C X W g q h => by
  cases q with
  | s x =>
    cases x with
    | Break p => exact st_brk
    | _ => cases h
  | _ => cases h
theorem q_sno : Snd F T L k G .sno := fun C X W g q h => by
  cases q with
  | s x => exact vac_s fun _ _ => rfl
  | _ => cases h
theorem q_snil : Snd F T L k G .snil := fun C X W g q h => by
  cases q with
  | ss xs =>
    cases xs with
    | nil => exact ss_nil
    | cons => cases h
  | _ => cases h
theorem q_scons {a b : A} (sa : Snd F T L k G a) (sb : Snd F T L k G b) : Snd F T L k G (.scons a b) := fun C X W g q h => by
  cases q with
  | ss xs =>
    cases xs with
    | nil => cases h
    | cons x r =>
      have h : (chk T G a C (.s x) && chk T G b C (.ss r)) = true := h
      simp only [Bool.and_eq_true] at h
      exact ss_cons (sa C X W g _ h.1) (sb C X W g _ h.2)
  | _ => cases h
theorem q_sif {c a b : A} (sc : Snd F T L k G c) (sa : Snd F T L k G a) (sb : Snd F T L k G b) : Snd F T L k G (.sif c a b) := fun C X W g q h => by
  cases q with
  | s x =>
    cases x with
    | If x y z p =>
      have h : (chk T G c C (.e x) && chk T G a C (.ss y) && chk T G b C (.ss z)) = true := h
      simp only [Bool.and_eq_true] at h
      have hc : SE F X W _ _ := sc C X W g _ h.1.1
      exact st_if hc.pt (sa C X W g _ h.1.2) (sb C X W g _ h.2)
    | _ => cases h
  | _ => cases h
theorem q_swh {c b : A} (sc : Snd F T L k G c) (sb : Snd F T L k G b) : Snd F T L k G (.swh c b) := fun C X W g q h => by
  cases q with
  | s x =>
    cases x with
    | While x y z p =>
      cases z with
      | cons => cases h
      | nil =>
        have h : (C.bk.isNone && chk T G c C (.e x) && chk T G b C (.ss y)) = true := h
        simp only [Bool.and_eq_true] at h
        have hc : SE F X W _ _ := sc C X W g _ h.1.2
        exact st_while (g.own h.1.1) hc.pt (sb C X W g _ h.2)
    | _ => cases h
  | _ => cases h
theorem q_sfor {t it b : A} (st : Snd F T L k G t) (si : Snd F T L k G it) (sb : Snd F T L k G b) : Snd F T L k G (.sfor t it b) := fun C X W g q h => by
  cases q with
  | s x =>
    cases x with
    | For x y z r p =>
      cases r with
      | cons => cases h
      | nil =>
        have h : (C.bk.isNone && !(isIkv it) && unset y && unattr x && chk T G t C (.g x) && chk T G it C (.it x y) && chk T G b C (.ss z)) = true := h
        simp only [Bool.and_eq_true, Bool.not_eq_true'] at h
        obtain ⟨⟨⟨⟨⟨⟨h1, h2⟩, h3⟩, h8⟩, h4⟩, h5⟩, h6⟩ := h
        have I : SI F X W it _ x y := si C X W g _ h5
        exact st_for (g.own h1) g.calm (I.pi h2) ((st C X W g _ h4).1 h8) (sb C X W g _ h6) h3
    | _ => cases h
  | _ => cases h
theorem q_aug {i : Nat} {a : A} (sa : Snd F T L k G a) : Snd F T L k G (.aug i a) := fun C X W g q h => by
  cases q with
  | s x =>
    have hh : (match Qy.s x with | .s (.AugAssign (.Name y _) .Add x _) => C.store i y && chk T G a C (.e x) | _ => false) = true := h
    split at hh
    · rename_i q
      cases q
      simp only [Bool.and_eq_true] at hh
      obtain ⟨a1, a2, a3⟩ := store_is g hh.1
      have ha : SE F X W _ _ := sa C X W g _ hh.2
      exact st_aug g.nd a1 a2 a3 ha.pe
    · cases hh
  | _ => cases h

theorem q_tf {a : A} {f : Str} (sa : Snd F T L k G a) : Snd F T L k G (.tf a f) := fun C X W g q h => by
  cases q with
  | g x =>
    cases x with
    | Attribute o z p =>
      have h : (strEq f z && hasS G.flds z && chk T G a C (.e o)) = true := h
      simp only [Bool.and_eq_true] at h
      have e := strEq_iff.mp h.1.1
      subst e
      have ha : SE F X W _ _ := sa C X W g _ h.2
      refine ⟨fun e => (nomatch e), fun ⟨_, _, e⟩ => (nomatch e), fun o f' p e y fa pos hy => ?_⟩
      cases e
      exact st_asgF g.hK (fun c hc => g.gf.fld c _ hc (mem_str h.1.2)) hy ha.pe
    | _ => cases h
  | _ => cases h
theorem swap2_is {env : Env} {x y : Str} {px py pt pt2 : Pos} {kt k2 : Nat} {a b : Expr} (hk : env.scope.kind = .function) (hx : env.kindOf x = some .local) (hy : env.kindOf y = some .local) (hl : (py.line == px.line) = true) (hxy : (y == x) = false)
    (ua : unstar a = true) (ub : unstar b = true) (h1 : [a, b].all (foldedForSure 8) = false) (h2 : [a, b].all (constantsAlone 8) = false) :
    swappedStores [.Tuple [.Name x px, .Name y py] kt pt] (.Tuple [a, b] k2 pt2) env = pure (some [x, y]) := by
  have hb : env.blockKind = .function := by unfold Env.blockKind; rw [hk]; rfl
  unfold swappedStores
  simp only [hb, h1, h2, hx, hy, List.any_cons, List.any_nil, List.filterMap_cons, List.filterMap_nil, Expr.pos, List.head?_cons, Option.map_some, Option.getD_some, hl, beq_self_eq_true, Bool.and_self, if_true, List.length_cons, List.length_nil, bne_self_eq_false, Bool.or_false, Bool.false_eq_true, if_false]
  simp [List.eraseDups_cons, hxy]
  intro hh
  exfalso
  rcases hh with q | q
  · cases a <;> first | (cases ua; done) | (cases q; done)
  · cases b <;> first | (cases ub; done) | (cases q; done)
theorem swap3_is {env : Env} {x y z : Str} {px py pz pt pt2 : Pos} {kt k2 : Nat} {a b c : Expr} (hk : env.scope.kind = .function) (hx : env.kindOf x = some .local) (hy : env.kindOf y = some .local) (hz : env.kindOf z = some .local) (hl : (py.line == px.line) = true) (hl2 : (pz.line == px.line) = true)
    (hxy : (y == x) = false) (hxz : (z == x) = false) (hyz : (z == y) = false) (ua : unstar a = true) (ub : unstar b = true) (uc : unstar c = true) (h1 : [a, b, c].all (foldedForSure 8) = false) (h2 : [a, b, c].all (constantsAlone 8) = false) :
    swappedStores [.Tuple [.Name x px, .Name y py, .Name z pz] kt pt] (.Tuple [a, b, c] k2 pt2) env = pure (some [x, y, z]) := by
  have hb : env.blockKind = .function := by unfold Env.blockKind; rw [hk]; rfl
  unfold swappedStores
  simp only [hb, h1, h2, hx, hy, hz, List.any_cons, List.any_nil, List.filterMap_cons, List.filterMap_nil, Expr.pos, List.head?_cons, Option.map_some, Option.getD_some, hl, hl2, beq_self_eq_true, Bool.and_self, if_true, List.length_cons, List.length_nil, bne_self_eq_false, Bool.or_false, Bool.false_eq_true, if_false]
  simp [List.eraseDups_cons, hxy, hxz, hyz]
  intro hh
  exfalso
  rcases hh with q | q | q
  · cases a <;> first | (cases ua; done) | (cases q; done)
  · cases b <;> first | (cases ub; done) | (cases q; done)
  · cases c <;> first | (cases uc; done) | (cases q; done)
theorem swap_none {env : Env} {ts vs : List Expr} {k k2 : Nat} {p p2 : Pos} (h : vs.all (foldedForSure 8) = true) : swappedStores [.Tuple ts k p] (.Tuple vs k2 p2) env = pure none := by
  unfold swappedStores
  simp only [h, if_true]
  repeat' split <;> try rfl
theorem filter_short {β : Type} {f : Expr → Option β} : ∀ {ts : List Expr}, (ts.any fun t => !isName t) = true → (∀ t, isName t = false → f t = none) → (ts.filterMap f).length < ts.length
  | [], h, _ => by cases h
  | t :: r, h, hf => by
    rw [List.any_cons, Bool.or_eq_true] at h
    rw [List.filterMap_cons]
    cases q : isName t with
    | false =>
      rw [hf t q]
      have := List.length_filterMap_le f r
      simp only [List.length_cons]
      omega
    | true =>
      rw [q] at h
      have h2 : (r.any fun t => !isName t) = true := h.elim (fun z => by cases z) id
      have ih := filter_short h2 hf
      cases f t with
      | none => simp only [List.length_cons]; omega
      | some b => simp only [List.length_cons]; omega
theorem swap_none2 {env : Env} {ts vs : List Expr} {k k2 : Nat} {p p2 : Pos} (h : (ts.any fun t => !isName t) = true) : swappedStores [.Tuple ts k p] (.Tuple vs k2 p2) env = pure none := by
  unfold swappedStores
  dsimp only
  split
  · rfl
  · split
    · rfl
    · rw [if_pos]
      rw [Bool.or_eq_true]
      refine .inl ?_
      have q := filter_short (f := fun t => match t with
        | .Name id pos => if env.kindOf id == some .local && pos.line == (ts.head?.map (·.pos.line)).getD 0 then some id else none
        | _ => none) h (fun t ht => by cases t <;> first | rfl | cases ht)
      rw [bne_iff_ne]
      exact Nat.ne_of_lt q
theorem noSwap_is (g : Good F T L k G C X W) {y : Str} {p : Pos} {e : Expr} {l : Nat} (h : noSwap (.Name y p) e C = true) : swapsWith e (some (.Name y p)) l X.env = pure false := by
  cases e with
  | ListComp elt gs sc pos =>
    have h : (!(isL (lookS C.sc.names y))) = true := h
    rw [good_look g] at h
    have hk : (X.env.kindOf y == some .local) = false := by
      show (X.env.scope.names.lookup y == some .local) = false
      cases q : X.env.scope.names.lookup y with
      | none => rfl
      | some k => rw [q] at h; cases k <;> first | (cases h; done) | rfl
    unfold swapsWith
    simp only [hk]
    simp
  | SetComp => cases h
  | DictComp => cases h
  | _ => rfl
theorem doSwap_is (g : Good F T L k G C X W) {y : Str} {p : Pos} {e : Expr} {l : Nat} (hk : X.env.scope.kind = .function) (h : doSwap (.Name y p) e C = true) : uncomp e = false ∧ X.env.scope.names.lookup y = some .local ∧ swapsWith e (some (.Name y p)) l X.env = pure true := by
  cases e with
  | ListComp elt gs sc pos =>
    have h : (isL (lookS C.sc.names y) && (p.line == pos.line) && !(sc.names.any fun (n, k) => n == y && (k == .local || k == .cell))) = true := h
    simp only [Bool.and_eq_true, Bool.not_eq_true'] at h
    have hl := isL_is h.1.1
    rw [good_look g] at hl
    exact ⟨rfl, hl, sw_true hk hl h.1.2 h.2⟩
  | _ => cases h
/-- a statement at a state that bears an Inv -/
theorem ps_inv {st : Stmt} {t : TS} (h : X.env.scope.kind = .function → PS X st t) : PS X st t := ⟨fun pins s σ H D I hw => (h I.ok.kind).run pins s σ H D I hw⟩
theorem q_sas {t e : A} (st : Snd F T L k G t) (se : Snd F T L k G e) : Snd F T L k G (.sas t e) := fun C X W g q h => by
  cases q with
  | s x =>
    have hh : (match Qy.s x with | .s (.Assign [x] y _) => sasOk C x y && chk T G t C (.g x) && chk T G e C (.e y) | _ => false) = true := h
    split at hh
    · rename_i x y p q
      cases q
      simp only [Bool.and_eq_true] at hh
      obtain ⟨⟨h1, h2⟩, h3⟩ := hh
      have hy : SE F X W _ _ := se C X W g _ h3
      obtain ⟨t1, t2, t3⟩ := st C X W g _ h2
      have ds : (den T (callN T k) (.sas t e)).st = asgR (den T (callN T k) e).ex (den T (callN T k) t).tg := rfl
      show PS X _ (rdS F W (den T (callN T k) (.sas t e)).st)
      rw [ds]
      cases x with
      | Name z pz =>
        obtain ⟨i, z', p', e', a1, a2, a3, a4⟩ := t2 ⟨z, pz, rfl⟩
        cases e'
        rw [a4]
        have h1 : (noSwap (.Name z pz) y C || doSwap (.Name z pz) y C) = true := h1
        rw [Bool.or_eq_true] at h1
        rcases h1 with h1 | h1
        · exact st_set g.nd a1 a2 a3 hy.pe (noSwap_is g h1)
        · refine ps_inv fun hk => ?_
          obtain ⟨u, lo, sw⟩ := doSwap_is (l := p.line) g hk h1
          exact (hy.st i z pz p u a1 lo sw).wk fun D σ H hw => asg_name hw
      | Tuple ts j pt =>
        have pg := t1 rfl
        refine st_asgT hy.pe pg ?_
        cases y with
        | Tuple => exact (Bool.or_eq_true _ _ ▸ h1 : _ ∨ _).elim (fun z => swap_none z) fun z => swap_none2 z
        | _ => rfl
      | Subscript o i po => exact st_asgS hy.pe (t1 rfl)
      | Attribute o f po => exact t3 o f po rfl y _ p hy.pe
      | _ => cases h1
    · cases hh
  | _ => cases h
theorem parOk_is (g : Good F T L k G C X W) {i : Nat} {x : Str} (h : parOk C i x = true) : X.N[i]? = some x ∧ X.env.scope.names.lookup x = some .local := by
  unfold parOk at h
  rw [Bool.and_eq_true] at h
  have z := isL_is h.2
  rw [good_look g] at z
  exact ⟨by rw [g.hN]; exact nth_is h.1, z⟩
theorem beq_f {i j : Nat} (h : Nat.beq i j = false) : i ≠ j := fun e => by subst e; simp at h
theorem q_spar {is : List Nat} {es : A} (s : Snd F T L k G es) : Snd F T L k G (.spar is es) := fun C X W g q h => by
  have hh : cSpar is (chk T G es) C q = true := h
  unfold cSpar at hh
  split at hh
  · split at hh
    · simp only [Bool.and_eq_true, Bool.not_eq_true'] at hh
      obtain ⟨⟨⟨⟨⟨⟨⟨⟨⟨h1, h2⟩, h3⟩, h4⟩, h5⟩, h6⟩, h7⟩, h8⟩, h9⟩, h10⟩ := hh
      obtain ⟨a1, a2⟩ := parOk_is g h1
      obtain ⟨b1, b2⟩ := parOk_is g h2
      have ha := (s C X W g _ h10).1
      rw [strEq_beq] at h5
      exact ps_inv fun hk => st_par2 g.calm g.nd a1 b1 (beq_f h3) a2 b2 ha (swap2_is hk a2 b2 h4 h5 h6 h7 h8 h9)
    · cases hh
  · split at hh
    · simp only [Bool.and_eq_true, Bool.not_eq_true'] at hh
      obtain ⟨⟨⟨⟨⟨⟨⟨⟨⟨⟨⟨⟨⟨⟨⟨⟨h1, h2⟩, h3⟩, h4⟩, h5⟩, h6⟩, h7⟩, h8⟩, h9⟩, h10⟩, h11⟩, h12⟩, h13⟩, h14⟩, h15⟩, h16⟩, h17⟩ := hh
      obtain ⟨a1, a2⟩ := parOk_is g h1
      obtain ⟨b1, b2⟩ := parOk_is g h2
      obtain ⟨c1, c2⟩ := parOk_is g h3
      have ha := (s C X W g _ h17).1
      rw [strEq_beq] at h9 h10 h11
      exact ps_inv fun hk => st_par3 g.calm g.nd a1 b1 c1 (beq_f h4) (beq_f h5) (beq_f h6) a2 b2 c2 ha (swap3_is hk a2 b2 c2 h7 h8 h9 h10 h11 h12 h13 h14 h15 h16)
    · cases hh
  · cases hh
/-- what the checker passes has its reading -/
theorem q_ann {a b : A} (hc : chk T G b = cAnn (chk T G a)) (hd : den T (callN T k) b = den T (callN T k) a) (ia : Snd F T L k G a) : Snd F T L k G b := by
  intro C X W g q hq
  rw [hc] at hq
  cases q with
  | e x => have := ia C X W g (.e x) hq; rw [← hd] at this; exact this
  | o x =>
    cases x with
    | none => cases hq
    | some x => have := ia C X W g (.o (some x)) hq; rw [← hd] at this; exact this
  | _ => cases hq
theorem sound (a : A) : Snd F T L k G a := by
  induction a with
  | non => exact q_non
  | bl b => exact q_bl
  | int i => exact q_int
  | str x => exact q_str
  | var i => exact q_var
  | gc x v => exact q_gc
  | bin op a b ia ib => exact q_bin ia ib
  | neg a ia => exact q_neg ia
  | not a ia => exact q_not ia
  | cmp op a b ia ib => exact q_cmp ia ib
  | chain o1 o2 a b c ia ib ic => exact q_chain ia ib ic
  | and a b ia ib => exact q_and ia ib
  | or a b ia ib => exact q_or ia ib
  | ife t a b it ia ib => exact q_ife it ia ib
  | lst es i => exact q_lst i
  | tup es i => exact q_tup i
  | dct ks es i => exact q_dct
  | ix a b ia ib => exact q_ix ia ib
  | sl a lo hi ia il ih => exact q_sl ia il ih
  | rev a ia => exact q_rev ia
  | fld a f ia => exact q_fld ia
  | call f es i => exact q_call i
  | make c es i => exact q_make i
  | meth a ms m es ia i => exact q_meth ia i
  | bf b es i => exact q_bf i
  | bm a m es ia i => exact q_bm ia i
  | isi a c ia => exact q_isi ia
  | sset a ia => exact q_sset ia
  | lset a ia => exact q_lset ia
  | comp e t it c own ie it' ii ic => exact q_comp ie it' ii ic
  | nil => exact q_nil
  | cons a b ia ib => exact q_cons ia ib
  | iex a ia => exact q_iex ia
  | ikv i => exact q_ikv
  | ir1 a ia => exact q_ir1 ia
  | ir2 a b ia ib => exact q_ir2 ia ib
  | ien a ia => exact q_ien ia
  | izp a b ia ib => exact q_izp ia ib
  | tn i => exact q_tn
  | tt n ts i => exact q_tt i
  | tf a f ia => exact q_tf ia
  | ts a i ia ii => exact q_ts ia ii
  | sex e i => exact q_sex i
  | sas t e it ie => exact q_sas it ie
  | spar is es i => exact q_spar i
  | aug i e ie => exact q_aug ie
  | ret e i => exact q_ret i
  | retn => exact q_retn
  | sif c a b ic ia ib => exact q_sif ic ia ib
  | swh c b ic ib => exact q_swh ic ib
  | sfor t it b it' ii ib => exact q_sfor it' ii ib
  | spass => exact q_spass
  | scont => exact q_scont
  | sbrk => exact q_sbrk
  | sraise c => exact snd_no rfl
  | stry b c s ib is => exact snd_no rfl
  | sno => exact q_sno
  | snil => exact q_snil
  | scons a b ia ib => exact q_scons ia ib
  | mu a ia => exact q_ann rfl rfl ia
  | pu a ia => exact q_ann rfl rfl ia
end
end MP

end
section
set_option linter.all false
set_option maxRecDepth 100000
/-! MPFn: the defs keep what callN tells. -/
namespace MP
open PySem L2

/-- a def of the written part and its own syntax; fd its record, ps its parameters -/
structure FnDx (F : Fx) (T : Tb) (G : Gc) (f : Nat) (fa : Addr) (fd : FuncData) (ps : List Str) : Prop where
  kp : PySem.W.keepIn F.K (.ref fa) = true
  bi : ∀ us : List Value, us.length = ps.length → bindArgs fd ⟨us, []⟩ = pure (ps.zip us)
  ex : ∃ (name qual : Str) (params : Arguments) (body : List Stmt) (scope : Scope) (dV kV doc pm cdv ct oc : Value) (an od : Option Addr) (osl : Array (Option Value)) (N : List Str) (Ft : FT),
    fd = PySem.W.fnOf name qual params body scope dV kV doc pm an cdv ct ∧ F.K.lookup fa = some ⟨oc, od, .func fd, osl⟩ ∧ PySem.W.codeIn F.K cdv qual = true ∧ FnScope N ps scope ∧ T.funs[f]? = some Ft ∧ Ft.np = ps.length ∧ Ft.ns = N.length ∧
      chk T G Ft.body ⟨N, scope, none⟩ (.ss body) = true
def FnD (F : Fx) (T : Tb) (G : Gc) (f : Nat) (fa : Addr) : Prop := ∃ fd ps, FnDx F T G f fa fd ps
/-- the facts of the text, from the tables -/
structure Tx (F : Fx) (T : Tb) (G : Gc) (mg : Str → Option Value) : Prop where
  bn : ∀ x ∈ bnNames, mg x = none
  fn : ∀ f x, G.fns[f]? = some x → x ≠ Str.empty → ∃ fa, mg x = some (.ref fa) ∧ FnD F T G f fa
  mkc : ∀ c, okC T c = true → ∃ f fa, (T.clss[c]?).bind (·.init) = some f ∧ Mk F.K (F.ca c) fa ∧ FnD F T G f fa
  cl : ∀ c x, G.clsn[c]? = some x → mg x = some (.ref (F.ca c))
  mt : ∀ c f m, (c, f, m) ∈ G.mth → ∃ fa, Cls F.K (F.ca c) ∧ Meth F.K (F.ca c) m fa ∧ FnD F T G f fa
  fld : ∀ c f, okC T c = true → f ∈ G.flds → Cls F.K (F.ca c) ∧ NoAttr F.K (F.ca c) f
  ins : ∀ c, okC T c = true → InsOk F c
  kit : ∀ c ∈ G.cis, KitOk F T c
  gc : ∀ x v, (x, v) ∈ G.gcs → ∃ u, mg x = some u ∧ (∀ n, val n v) ∧ (∀ m, tr F m v = tr F Mp.zero v) ∧ RelV (tr F Mp.zero v) u
section
variable {F : Fx} {T : Tb} {G : Gc} {P : Program} {w : World} {mg : Str → Option Value} {base : Heap}
theorem Tx.gf (t : Tx F T G mg) {L k : Nat} (h : ∀ f fa, FnD F T G f fa → Df F T P w mg base L k f fa) : Gf F T L k G P w mg base :=
  ⟨t.bn, fun f x a b => let ⟨fa, m, d⟩ := t.fn f x a b; ⟨fa, m, h _ _ d⟩, fun c a => let ⟨f, fa, i, m, d⟩ := t.mkc c a; ⟨f, fa, i, m, h _ _ d⟩, t.cl,
    fun c f m a => let ⟨fa, x, y, d⟩ := t.mt c f m a; ⟨fa, x, y, h _ _ d⟩, t.fld, t.ins, t.kit, t.gc⟩
theorem outR_is {m : Mp} {h : OH} {x : RS} {D : Ends} {Q : VK} {Ex : Nat → Hp → Prop} (hn : ∀ σ H, Q .non H → D.nx σ H) (hr : ∀ v H, Q v H → D.rt v H)
    (o : Out F m h (outR x) (fun m' h' H' v => val h'.n v → Q (tr F m' v) H') Ex) : OutS F m h x (fun m' h' H' a e' => flD F D m' h' H' a e') fun _ c _ H' => Ex c H' := by
  cases x with
  | ok f e h' =>
    cases f with
    | rt v => exact fun m' H' n _ vv => hr _ _ (o m' H' n vv)
    | nx => exact fun m' H' n _ => hn _ _ (o m' H' n trivial)
    | bk => exact (show False from o).elim
    | ct => exact (show False from o).elim
  | ex c e h' => exact o
  | no => exact (show False from o).elim
theorem start_tr {m : Mp} {Ft : FT} {N : List Str} {a : List OV} (h : Ft.ns = N.length) : trE F m (startE Ft a) = L2.start N (trs F m a) := by
  unfold startE L2.start
  show List.map _ (_ ++ _) = _
  rw [List.map_append, List.map_map, List.map_replicate, h, len_trs, trs, List.map_map]
  rfl
theorem start_val {n : Nat} {Ft : FT} {a : List OV} (v : vals n a) : valE n (startE Ft a) := fun x hx => by
  unfold startE at hx
  rcases List.mem_append.mp hx with q | q
  · obtain ⟨y, hy, e⟩ := List.mem_map.mp q
    cases e
    exact v _ hy
  · have := (List.mem_replicate.mp q).2
    cases this
/-- a def keeps what callN tells -/
theorem one_fn (t : Tx F T G mg) {k f : Nat} {fa : Addr} {fd : FuncData} {ps : List Str} (ih : ∀ f fa, FnD F T G f fa → Df F T P w mg base (2 * k) k f fa) (d : FnDx F T G f fa fd ps) : FnOk P w F.K mg base (CX P w) (2 * (k + 1)) fa fd ps (spN F T (k + 1) f) := by
  obtain ⟨kp, bi, name, qual, params, body, scope, dV, kV, doc, pm, cdv, ct, oc, an, od, osl, N, Ft, rfl, lk, cd, S, hf, hp, hns, ck⟩ := d
  have cn : ∀ a h, callN T (k + 1) f a h = if a.length = Ft.np then outR ((den T (callN T k) Ft.body).st (startE Ft a) h) else .no := fun a h => by
    show (match T.funs[f]? with | some F => if a.length = F.np then outR ((den T (callN T k) F.body).st (startE F a) h) else .no | none => .no) = _
    rw [hf]
  refine fn_of (k := 2 * k + 1) lk cd S (fun vs H Q E h => ?_) fun A outer s H vs Q E hr h => ?_
  · obtain ⟨m, h1, a, _, _, rfl, o⟩ := h
    rw [cn] at o
    split at o
    · rename_i l; rw [len_trs, l, hp]
    · exact (show False from o).elim
  · have g : Good F T (2 * k) k G ⟨N, scope, none⟩ (cxOf (CX P w) P w F.K mg base N qual scope fa cdv A outer s H E) (fun cls d _ H => E cls d H) :=
      ⟨rfl, S.nd, rfl, rfl, rfl, hr.units, takes_of rfl rfl rfl rfl, fun _ => passes_of rfl, fun x _ => rfl, hr, t.gf fun f fa d => ih f fa d⟩
    have sd := sound (F := F) (T := T) (L := 2 * k) (k := k) (G := G) Ft.body _ _ _ g (.ss body) ck
    refine ⟨_, sd, ?_⟩
    obtain ⟨m, h1, a, ok, va, rfl, o⟩ := h
    rw [cn] at o
    split at o
    · refine ⟨m, h1, startE Ft a, ok, start_val va, (start_tr hns).symm, ?_⟩
      exact outR_is (D := { nx := fun _ H' => Q .non H', rt := Q }) (fun _ _ q => q) (fun _ _ q => q) o
    · exact (show False from o).elim
theorem all_fn (t : Tx F T G mg) : ∀ (k f : Nat) (fa : Addr), FnD F T G f fa → Df F T P w mg base (2 * k) k f fa := by
  intro k
  induction k with
  | zero =>
    intro f fa ⟨fd, ps, d⟩
    refine ⟨⟨fd, ps, ⟨fun vs H Q E h => ?_, fun A outer s H args us vs Q E _ _ _ _ h => ?_⟩, .all d.bi⟩, d.kp⟩
    · obtain ⟨m, h1, a, _, _, _, o⟩ := h
      exact (show False from o).elim
    · obtain ⟨m, h1, a, _, _, _, o⟩ := h
      exact (show False from o).elim
  | succ k ih =>
    intro f fa ⟨fd, ps, d⟩
    exact ⟨⟨fd, ps, one_fn t ih d, .all d.bi⟩, d.kp⟩

/-! ### the law -/
def spLaw (T : Tb) (k f : Nat) (K : PySem.W.Frag) : Sp := fun vs H Q E => ∀ ca, ∃ sa, spN ⟨K, ca, sa⟩ T k f vs H Q E
theorem h0_ok {K : PySem.W.Frag} {ca : Nat → Addr} {a : Addr} {H : Hp} {ns : List Int} {m : Mp} (hO : Only H) (hS : SqL K H a (ns.map V.int)) : Ok ⟨K, ca, a⟩ m (h0 ns) H := by
  refine ⟨fun i l => absurd l (Nat.not_lt_zero _), fun i _ => rfl, fun i j l => absurd l (Nat.not_lt_zero _), ns, rfl, ?_⟩
  rcases hS with (q | q) | q
  · rcases hO a with z | ⟨o, xs, z⟩
    · rw [z] at q; cases q
    · rw [z] at q; cases q
  · exact .inl q
  · exact .inr q
theorem law_fn {K : PySem.W.Frag} {ca : Nat → Addr} {k f : Nat} {fa : Addr} {fd : FuncData} {ps : List Str} (t : ∀ sa, Tx ⟨K, ca, sa⟩ T G mg) (d : ∀ sa, FnDx ⟨K, ca, sa⟩ T G f fa fd ps) :
    FnOk P w K mg base (CX P w) (2 * (k + 1)) fa fd ps (spLaw T (k + 1) f K) := by
  have F1 := fun sa => one_fn (F := ⟨K, ca, sa⟩) (P := P) (w := w) (base := base) (t sa) (k := k) (fun f fa d => all_fn (t sa) k f fa d) (d sa)
  refine ⟨fun vs H Q E h => ?_, fun A outer s H args us vs Q E hr he hb hv h => ?_⟩
  · obtain ⟨sa, h⟩ := h ca
    exact (F1 sa).len vs H Q E h
  · obtain ⟨sa, h⟩ := h ca
    exact (F1 sa).run A outer s H args us vs Q E hr he hb hv h
/-- the law's walk, from the plain law -/
theorem walk_law {l : PySem.W.OpenLaw} {n k f : Nat} {q : Program} {loose : List Str} {XP : (Str → Option Value) → Heap → Prop} {YP : World → Heap → Prop} {d : DefRec} {K : Params → PySem.W.Frag} {x : Str}
    (T : Tb) (hn : l.most = some n) (hn2 : n ≤ sizeLine) (hdf : d.params.defaults = []) (hr : Room (2 * (k + 1)) callerA)
    (hY : ∀ (w : World) (h : Heap), YP w h → (K w.params).In h)
    (plain : ∀ ns : List Int, ns.length ≤ n → ∃ h, callN T (k + 1) f [.scr] (h0 ns) = .ok (.bl true) h)
    (hF : ∀ (w : World) (mg : Str → Option Value) (fa : Addr) (h : Heap), (K w.params).In h → h.Ns mainGlobals mg → mg d.name = some (.ref fa) →
      ∃ (G : Gc) (ca : Nat → Addr) (fd : FuncData), ∀ sa, Tx ⟨K w.params, ca, sa⟩ T G mg ∧ FnDx ⟨K w.params, ca, sa⟩ T G f fa fd [x]) :
    PySem.W.WalkO q loose XP YP l.row.toRowW d [] (fun f vs => PySem.call f vs) := by
  refine L2.walk_of (n := n) (k := 2 * (k + 1)) (x := x) (CX := fun w => CX l.prog w) (sp := fun w => spLaw T (k + 1) f (K w.params)) hn hn2 hdf hr hY (fun w mg fa h KX G hmg => ?_) (fun w H a ns hl hO hS => ?_) fun w H s e s' z => ?_
  · obtain ⟨G, ca, fd, tx⟩ := hF w mg fa h KX G hmg
    refine ⟨fd, fun s u => .of_eq ((tx 0).2.bi [u] rfl), fun base _ _ => law_fn (fun sa => (tx sa).1) fun sa => (tx sa).2⟩
  · intro ca
    refine ⟨a, Mp.zero, h0 ns, [.scr], h0_ok hO hS, vals_cons trivial vals_nil, rfl, ?_⟩
    obtain ⟨h, e⟩ := plain ns hl
    rw [e]
    exact fun m' H' _ _ => rfl
  · obtain ⟨_, _, _, _, _, _, _, _, _, _, _, _, w⟩ := z
    exact w
end
end MP

end
section
set_option linter.all false
set_option maxRecDepth 100000
/-! MPEnd: the facts of a text from lists. -/
namespace MP
open PySem L2

def AtL {α : Type} (Pr : Nat → α → Prop) : Nat → List α → Prop
  | _, [] => True
  | n, x :: r => Pr n x ∧ AtL Pr (n + 1) r
theorem AtL.get {α : Type} {Pr : Nat → α → Prop} : ∀ {l : List α} {n : Nat}, AtL Pr n l → ∀ (i : Nat) (x : α), l[i]? = some x → Pr (n + i) x
  | [], _, _, i, x, e => by simp at e
  | y :: r, n, h, 0, x, e => by simp at e; subst e; exact h.1
  | y :: r, n, h, i + 1, x, e => by
    have q := AtL.get h.2 i x (by simpa using e)
    rw [show n + (i + 1) = n + 1 + i by omega]
    exact q
theorem AtL.get0 {α : Type} {Pr : Nat → α → Prop} {l : List α} (h : AtL Pr 0 l) (i : Nat) (x : α) (e : l[i]? = some x) : Pr i x := by
  have q := h.get i x e
  rw [Nat.zero_add] at q
  exact q
theorem AtL.mem {α : Type} {Pr : α → Prop} {l : List α} (h : AtL (fun _ => Pr) 0 l) : ∀ x ∈ l, Pr x := fun x hx => by
  obtain ⟨i, e⟩ := List.mem_iff_getElem?.mp hx
  exact h.get0 i x e

/-- a def as it lies in the written part: st its statement -/
structure FnH (K : PySem.W.Frag) (x qual : Str) (st : Stmt) (fa : Addr) (fd : FuncData) : Prop where
  kp : PySem.W.keepIn K (.ref fa) = true
  ex : ∃ (dV kV doc pm cdv ct oc : Value) (an od : Option Addr) (osl : Array (Option Value)), fd = PySem.W.fnOf x qual (defArgs st) (defBody st) (defScope st) .none kV doc pm an cdv ct ∧
    K.lookup fa = some ⟨oc, od, .func fd, osl⟩ ∧ PySem.W.codeIn K cdv qual = true
section
variable {K : PySem.W.Frag} {F : Fx} {T : Tb} {G : Gc} {mg : Str → Option Value}
theorem fnH_mk {x qual : Str} {st : Stmt} {fa : Addr} {kV doc pm cdv ct oc : Value} {an od : Option Addr} {osl : Array (Option Value)} (l : K.lookup fa = some ⟨oc, od, .func (PySem.W.fnOf x qual (defArgs st) (defBody st) (defScope st) .none kV doc pm an cdv ct), osl⟩)
    (c : PySem.W.codeIn K cdv qual = true) (k : PySem.W.keepIn K (.ref fa) = true) : FnH K x qual st fa (PySem.W.fnOf x qual (defArgs st) (defBody st) (defScope st) .none kV doc pm an cdv ct) := ⟨k, .none, kV, doc, pm, cdv, ct, oc, an, od, osl, rfl, l, c⟩
/-- with its own syntax -/
theorem FnH.d {x qual : Str} {st : Stmt} {fa : Addr} {fd : FuncData} {f : Nat} {N ps : List Str} {Ft : FT} (h : FnH F.K x qual st fa fd) (hs : C8.scC N ps (defScope st) = true) (hf : T.funs[f]? = some Ft) (hp : Ft.np = ps.length) (hn : Ft.ns = N.length)
    (ck : chk T G Ft.body ⟨N, defScope st, none⟩ (.ss (defBody st)) = true)
    (hb : ∀ (kV doc pm : Value) (an : Option Addr) (cdv ct : Value) (us : List Value), us.length = ps.length → bindArgs (PySem.W.fnOf x qual (defArgs st) (defBody st) (defScope st) .none kV doc pm an cdv ct) ⟨us, []⟩ = pure (ps.zip us)) :
    FnDx F T G f fa fd ps := by
  obtain ⟨kp, dV, kV, doc, pm, cdv, ct, oc, an, od, osl, rfl, l, c⟩ := h
  exact ⟨kp, hb kV doc pm an cdv ct, x, qual, _, _, _, .none, kV, doc, pm, cdv, ct, oc, an, od, osl, N, Ft, rfl, l, c, C8.fnScope_by hs, hf, hp, hn, ck⟩
theorem FnDx.fnD {f : Nat} {fa : Addr} {fd : FuncData} {ps : List Str} (d : FnDx F T G f fa fd ps) : FnD F T G f fa := ⟨fd, ps, d⟩
/-- built-in types in the kit's deciders -/
theorem kit_b {c : CI} {n m : String} {b : Bool} (hm : ciV F c = .type m) (h : kitB n m = some b) : PySem.W.kitOne F.K (.type n) (ciV F c) = some b := by
  rw [hm]; exact kit_ty h
theorem kit_own {t : Value} {C : Addr} {b : Bool} {cd : ClassData} (hc : PySem.W.clsIn K C = some cd) (ht : PySem.W.typeIn K (.ref C) = some (.type "type")) (hs : PySem.W.subIn K t (.ref C) = some b) (hb : (t == .ref C) = true → b = true) :
    PySem.W.kitOne K t (.ref C) = some b := by
  unfold PySem.W.kitOne
  by_cases e : (t == .ref C) = true
  · rw [if_pos e, hb e]
  · rw [if_neg e]
    unfold PySem.W.kitCls
    dsimp only
    rw [hc, ht, if_pos (show ((some cd).isSome && some (Value.type "type") == some (Value.type "type")) = true from by rw [beq_self_eq_true] <;> rfl)]
    exact hs
theorem kit_bt {t : Value} {n : String} {b : Bool} (hm : PySem.W.kitMeta n = true) (hs : PySem.W.subIn K t (.type n) = some b) (hb : (t == .type n) = true → b = true) : PySem.W.kitOne K t (.type n) = some b := by
  unfold PySem.W.kitOne
  by_cases e : (t == .type n) = true
  · rw [if_pos e, hb e]
  · rw [if_neg e]
    unfold PySem.W.kitCls
    dsimp only
    rw [if_pos hm]
    exact hs
theorem kit_oo {Ck Cd : Addr} {b : Bool} {cd : ClassData} (hc : PySem.W.clsIn K Cd = some cd) (ht : PySem.W.typeIn K (.ref Cd) = some (.type "type")) (hself : PySem.W.subIn K (.ref Cd) (.ref Cd) = some true) (hs : PySem.W.subIn K (.ref Ck) (.ref Cd) = some b) :
    PySem.W.kitOne K (.ref Ck) (.ref Cd) = some b := kit_own hc ht hs fun e => by
  by_cases q : Ck = Cd
  · subst q; rw [hself] at hs; cases hs; rfl
  · exact absurd e (by simpa using q)
theorem kit_to {n : String} {Cd : Addr} {cd : ClassData} {b : Bool} (hc : PySem.W.clsIn K Cd = some cd) (ht : PySem.W.typeIn K (.ref Cd) = some (.type "type")) (hs : PySem.W.subIn K (.type n) (.ref Cd) = some b) :
    PySem.W.kitOne K (.type n) (.ref Cd) = some b := kit_own hc ht hs fun e => nomatch e
theorem kit_ot {n : String} {Ck : Addr} {b : Bool} (hm : PySem.W.kitMeta n = true) (hs : PySem.W.subIn K (.ref Ck) (.type n) = some b) : PySem.W.kitOne K (.ref Ck) (.type n) = some b := kit_bt hm hs fun e => nomatch e
theorem okC_get {c : Nat} (h : okC T c = true) : ∃ t, T.clss[c]? = some t ∧ t.init.isSome = true := by
  unfold okC at h
  split at h
  · rename_i t e; exact ⟨t, e, h⟩
  · cases h
theorem tx_of (bn : AtL (fun _ x => mg x = none) 0 bnNames)
    (fn : AtL (fun f x => x ≠ Str.empty → ∃ fa, mg x = some (.ref fa) ∧ FnD F T G f fa) 0 G.fns)
    (mkc : AtL (fun c t => t.init.isSome = true → ∃ f fa, t.init = some f ∧ L2.Mk F.K (F.ca c) fa ∧ FnD F T G f fa) 0 T.clss)
    (cl : AtL (fun c x => mg x = some (.ref (F.ca c))) 0 G.clsn)
    (mt : AtL (fun _ q => ∃ fa, L2.Cls F.K (F.ca q.1) ∧ L2.Meth F.K (F.ca q.1) q.2.2 fa ∧ FnD F T G q.2.1 fa) 0 G.mth)
    (ins : AtL (fun c t => t.init.isSome = true → InsOk F c) 0 T.clss)
    (fld : AtL (fun c t => t.init.isSome = true → AtL (fun _ f => L2.NoAttr F.K (F.ca c) f) 0 G.flds) 0 T.clss)
    (kit : AtL (fun _ c => KitOk F T c) 0 G.cis)
    (gc : AtL (fun _ p => ∃ u, mg p.1 = some u ∧ (∀ n, val n p.2) ∧ (∀ m, tr F m p.2 = tr F Mp.zero p.2) ∧ L2.RelV (tr F Mp.zero p.2) u) 0 G.gcs) : Tx F T G mg := by
  refine ⟨bn.mem, fn.get0, fun c h => ?_, cl.get0, fun c f m h => mt.mem (c, f, m) h, fun c f h hf => ?_, fun c h => ?_, kit.mem, fun x v h => gc.mem (x, v) h⟩
  · obtain ⟨t, e, i⟩ := okC_get h
    obtain ⟨f, fa, a, b⟩ := mkc.get0 c t e i
    exact ⟨f, fa, by rw [e]; exact a, b⟩
  · obtain ⟨t, e, i⟩ := okC_get h
    exact ⟨(ins.get0 c t e i).cl, (fld.get0 c t e i).mem f hf⟩
  · obtain ⟨t, e, i⟩ := okC_get h
    exact ins.get0 c t e i
end
end MP

end
section
set_option linter.all false
set_option maxRecDepth 100000
/-! MHCore: the second semantics: what is never changed is a tree, what is changed lies in a small heap. -/
namespace MH
open MP
open PySem

inductive HV where
  | non | bl (b : Bool) | int (i : Int) | str (x : Str) | sc (ns : List Int)
  | ref (n : Nat)
  | fl (xs : List HV) | ft (xs : List HV) | fd (b : Bool) (kvs : List (Str × HV)) | fi (c : Nat) (fs : List (Str × HV))
instance : Inhabited HV := ⟨.non⟩
inductive HO where
  | lst (xs : List HV)
  | dct (b : Bool) (kvs : List (Str × HV))
  | ins (c : Nat) (fs : List (Str × HV))
abbrev HH := List HO
inductive HR (α : Type) where
  | ok (a : α) (h : HH)
  | ex (c : Nat) (h : HH)
  | no
def HR.bind {α β : Type} (x : HR α) (f : α → HH → HR β) : HR β :=
  match x with
  | .ok a h => f a h
  | .ex c h => .ex c h
  | .no => .no
abbrev HE := List (Option HV)
inductive HF where
  | nx | bk | ct | rt (v : HV)
inductive HS where
  | ok (f : HF) (e : HE) (h : HH)
  | ex (c : Nat) (e : HE) (h : HH)
  | no
def HR.thenS {α : Type} (x : HR α) (e : HE) (f : α → HH → HS) : HS :=
  match x with
  | .ok a h => f a h
  | .ex c h => .ex c e h
  | .no => .no
def HS.bind (x : HS) (f : HF → HE → HH → HS) : HS :=
  match x with
  | .ok a e h => f a e h
  | .ex c e h => .ex c e h
  | .no => .no
def HR.of {α : Type} (o : Option α) (h : HH) : HR α := match o with | some a => .ok a h | none => .no

/-! ### values -/
def flatH : HV → Bool
  | .non => true | .bl _ => true | .int _ => true | .str _ => true
  | _ => false
/-- no references within -/
def rf : HV → Bool
  | .ref _ => false
  | .fl xs => rfs xs
  | .ft xs => rfs xs
  | .fd _ kvs => rfk kvs
  | .fi _ fs => rfk fs
  | _ => true
where
  rfs : List HV → Bool
    | [] => true
    | x :: xs => rf x && rfs xs
  rfk : List (Str × HV) → Bool
    | [] => true
    | (_, x) :: xs => rf x && rfk xs
def mapK {β γ : Type} (f : β → Option γ) : List (Str × β) → Option (List (Str × γ))
  | [] => some []
  | (k, x) :: xs => match f x with
    | some y => match mapK f xs with | some ys => some ((k, y) :: ys) | none => none
    | none => none
/-- a value as a tree -/
def vw : Nat → HH → HV → Option HV
  | 0, _, x => bif rf x then some x else none
  | k + 1, h, x => bif rf x then some x else
    match x with
    | .fl xs => (mapO (vw k h) xs).map .fl
    | .ft xs => (mapO (vw k h) xs).map .ft
    | .fd b kvs => (mapK (vw k h) kvs).map (.fd b)
    | .fi c fs => (mapK (vw k h) fs).map (.fi c)
    | .ref n => match h[n]? with
      | some (.lst xs) => (mapO (vw k h) xs).map .fl
      | some (.dct b kvs) => (mapK (vw k h) kvs).map (.fd b)
      | some (.ins c fs) => (mapK (vw k h) fs).map (.fi c)
      | none => none
    | _ => none
def VD : Nat := 12
def allV (h : HH) (xs : List HV) : Option (List HV) := mapO (vw VD h) xs
/-- equal trees of lists, tuples and plain values -/
def eqTs (f : HV → HV → Option Bool) : List HV → List HV → Option Bool
  | [], [] => some true
  | x :: xs, y :: ys => match f x y with
    | some b => match eqTs f xs ys with | some c => some (b && c) | none => none
    | none => none
  | _, _ => some false
def okS (x : Str) : Bool := x.cps.toList.all fun c => Nat.blt c 1114112
def okT : Nat → HV → Bool
  | _, .non => true
  | _, .bl _ => true
  | _, .int _ => true
  | _, .str x => okS x
  | k + 1, .fl xs => xs.all (okT k)
  | k + 1, .ft xs => xs.all (okT k)
  | _, _ => false
def eqT : Nat → HV → HV → Bool
  | _, .non, .non => true
  | _, .bl a, .bl b => a == b
  | _, .bl a, .int b => (if a then 1 else 0) == b
  | _, .int a, .bl b => a == (if b then 1 else 0)
  | _, .int a, .int b => a == b
  | _, .str a, .str b => strEq a b
  | k + 1, .fl xs, .fl ys => all2 (eqT k) xs ys
  | k + 1, .ft xs, .ft ys => all2 (eqT k) xs ys
  | _, _, _ => false
where all2 (f : HV → HV → Bool) : List HV → List HV → Bool
  | [], [] => true
  | x :: xs, y :: ys => bif f x y then all2 f xs ys else false
  | _, _ => false
def lstH (h : HH) : HV → Option (List HV)
  | .fl xs => some xs
  | .ref n => match h[n]? with | some (.lst xs) => some xs | _ => none
  | _ => none
/-- a new list, a new dict: a tree, or in the heap -/
def mkL (mu : Bool) (xs : List HV) (h : HH) : HR HV := bif mu then .ok (.ref h.length) (h ++ [.lst xs]) else .ok (.fl xs) h
def mkD (mu : Bool) (kvs : List (Str × HV)) (h : HH) : HR HV := bif mu then .ok (.ref h.length) (h ++ [.dct false kvs]) else .ok (.fd false kvs) h
def binH (mu : Bool) (op : BOp) (x y : HV) (h : HH) : HR HV :=
  match op, x, y with
  | .add, .int i, .int j => .ok (.int (i + j)) h
  | .add, .str a, .str b => if a.length + b.length ≤ LIM then .ok (.str (a ++ b)) h else .no
  | .add, x, y => match lstH h x, lstH h y with
    | some xs, some ys => if xs.length + ys.length ≤ LIM then mkL mu (xs ++ ys) h else .no
    | _, _ => .no
  | .sub, .int i, .int j => .ok (.int (i - j)) h
  | .mul, .int i, .int j => if mulOk i j = true then .ok (.int (i * j)) h else .no
  | .mul, x, .int k => match lstH h x with
    | some xs => if 0 ≤ k ∧ k < 1000 ∧ xs.length < 1000 then mkL mu (List.replicate k.toNat xs).flatten h else .no
    | _ => .no
  | .fdiv, .int i, .int j => if 0 < j ∧ j < 1073741824 then .ok (.int (i / j)) h else .no
  | .mod, .int i, .int j => if 0 < j then .ok (.int (i % j)) h else .no
  | .pow, .int i, .int j => if 0 ≤ j ∧ j ≤ 1000 ∧ i.natAbs < 2 ^ 64 then .ok (.int (i ^ j.toNat)) h else .no
  | _, _, _ => .no
def eqFH : HV → HV → Bool
  | .non, .non => true
  | .bl a, .bl b => a == b
  | .bl a, .int b => (if a then 1 else 0) == b
  | .int a, .bl b => a == (if b then 1 else 0)
  | .int a, .int b => a == b
  | .str a, .str b => strEq a b
  | _, _ => false
def eqH (h : HH) (x y : HV) : Option Bool :=
  match vw VD h x, vw VD h y with
  | some a, some b => if okT 20 a && okT 20 b then some (eqT 20 a b) else none
  | _, _ => none
def seqH (h : HH) : HV → Option (List HV)
  | .ft xs => some xs
  | x => lstH h x
def dctH (h : HH) : HV → Option (List (Str × HV))
  | .fd _ kvs => some kvs
  | .ref n => match h[n]? with | some (.dct _ kvs) => some kvs | _ => none
  | _ => none
/-- a dict that is not locked -/
def dctU (h : HH) : HV → Option (List (Str × HV))
  | .fd false kvs => some kvs
  | .ref n => match h[n]? with | some (.dct false kvs) => some kvs | _ => none
  | _ => none
def inH (h : HH) (x y : HV) : Option Bool :=
  match y with
  | .str b => match x with | .str a => (match a.cps.toList with | [c] => some (b.cps.toList.any (Nat.beq c)) | _ => some (!(Builtin.Str.occurrences b a 0 b.length 1).isEmpty)) | _ => none
  | y => match seqH h y with
    | some xs => if flatH x && xs.all flatH then some (xs.any fun y => eqFH y x) else none
    | none => match dctH h y with
      | some kvs => match x with | .str k => some (lookK kvs k).isSome | _ => none
      | none => none
def isH : HV → HV → Option Bool
  | x, .non => some (match x with | .non => true | _ => false)
  | .bl a, .bl b => some (decide (a = b))
  | _, _ => none
def cmpH (op : COp) (x y : HV) (h : HH) : Option Bool :=
  match op with
  | .lt => match x, y with | .int i, .int j => some (decide (i < j)) | .str a, .str b => some (strLt a b) | _, _ => none
  | .le => match x, y with | .int i, .int j => some (decide (i ≤ j)) | _, _ => none
  | .gt => match x, y with | .int i, .int j => some (decide (j < i)) | _, _ => none
  | .ge => match x, y with | .int i, .int j => some (decide (j ≤ i)) | _, _ => none
  | .eq => eqH h x y
  | .ne => (eqH h x y).map (!·)
  | .isin => inH h x y
  | .nin => (inH h x y).map (!·)
  | .is => isH x y
  | .isn => (isH x y).map (!·)
def truH (h : HH) : HV → Option Bool
  | .non => some false
  | .bl b => some b
  | .int i => some (i != 0)
  | .str x => if x.length ≤ LIM then some ((x.length : Int) != 0) else none
  | .sc ns => some (!ns.isEmpty)
  | x => (seqH h x).map (!·.isEmpty)
def ixH (x y : HV) (h : HH) : HR HV :=
  match y with
  | .int i => match x with
    | .str z => if z.length ≤ LIM then HR.of ((L2.atI z.cps.toList i).map fun c => HV.str ⟨#[c]⟩) h else .no
    | .sc ns => HR.of ((L2.atI ns i).map HV.int) h
    | _ => HR.of ((seqH h x).bind fun xs => L2.atI xs i) h
  | .str k => HR.of ((dctH h x).bind fun kvs => lookK kvs k) h
  | _ => .no
def slH (mu : Bool) (x : HV) (lo hi : Option Int) (h : HH) : HR HV :=
  match x with
  | .str z => if z.length ≤ LIM then .ok (.str (L2.cutS z lo hi)) h else .no
  | .sc ns => mkL mu (cut (ns.map HV.int) lo hi) h
  | _ => match lstH h x with | some xs => mkL mu (cut xs lo hi) h | none => .no
def setH (x y v : HV) (h : HH) : HR Unit :=
  match x with
  | .ref n => match h[n]? with
    | some (.lst xs) => match y with | .int i => (match L2.ixN xs.length i with | some j => .ok () (h.set n (.lst (xs.set j v))) | none => .no) | _ => .no
    | some (.dct false kvs) => match y with | .str k => if kvs.length ≤ LIM then .ok () (h.set n (.dct false (putK kvs k v))) else .no | _ => .no
    | _ => .no
  | _ => .no
def insH (h : HH) : HV → Option (Nat × List (Str × HV))
  | .fi c fs => some (c, fs)
  | .ref n => match h[n]? with | some (.ins c fs) => some (c, fs) | _ => none
  | _ => none
def fldH (T : Tb) (x : HV) (f : Str) (h : HH) : HR HV :=
  match insH h x with
  | some (c, fs) => if okC T c = true then HR.of (lookK fs f) h else .no
  | none => .no
def setFH (T : Tb) (x : HV) (f : Str) (v : HV) (h : HH) : HR Unit :=
  match x with
  | .ref n => match h[n]? with | some (.ins c fs) => if okC T c = true ∧ fs.length < 900 then .ok () (h.set n (.ins c (putF fs f v))) else .no | _ => .no
  | _ => .no
def strsH : List HV → Option (List Str)
  | [] => some []
  | .str x :: r => match strsH r with | some xs => some (x :: xs) | none => none
  | _ => none
def intsH : List HV → Option (List Int)
  | [] => some []
  | .int x :: r => match intsH r with | some xs => some (x :: xs) | none => none
  | _ => none
def boolsH : List HV → Option (List Bool)
  | [] => some []
  | .bl x :: r => match boolsH r with | some xs => some (x :: xs) | none => none
  | _ => none
def tkeyH : HV → Option TKey
  | .ft (.str x :: _) => some (.s x)
  | .ft [.int i, .str x] => some (.is i x)
  | _ => none
def pairLtH (a b : TKey × HV) : Bool := tlt a.1 b.1
def sortedH (mu : Bool) (xs : List HV) (h : HH) : HR HV :=
  match strsH xs with
  | some ss => mkL mu ((sortBy strLt ss).map .str) h
  | none => match intsH xs with
    | some is => mkL mu ((sortBy (fun a b => decide (a < b)) is).map .int) h
    | none => match mapO tkeyH xs with
      | some ks => if tkeysOk ks then mkL mu ((sortBy pairLtH (ks.zip xs)).map (·.2)) h else .no
      | none => .no
def pairsH : List HV → Option (List (Str × HV))
  | [] => some []
  | .ft [.str k, v] :: r => match pairsH r with | some ps => some ((k, v) :: ps) | none => none
  | _ => none
def bfH (mu : Bool) (b : BF) (xs : List HV) (h : HH) : HR HV :=
  match b, xs with
  | .len, [x] => match x with
    | .str z => if z.length ≤ LIM then .ok (.int z.length) h else .no
    | .sc ns => .ok (.int ns.length) h
    | _ => match seqH h x with
      | some ys => .ok (.int ys.length) h
      | none => match dctU h x with
        | some kvs => .ok (.int kvs.length) h
        | none => .no
  | .all, [x] => match (lstH h x).bind boolsH with | some bs => .ok (.bl (bs.all id)) h | none => .no
  | .any, [x] => match (lstH h x).bind boolsH with | some bs => .ok (.bl (bs.any id)) h | none => .no
  | .list, [x] => match x with
    | .sc ns => mkL mu (ns.map .int) h
    | _ => match seqH h x with
      | some ys => mkL mu ys h
      | none => match dctU h x with
        | some kvs => mkL mu (kvs.map fun p => .str p.1) h
        | none => .no
  | .dict, [x] => match dctU h x with
    | some kvs => mkD mu kvs h
    | none => match (lstH h x).bind pairsH with
      | some ps => mkD mu (mergeP [] ps) h
      | none => .no
  | .max, [x] => match (lstH h x).bind intsH with | some (i :: is) => .ok (.int (maxI i is)) h | _ => .no
  | .min, [.int i, .int j] => .ok (.int (if j < i then j else i)) h
  | .sorted, [x] => match lstH h x with | some ys => sortedH mu ys h | none => .no
  | .abs, [.int i] => .ok (.int (if i < 0 then -i else i)) h
  | .tuple, [x] => match lstH h x with | some ys => .ok (.ft ys) h | none => .no
  | _, _ => .no
def firstH (x : HV) : List HV → Nat → Option Nat
  | [], _ => none
  | y :: r, i => if eqFH y x then some i else firstH x r (i + 1)
/-- a list that is to be changed -/
def refL (h : HH) : HV → Option (Nat × List HV)
  | .ref n => match h[n]? with | some (.lst xs) => some (n, xs) | _ => none
  | _ => none
def bmH (m : BM) (x : HV) (vs : List HV) (h : HH) : HR HV :=
  match m, vs with
  | .append, [v] => match refL h x with
    | some (n, xs) => if xs.length < LIM then .ok .non (h.set n (.lst (xs ++ [v]))) else .no
    | none => .no
  | .extend, [v] => match refL h x, lstH h v with
    | some (n, xs), some ys => if xs.length + ys.length ≤ LIM then .ok .non (h.set n (.lst (xs ++ ys))) else .no
    | _, _ => .no
  | .insert, [.int i, v] => match refL h x with
    | some (n, xs) => if 0 ≤ i ∧ i < 1000000 ∧ xs.length < LIM then .ok .non (h.set n (.lst (xs.take i.toNat ++ [v] ++ xs.drop i.toNat))) else .no
    | none => .no
  | .pop0, [] => match refL h x with
    | some (n, xs) => (match xs[xs.length - 1]? with | some y => .ok y (h.set n (.lst xs.dropLast)) | none => .no)
    | none => .no
  | .pop, [v] => match x with
    | .ref n => match h[n]?, v with
      | some (.lst xs), .int i => if -1000000 ≤ i ∧ i < 1000000 then (match L2.ixN xs.length i with | some k => (match xs[k]? with | some y => .ok y (h.set n (.lst (xs.eraseIdx k))) | none => .no) | none => .no) else .no
      | some (.dct false kvs), .str k => (match lookK kvs k with | some y => .ok y (h.set n (.dct false (dropK kvs k))) | none => .no)
      | _, _ => .no
    | _ => .no
  | .pop2, [.str k, d] => match x with
    | .ref n => match h[n]? with
      | some (.dct false kvs) => (match lookK kvs k with | some y => .ok y (h.set n (.dct false (dropK kvs k))) | none => .ok d h)
      | _ => .no
    | _ => .no
  | .reverse, [] => match refL h x with
    | some (n, xs) => .ok .non (h.set n (.lst xs.reverse))
    | none => .no
  | .clear, [] => match refL h x with
    | some (n, xs) => .ok .non (h.set n (.lst []))
    | none => .no
  | .index, [v] => match lstH h x with
    | some xs => if flatH v && xs.all flatH then (match firstH v xs 0 with | some i => .ok (.int i) h | none => .no) else .no
    | none => .no
  | .get2, [.str k, d] => match dctU h x with
    | some kvs => .ok ((lookK kvs k).getD d) h
    | none => .no
  | .endswith, [.str b] => match x with | .str a => .ok (.bl (Txt.endswith a b)) h | _ => .no
  | .join, [v] => match x with
    | .str a => match (lstH h v).bind strsH with
      | some ys => if (ys.map (·.length)).sum + ys.length * a.length ≤ LIM then .ok (.str (Txt.join a ys)) h else .no
      | none => .no
    | _ => .no
  | _, _ => .no
def isiH (T : Tb) (h : HH) (v : HV) (c : CI) : Option Bool :=
  match v with
  | .non => some false
  | .bl _ => some (c == .bool || c == .int)
  | .int _ => some (c == .int)
  | .str _ => some (c == .str)
  | .fl _ => some (c == .lst)
  | .ft _ => some (c == .tup)
  | .fd false _ => some false
  | .fi k _ => if okC T k = true then some (isOwn T k c) else none
  | .ref n => match h[n]? with
    | some (.lst _) => some (c == .lst)
    | some (.dct false _) => some false
    | some (.ins k _) => if okC T k = true then some (isOwn T k c) else none
    | _ => none
  | _ => none
def rcvH (x : HV) (h : HH) : Option RK :=
  match x with
  | .str _ => some .str
  | .fl _ => some .lst
  | .fd false _ => some .dct
  | .ref n => match h[n]? with
    | some (.lst _) => some .lst
    | some (.dct false _) => some .dct
    | _ => none
  | _ => none
def bmKH (k : RK) (m : BM) (x : HV) (vs : List HV) (h : HH) : HR HV := if rcvH x h = some k then bmH m x vs h else .no
/-! ### what is walked -/
inductive HSrc where
  | its (xs : List HV)
  | liv (n : Nat) | enl (n : Nat)
  | keys (n : Nat) (own : Bool) (ks : List HV)
def srcH (v : HV) (h : HH) : HR (HSrc × Nat) :=
  match v with
  | .sc ns => .ok (.its (ns.map .int), ns.length) h
  | .str z => .ok (.its (z.cps.toList.map fun c => .str ⟨#[c]⟩), z.cps.toList.length) h
  | .fl xs => .ok (.its xs, xs.length) h
  | .ft xs => .ok (.its xs, xs.length) h
  | .ref n => match h[n]? with
    | some (.lst xs) => .ok (.liv n, xs.length) h
    | _ => .no
  | _ => .no
def keysH (kvs : List (Str × HV)) : List HV := kvs.map fun p => .str p.1
def srcKH (v : HV) (h : HH) : HR (HSrc × Nat) :=
  match v with
  | .ref n => match h[n]? with
    | some (.dct false kvs) => .ok (.keys n true (keysH kvs), kvs.length) (h.set n (.dct true kvs))
    | some (.dct true kvs) => .ok (.keys n false (keysH kvs), kvs.length) h
    | _ => srcH v h
  | _ => srcH v h
def unlockH (s : HSrc) (h : HH) : Option HH :=
  match s with
  | .keys n true _ => match h[n]? with | some (.dct true kvs) => some (h.set n (.dct false kvs)) | _ => none
  | _ => some h
def wipeH (e : HE) : List Nat → HE
  | [] => e
  | v :: vs => (wipeH e vs).set v none
/-- the i-th item of a list in the heap -/
def livH (s : HSrc) (i : Nat) (h : HH) : HR HV :=
  match s with
  | .liv n => match h[n]? with | some (.lst xs) => HR.of xs[i]? h | _ => .no
  | .enl n => match h[n]? with | some (.lst xs) => (match xs[i]? with | some x => .ok (.ft [.int i, x]) h | none => .no) | _ => .no
  | _ => .no
def endH (s : HSrc) (n : Nat) (h : HH) : Bool :=
  match s with
  | .liv a => match h[a]? with | some (.lst xs) => xs.length == n | _ => false
  | .enl a => match h[a]? with | some (.lst xs) => xs.length == n | _ => false
  | _ => false
/-! ### loops -/
def whH : Nat → (HE → HH → HR Bool) → (HE → HH → HS) → HE → HH → HS
  | 0, _, _, _, _ => .no
  | n + 1, t, b, e, h => (t e h).thenS e fun c h1 => if c = true then (b e h1).bind fun f e1 h2 => match f with
      | .nx => whH n t b e1 h2
      | .ct => whH n t b e1 h2
      | .bk => .ok .nx e1 h2
      | .rt v => .ok (.rt v) e1 h2
    else .ok .nx e h1
def forI (tg : HV → HE → HH → HR HE) (b : HE → HH → HS) : List HV → HE → HH → HS
  | [], e, h => .ok .nx e h
  | x :: r, e, h => (tg x e h).thenS e fun e1 h2 => (b e1 h2).bind fun f e2 h3 => match f with
      | .nx => forI tg b r e2 h3
      | .ct => forI tg b r e2 h3
      | .bk => .ok .nx e2 h3
      | .rt v => .ok (.rt v) e2 h3
def forL (s : HSrc) (tg : HV → HE → HH → HR HE) (b : HE → HH → HS) : Nat → Nat → HE → HH → HS
  | 0, i, e, h => if endH s i h = true then .ok .nx e h else .no
  | n + 1, i, e, h => (livH s i h).thenS e fun x h1 => (tg x e h1).thenS e fun e1 h2 => (b e1 h2).bind fun f e2 h3 => match f with
      | .nx => forL s tg b n (i + 1) e2 h3
      | .ct => forL s tg b n (i + 1) e2 h3
      | .bk => .ok .nx e2 h3
      | .rt v => .ok (.rt v) e2 h3
def forH (s : HSrc × Nat) (tg : HV → HE → HH → HR HE) (b : HE → HH → HS) (e : HE) (h : HH) : HS :=
  match s.1 with
  | .its xs => forI tg b xs e h
  | .keys _ _ _ => .no
  | q => forL q tg b s.2 0 e h
def lcI (tg : HV → HE → HH → HR HE) (c : HE → HH → HR Bool) (m : HE → HH → HR HV) (e : HE) : List HV → HH → HR (List HV)
  | [], h => .ok [] h
  | x :: r, h => (tg x e h).bind fun e1 h2 => (c e1 h2).bind fun k h3 =>
      if k = true then (m e1 h3).bind fun y h4 => (lcI tg c m e r h4).bind fun ys h5 => .ok (y :: ys) h5
      else lcI tg c m e r h3
def lcL (s : HSrc) (tg : HV → HE → HH → HR HE) (c : HE → HH → HR Bool) (m : HE → HH → HR HV) (e : HE) : Nat → Nat → HH → HR (List HV)
  | 0, i, h => if endH s i h = true then .ok [] h else .no
  | n + 1, i, h => (livH s i h).bind fun x h1 => (tg x e h1).bind fun e1 h2 => (c e1 h2).bind fun k h3 =>
      if k = true then (m e1 h3).bind fun y h4 => (lcL s tg c m e n (i + 1) h4).bind fun ys h5 => .ok (y :: ys) h5
      else lcL s tg c m e n (i + 1) h3
def lcH (s : HSrc × Nat) (tg : HV → HE → HH → HR HE) (c : HE → HH → HR Bool) (m : HE → HH → HR HV) (e : HE) (h : HH) : HR (List HV) :=
  match s.1 with
  | .its xs => lcI tg c m e xs h
  | .keys _ _ ks => lcI tg c m e ks h
  | q => lcL q tg c m e s.2 0 h

/-! ### what a piece of syntax does -/
structure HD where
  ex : HE → HH → HR HV := fun _ _ => .no
  px : HE → HH → HR HV := fun _ _ => .no
  mx : HE → HH → HR HV := fun _ _ => .no
  pt : HE → HH → HR Bool := fun _ _ => .no
  xs : HE → HH → HR (List HV) := fun _ _ => .no
  ts : HE → HH → HR Bool := fun _ _ => .no
  op : HE → HH → HR (Option Int) := fun _ _ => .no
  it : HE → HH → HR (HSrc × Nat) := fun _ _ => .no
  tg : HV → HE → HH → HR HE := fun _ _ _ => .no
  tgs : List HV → HE → HH → HR HE := fun _ _ _ => .no
  st : HE → HH → HS := fun _ _ => .no
def tsR (x : HR HV) : HR Bool := x.bind fun v h => HR.of (truH h v) h
def opR (x : HR HV) : HR (Option Int) := x.bind fun v h => match v with | .int i => .ok (some i) h | _ => .no
def HD.E (m : HE → HH → HR HV) (mx : HE → HH → HR HV := fun _ _ => .no) (px : HE → HH → HR HV := fun _ _ => .no) : HD :=
  { ex := m, mx := mx, px := px, pt := fun e h => tsR (px e h), ts := fun e h => tsR (m e h), op := fun e h => opR (m e h) }
/-- the same in two ways of making -/
def HD.M (m : Bool → HE → HH → HR HV) : HD := HD.E (m false) (m true)
def getH (e : HE) (i : Nat) : Option HV := match e[i]? with | some (some v) => some v | _ => none
def setAllH (e : HE) : List Nat → List HV → Option HE
  | [], [] => some e
  | i :: is, v :: vs => setAllH (e.set i (some v)) is vs
  | _, _ => none
def boolH (x : HR HV) (f : Bool → HH → HR HV) : HR HV := x.bind fun v h => match v with | .bl b => f b h | _ => .no
def nxH {α : Type} : HR α → HR α
  | .ok a h => .ok a h
  | _ => .no
def hNon : HD := .E fun _ h => .ok .non h
def hBl (b : Bool) : HD := .E fun _ h => .ok (.bl b) h
def hInt (i : Int) : HD := .E fun _ h => .ok (.int i) h
def hStr (x : Str) : HD := .E fun _ h => .ok (.str x) h
def hVar (i : Nat) : HD := .E fun e h => HR.of (getH e i) h
def cvH : OV → Option HV
  | .non => some .non | .bl b => some (.bl b) | .int i => some (.int i) | .str x => some (.str x)
  | _ => none
def hGc (v : OV) : HD := .E fun _ h => HR.of (cvH v) h
def hBin (op : BOp) (a b : HD) : HD := .M fun mu e h => (a.ex e h).bind fun x h => (b.ex e h).bind fun y h => nxH (binH mu op x y h)
def negH (x : HV) (h : HH) : HR HV := match x with | .int i => .ok (.int (-i)) h | _ => .no
def hNeg (a : HD) : HD := .E fun e h => (a.ex e h).bind fun x h => nxH (negH x h)
def hNot (a : HD) : HD :=
  { ex := fun e h => boolH (a.ex e h) fun b h => .ok (.bl (!b)) h, ts := fun e h => (a.ts e h).bind fun b h => .ok (!b) h }
def cmpR (op : COp) (x y : HV) (h : HH) : HR HV := HR.of ((cmpH op x y h).map .bl) h
def hCmp (op : COp) (a b : HD) : HD := .E fun e h => (a.ex e h).bind fun x h => (b.ex e h).bind fun y h => nxH (cmpR op x y h)
def hChain (o1 o2 : COp) (a b c : HD) : HD :=
  .E fun e h => (a.ex e h).bind fun x h => (b.ex e h).bind fun y h => boolH (nxH (cmpR o1 x y h)) fun k h => if k = true then (c.ex e h).bind fun z h => nxH (cmpR o2 y z h) else .ok (.bl false) h
def hAnd (a b : HD) : HD :=
  { ex := fun e h => boolH (a.ex e h) fun k h => if k = true then b.ex e h else .ok (.bl false) h,
    ts := fun e h => (a.ts e h).bind fun k h => if k = true then b.ts e h else .ok false h }
def hOr (a b : HD) : HD :=
  { ex := fun e h => boolH (a.ex e h) fun k h => if k = true then .ok (.bl true) h else b.ex e h,
    ts := fun e h => (a.ts e h).bind fun k h => if k = true then .ok true h else b.ts e h }
def hIfe (t a b : HD) : HD :=
  { ex := fun e h => (t.ts e h).bind fun k h => if k = true then a.ex e h else b.ex e h,
    mx := fun e h => (t.ts e h).bind fun k h => if k = true then a.mx e h else b.mx e h,
    px := fun e h => (t.ts e h).bind fun k h => if k = true then a.px e h else b.px e h }
def mkLsH (mu : Bool) (xs : List HV) (h : HH) : HR HV := if xs.length ≤ LIM then mkL mu xs h else .no
def mkTupH (xs : List HV) (h : HH) : HR HV := if xs.length ≤ LIM then .ok (.ft xs) h else .no
def hLst (es : HD) : HD := .M fun mu e h => (es.xs e h).bind fun xs h => nxH (mkLsH mu xs h)
def hTup (es : HD) : HD := .E fun e h => (es.xs e h).bind fun xs h => nxH (mkTupH xs h)
def dctR (mu : Bool) (ks : List Str) (xs : List HV) (h : HH) : HR HV := if xs.length = ks.length then mkD mu (mergeP [] (ks.zip xs)) h else .no
def hDct (ks : List Str) (es : HD) : HD := .M fun mu e h => if ks.length ≤ 15 then (es.xs e h).bind fun xs h => nxH (dctR mu ks xs h) else .no
def hIx (a b : HD) : HD := .E fun e h => (a.ex e h).bind fun x h => (b.ex e h).bind fun y h => nxH (ixH x y h)
def hSl (a lo hi : HD) : HD := .M fun mu e h => (a.ex e h).bind fun x h => (lo.op e h).bind fun i h => (hi.op e h).bind fun j h => nxH (slH mu x i j h)
def revH (mu : Bool) (x : HV) (h : HH) : HR HV := match lstH h x with | some xs => mkL mu xs.reverse h | none => .no
def hRev (a : HD) : HD := .M fun mu e h => (a.ex e h).bind fun x h => nxH (revH mu x h)
def hFld (T : Tb) (a : HD) (f : Str) : HD := .E fun e h => (a.ex e h).bind fun x h => nxH (fldH T x f h)
abbrev HC := Nat → List HV → HH → HR HV
/-- a call for itself: of trees, in a heap of its own, a tree comes -/
def pcH (call : HC) (f : Nat) (xs : List HV) (h : HH) : HR HV :=
  match allV h xs with
  | some ys => match call f ys [] with
    | .ok r h1 => match vw VD h1 r with
      | some r1 => bif xs.all rf || flatH r1 then .ok r1 h else .no
      | none => .no
    | .ex c _ => .ex c h
    | .no => .no
  | none => .no
def hCall (call : HC) (f : Nat) (es : HD) : HD :=
  .E (fun e h => (es.xs e h).bind fun xs h => call f xs h) (px := fun e h => (es.xs e h).bind fun xs h => pcH call f xs h)
def nonH (x : HR HV) (n : Nat) : HR HV := x.bind fun v h => match v with | .non => .ok (.ref n) h | _ => .no
def mkInsH (T : Tb) (call : HC) (c : Nat) (xs : List HV) (h : HH) : HR HV :=
  match (T.clss[c]?).bind (·.init) with
  | some f => nonH (call f (.ref h.length :: xs) (h ++ [.ins c []])) h.length
  | none => .no
/-- .. for itself -/
def pmH (T : Tb) (call : HC) (c : Nat) (xs : List HV) (h : HH) : HR HV :=
  match allV h xs with
  | some ys => match mkInsH T call c ys [] with
    | .ok r h1 => match vw VD h1 r with
      | some r1 => bif xs.all rf then .ok r1 h else .no
      | none => .no
    | _ => .no
  | none => .no
def hMake (T : Tb) (call : HC) (c : Nat) (es : HD) : HD :=
  .E (fun e h => (es.xs e h).bind fun xs h => nxH (mkInsH T call c xs h)) (px := fun e h => (es.xs e h).bind fun xs h => nxH (pmH T call c xs h))
def hasMH (h : HH) (c : Nat) (m : Str) (x : HV) : Bool :=
  match insH h x with
  | some (k, fs) => Nat.beq k c && (lookK fs m).isNone
  | none => false
def pickH (h : HH) (m : Str) (x : HV) : List (Nat × Nat) → Option Nat
  | [] => none
  | (c, f) :: r => bif hasMH h c m x then some f else pickH h m x r
def hMeth (call : HC) (a : HD) (ms : List (Nat × Nat)) (m : Str) (es : HD) : HD :=
  .E (fun e h => (a.ex e h).bind fun x h => match pickH h m x ms with
    | some f => (es.xs e h).bind fun xs h => call f (x :: xs) h
    | none => .no) (px := fun e h => (a.ex e h).bind fun x h => match pickH h m x ms with
    | some f => (es.xs e h).bind fun xs h => pcH call f (x :: xs) h
    | none => .no)
def hBf (b : BF) (es : HD) : HD := .M fun mu e h => (es.xs e h).bind fun xs h => nxH (bfH mu b xs h)
def hBm (a : HD) (m : BM) (es : HD) : HD := .E fun e h => (a.ex e h).bind fun x h => match rcvH x h with
    | some k => if okKind m k = true then (es.xs e h).bind fun xs h => nxH (bmKH k m x xs h) else .no
    | none => .no
def isiR (T : Tb) (h : HH) (v : HV) (c : CI) : HR HV := HR.of ((isiH T h v c).map .bl) h
def hIsi (T : Tb) (a : HD) (c : CI) : HD := .E fun e h => (a.ex e h).bind fun x h => nxH (isiR T h x c)
def ssetH (mu : Bool) (x : HV) (h : HH) : HR HV := match (lstH h x).bind strsH with | some ss => if ss.length ≤ 4000 then mkL mu ((setSorted ss).map .str) h else .no | none => .no
def lsetH (x : HV) (h : HH) : HR HV := match (lstH h x).bind strsH with | some ss => if ss.length ≤ 4000 then .ok (.int (dedup strLt ss).length) h else .no | none => .no
def hSset (a : HD) : HD := .M fun mu e h => (a.ex e h).bind fun x h => nxH (ssetH mu x h)
def hLset (a : HD) : HD := .E fun e h => (a.ex e h).bind fun x h => nxH (lsetH x h)
def unlH (mu : Bool) (s : HSrc) (ys : List HV) (h : HH) : HR HV := match unlockH s h with | some h => if ys.length ≤ LIM then mkL mu ys h else .no | none => .no
def hComp (m t it c : HD) (own : List Nat) : HD :=
  .M fun mu e h => nxH ((it.it e h).bind fun s h => (lcH s t.tg c.ts m.ex (wipeH e own) h).bind fun ys h => unlH mu s.1 ys h)
def hNil : HD := { xs := fun _ h => .ok [] h, ts := fun _ h => .ok true h, op := fun _ h => .ok none h, tgs := fun vs e h => match vs with | [] => .ok e h | _ => .no }
def hCons (a b : HD) : HD :=
  { xs := fun e h => (a.ex e h).bind fun x h => (b.xs e h).bind fun xs h => .ok (x :: xs) h,
    tgs := fun vs e h => match vs with | v :: vs => (a.tg v e h).bind fun e h => b.tgs vs e h | [] => .no }
def hIex (a : HD) : HD := { it := fun e h => (a.ex e h).bind fun x h => nxH (srcH x h) }
def hIkv (i : Nat) : HD := { it := fun e h => (HR.of (getH e i) h).bind fun x h => nxH (srcKH x h) }
def rngL (lo : Int) : Nat → List HV
  | 0 => []
  | n + 1 => .int lo :: rngL (lo + 1) n
def ir1H (x : HV) (h : HH) : HR (HSrc × Nat) := match x with | .int j => if rngOk j = true then .ok (.its (rngL 0 j.toNat), j.toNat) h else .no | _ => .no
def ir2H (x y : HV) (h : HH) : HR (HSrc × Nat) := match x, y with
  | .int i, .int j => if rngOk i = true ∧ rngOk j = true then .ok (.its (rngL i (j - i).toNat), (j - i).toNat) h else .no
  | _, _ => .no
def enumL : Nat → List HV → List HV
  | _, [] => []
  | i, x :: r => .ft [.int i, x] :: enumL (i + 1) r
def ienH (x : HV) (h : HH) : HR (HSrc × Nat) := match x with
  | .fl xs => .ok (.its (enumL 0 xs), xs.length) h
  | .ref n => (match h[n]? with | some (.lst xs) => .ok (.enl n, xs.length) h | _ => .no)
  | _ => .no
def zipL : List HV → List HV → List HV
  | x :: xs, y :: ys => .ft [x, y] :: zipL xs ys
  | _, _ => []
def izpH (x y : HV) (h : HH) : HR (HSrc × Nat) := match x, y with
  | .fl xs, .fl ys => .ok (.its (zipL xs ys), min xs.length ys.length) h
  | _, _ => .no
def hIr1 (a : HD) : HD := { it := fun e h => (a.ex e h).bind fun x h => nxH (ir1H x h) }
def hIr2 (a b : HD) : HD := { it := fun e h => (a.ex e h).bind fun x h => (b.ex e h).bind fun y h => nxH (ir2H x y h) }
def hIen (a : HD) : HD := { it := fun e h => (a.ex e h).bind fun x h => nxH (ienH x h) }
def hIzp (a b : HD) : HD := { it := fun e h => (a.ex e h).bind fun x h => (b.ex e h).bind fun y h => nxH (izpH x y h) }
def hTn (i : Nat) : HD := { tg := fun v e h => .ok (e.set i (some v)) h }
def hTt (n : Nat) (ts : HD) : HD := { tg := fun v e h => match v with | .ft xs => if xs.length = n then nxH (ts.tgs xs e h) else .no | _ => .no }
def hTf (T : Tb) (a : HD) (f : Str) : HD := { tg := fun v e h => (a.ex e h).bind fun x h => (nxH (setFH T x f v h)).bind fun _ h => .ok e h }
def hTs (a i : HD) : HD := { tg := fun v e h => (a.ex e h).bind fun x h => (i.ex e h).bind fun y h => (nxH (setH x y v h)).bind fun _ h => .ok e h }
def hSex (a : HD) : HD := { st := fun e h => (a.ex e h).thenS e fun _ h => .ok .nx e h }
def hSas (t a : HD) : HD := { st := fun e h => (a.ex e h).thenS e fun x h => (t.tg x e h).thenS e fun e h => .ok .nx e h }
def hSpar (is : List Nat) (es : HD) : HD := { st := fun e h => (es.xs e h).thenS e fun vs h => match setAllH e is vs with | some e => .ok .nx e h | none => .no }
def hAug (i : Nat) (a : HD) : HD :=
  { st := fun e h => match getH e i with
      | some (.int x) => (a.ex e h).thenS e fun y h => (match y with | .int y => .ok .nx (e.set i (some (.int (x + y)))) h | _ => .no)
      | _ => .no }
def hRet (a : HD) : HD := { st := fun e h => (a.ex e h).thenS e fun x h => .ok (.rt x) e h }
def hRetn : HD := { st := fun e h => .ok (.rt .non) e h }
def hSif (c a b : HD) : HD := { st := fun e h => (c.ts e h).thenS e fun k h => if k = true then a.st e h else b.st e h }
def hSwh (c b : HD) : HD := { st := fun e h => whH WHN c.ts b.st e h }
def hSfor (t it b : HD) : HD := { st := fun e h => (it.it e h).thenS e fun s h => forH s t.tg b.st e h }
def hSpass : HD := { st := fun e h => .ok .nx e h }
def hSno : HD := {}
def hSnil : HD := { st := fun e h => .ok .nx e h }
def hScont : HD := { st := fun e h => .ok .ct e h }
def hSbrk : HD := { st := fun e h => .ok .bk e h }
def hSraise (c : Nat) : HD := { st := fun e h => .ex c e h }
def hStry (T : Tb) (b : HD) (c : Nat) (s : HD) : HD :=
  { st := fun e h => match b.st e h with
      | .ok f e h => .ok f e h
      | .ex k e h => (match T.clss[k]? with | some t => if t.mro.contains c then s.st e h else .ex k e h | none => .no)
      | .no => .no }
def hScons (a b : HD) : HD := { st := fun e h => (a.st e h).bind fun f e h => match f with | .nx => b.st e h | _ => .ok f e h }
def hMut (a : HD) : HD := { ex := a.mx }
def hPur (a : HD) : HD := { ex := a.px, ts := a.pt }

noncomputable def hden (T : Tb) (call : HC) (a : A) : HD :=
  A.rec (motive := fun _ => HD)
    hNon (fun b => hBl b) (fun i => hInt i) (fun x => hStr x) (fun i => hVar i) (fun x v => hGc v)
    (fun op a b ad bd => hBin op ad bd) (fun a ad => hNeg ad) (fun a ad => hNot ad) (fun op a b ad bd => hCmp op ad bd)
    (fun o1 o2 a b c ad bd cd => hChain o1 o2 ad bd cd) (fun a b ad bd => hAnd ad bd) (fun a b ad bd => hOr ad bd) (fun t a b td ad bd => hIfe td ad bd)
    (fun es esd => hLst esd) (fun es esd => hTup esd) (fun ks es esd => hDct ks esd)
    (fun a b ad bd => hIx ad bd) (fun a lo hi ad lod hid => hSl ad lod hid) (fun a ad => hRev ad) (fun a f ad => hFld T ad f)
    (fun f es esd => hCall call f esd) (fun c es esd => hMake T call c esd) (fun a ms m es ad esd => hMeth call ad ms m esd)
    (fun b es esd => hBf b esd) (fun a m es ad esd => hBm ad m esd) (fun a cs ad => hIsi T ad cs) (fun a ad => hSset ad) (fun a ad => hLset ad)
    (fun e t it c own ed td itd cd => hComp ed td itd cd own) hNil (fun a b ad bd => hCons ad bd)
    (fun a ad => hIex ad) (fun i => hIkv i) (fun a ad => hIr1 ad) (fun a b ad bd => hIr2 ad bd) (fun a ad => hIen ad) (fun a b ad bd => hIzp ad bd)
    (fun i => hTn i) (fun n ts tsd => hTt n tsd) (fun a f ad => hTf T ad f) (fun a i ad id => hTs ad id)
    (fun e ed => hSex ed) (fun t e td ed => hSas td ed) (fun is es esd => hSpar is esd) (fun i e ed => hAug i ed) (fun e ed => hRet ed) hRetn
    (fun c a b cd ad bd => hSif cd ad bd) (fun c b cd bd => hSwh cd bd) (fun t it b td itd bd => hSfor td itd bd)
    hSpass hScont hSbrk (fun c => hSraise c) (fun b c s bd sd => hStry T bd c sd) hSno hSnil (fun a b ad bd => hScons ad bd)
    (fun _ ad => hMut ad) (fun _ ad => hPur ad)
    a
def startH (F : FT) (vs : List HV) : HE := vs.map some ++ List.replicate (F.ns - vs.length) none
def outH : HS → HR HV
  | .ok f _ h => match f with | .rt v => .ok v h | .nx => .ok .non h | _ => .no
  | .ex c _ h => .ex c h
  | .no => .no
noncomputable def hcall (T : Tb) : Nat → HC
  | 0, _, _, _ => .no
  | k + 1, f, vs, h => match T.funs[f]? with
    | some F => if vs.length = F.np then outH ((hden T (hcall T k) F.body).st (startH F vs) h) else .no
    | none => .no
end MH

end
section
set_option linter.all false
set_option maxRecDepth 100000
/-! MHRel: how the second semantics' values lie in the own heap. -/
namespace MH
open MP
open PySem

/-! ### lists by pairs -/
def All2 {α β : Type} (R : α → β → Prop) : List α → List β → Prop
  | [], [] => True
  | x :: xs, y :: ys => R x y ∧ All2 R xs ys
  | _, _ => False
section
variable {α β γ δ : Type} {R : α → β → Prop} {R' : γ → δ → Prop}
theorem All2.len : ∀ {xs : List α} {ys : List β}, All2 R xs ys → xs.length = ys.length
  | [], [], _ => rfl
  | _ :: xs, _ :: ys, h => by simp [All2.len h.2]
  | [], _ :: _, h => h.elim
  | _ :: _, [], h => h.elim
theorem All2.get : ∀ {xs : List α} {ys : List β}, All2 R xs ys → ∀ {i : Nat} {x : α}, xs[i]? = some x → ∃ y, ys[i]? = some y ∧ R x y
  | [], _, _, i, x, e => by simp at e
  | x :: xs, y :: ys, h, 0, z, e => by simp at e; subst e; exact ⟨y, rfl, h.1⟩
  | x :: xs, y :: ys, h, i + 1, z, e => by simp at e; simpa using All2.get h.2 e
  | _ :: _, [], h, _, _, _ => h.elim
theorem All2.mono {R1 : α → β → Prop} (k : ∀ x y, R x y → R1 x y) : ∀ {xs : List α} {ys : List β}, All2 R xs ys → All2 R1 xs ys
  | [], [], _ => trivial
  | _ :: _, _ :: _, h => ⟨k _ _ h.1, All2.mono k h.2⟩
  | [], _ :: _, h => h.elim
  | _ :: _, [], h => h.elim
theorem All2.app : ∀ {xs : List α} {ys : List β} {us : List α} {vs : List β}, All2 R xs ys → All2 R us vs → All2 R (xs ++ us) (ys ++ vs)
  | [], [], _, _, _, h => h
  | _ :: _, _ :: _, _, _, g, h => ⟨g.1, All2.app g.2 h⟩
  | [], _ :: _, _, _, h, _ => h.elim
  | _ :: _, [], _, _, h, _ => h.elim
theorem All2.one {x : α} {y : β} (r : R x y) : All2 R [x] [y] := ⟨r, trivial⟩
theorem All2.drp : ∀ {xs : List α} {ys : List β} (n : Nat), All2 R xs ys → All2 R (xs.drop n) (ys.drop n)
  | _, _, 0, h => h
  | [], [], _ + 1, _ => trivial
  | _ :: _, _ :: _, n + 1, h => All2.drp n h.2
  | [], _ :: _, _ + 1, h => h.elim
  | _ :: _, [], _ + 1, h => h.elim
theorem All2.tak : ∀ {xs : List α} {ys : List β} (n : Nat), All2 R xs ys → All2 R (xs.take n) (ys.take n)
  | _, _, 0, h => trivial
  | [], [], _ + 1, _ => trivial
  | _ :: _, _ :: _, n + 1, h => ⟨h.1, All2.tak n h.2⟩
  | [], _ :: _, _ + 1, h => h.elim
  | _ :: _, [], _ + 1, h => h.elim
theorem All2.rev : ∀ {xs : List α} {ys : List β}, All2 R xs ys → All2 R xs.reverse ys.reverse
  | [], [], _ => trivial
  | _ :: _, _ :: _, h => by rw [List.reverse_cons, List.reverse_cons]; exact (All2.rev h.2).app (.one h.1)
  | [], _ :: _, h => h.elim
  | _ :: _, [], h => h.elim
theorem All2.set : ∀ {xs : List α} {ys : List β} (n : Nat) {x : α} {y : β}, All2 R xs ys → R x y → All2 R (xs.set n x) (ys.set n y)
  | [], [], _, _, _, _, _ => trivial
  | _ :: _, _ :: _, 0, _, _, h, r => ⟨r, h.2⟩
  | _ :: _, _ :: _, n + 1, _, _, h, r => ⟨h.1, All2.set n h.2 r⟩
  | [], _ :: _, _, _, _, h, _ => h.elim
  | _ :: _, [], _, _, _, h, _ => h.elim
theorem All2.eras : ∀ {xs : List α} {ys : List β} (n : Nat), All2 R xs ys → All2 R (xs.eraseIdx n) (ys.eraseIdx n)
  | [], [], _, _ => trivial
  | _ :: _, _ :: _, 0, h => h.2
  | _ :: _, _ :: _, n + 1, h => ⟨h.1, All2.eras n h.2⟩
  | [], _ :: _, _, h => h.elim
  | _ :: _, [], _, h => h.elim
theorem All2.dlast : ∀ {xs : List α} {ys : List β}, All2 R xs ys → All2 R xs.dropLast ys.dropLast := fun h => by
  rw [List.dropLast_eq_take, List.dropLast_eq_take, h.len]; exact h.tak _
theorem All2.repl {x : α} {y : β} (r : R x y) : ∀ n, All2 R (List.replicate n x) (List.replicate n y)
  | 0 => trivial
  | n + 1 => ⟨r, All2.repl r n⟩
theorem All2.flat : ∀ {xs : List (List α)} {ys : List (List β)}, All2 (All2 R) xs ys → All2 R xs.flatten ys.flatten
  | [], [], _ => trivial
  | _ :: _, _ :: _, h => h.1.app (All2.flat h.2)
  | [], _ :: _, h => h.elim
  | _ :: _, [], h => h.elim
theorem All2.mp {f : α → γ} {g : β → δ} (k : ∀ x y, R x y → R' (f x) (g y)) : ∀ {xs : List α} {ys : List β}, All2 R xs ys → All2 R' (xs.map f) (ys.map g)
  | [], [], _ => trivial
  | _ :: _, _ :: _, h => ⟨k _ _ h.1, All2.mp k h.2⟩
  | [], _ :: _, h => h.elim
  | _ :: _, [], h => h.elim
theorem All2.of {f : γ → α} {g : γ → β} (k : ∀ x, R (f x) (g x)) : ∀ xs : List γ, All2 R (xs.map f) (xs.map g)
  | [] => trivial
  | x :: xs => ⟨k x, All2.of k xs⟩
theorem All2.nil_iff {ys : List β} (h : All2 R [] ys) : ys = [] := by cases ys <;> first | rfl | exact h.elim
theorem All2.cons_iff {x : α} {xs : List α} {ys : List β} (h : All2 R (x :: xs) ys) : ∃ y r, ys = y :: r ∧ R x y ∧ All2 R xs r := by
  cases ys with
  | nil => exact h.elim
  | cons y r => exact ⟨y, r, rfl, h.1, h.2⟩
theorem All2.insBy {lt : α → α → Bool} {lt' : β → β → Bool} (k : ∀ a b c d, R a b → R c d → lt a c = lt' b d) {x : α} {y : β} (r : R x y) : ∀ {xs : List α} {ys : List β}, All2 R xs ys → All2 R (insBy lt x xs) (insBy lt' y ys)
  | [], [], _ => ⟨r, trivial⟩
  | u :: us, v :: vs, h => by
    unfold MP.insBy
    rw [k u v x y h.1 r]
    split
    · exact ⟨h.1, All2.insBy k r h.2⟩
    · exact ⟨r, h⟩
  | [], _ :: _, h => h.elim
  | _ :: _, [], h => h.elim
theorem All2.sortBy {lt : α → α → Bool} {lt' : β → β → Bool} (k : ∀ a b c d, R a b → R c d → lt a c = lt' b d) : ∀ {xs : List α} {ys : List β}, All2 R xs ys → All2 R (sortBy lt xs) (sortBy lt' ys)
  | [], [], _ => trivial
  | _ :: _, _ :: _, h => All2.insBy k h.1 (All2.sortBy k h.2)
  | [], _ :: _, h => h.elim
  | _ :: _, [], h => h.elim
end

/-! ### the relation -/
abbrev Gz := Nat → Option OO
section
variable (m : Nat → Nat) (n : Nat) (G : Gz) (S : List Int)
mutual
def HRel : HV → OV → Prop
  | .non, v => v = .non
  | .bl b, v => v = .bl b
  | .int i, v => v = .int i
  | .str x, v => v = .str x
  | .sc ns, v => v = .scr ∧ S = ns
  | .ref k, v => k < n ∧ v = .ref (m k)
  | .fl xs, v => ∃ a vs, v = .ref a ∧ G a = some (.lst vs) ∧ HRels xs vs
  | .ft xs, v => ∃ a vs, v = .ref a ∧ G a = some (.tup vs) ∧ HRels xs vs
  | .fd b kvs, v => ∃ a vs, v = .ref a ∧ G a = some (.dct b vs) ∧ HRelk kvs vs
  | .fi c fs, v => ∃ a vs, v = .ref a ∧ G a = some (.ins c vs) ∧ HRelk fs vs
def HRels : List HV → List OV → Prop
  | [], vs => vs = []
  | x :: xs, vs => ∃ v r, vs = v :: r ∧ HRel x v ∧ HRels xs r
def HRelk : List (Str × HV) → List (Str × OV) → Prop
  | [], vs => vs = []
  | (k, x) :: xs, vs => ∃ v r, vs = (k, v) :: r ∧ HRel x v ∧ HRelk xs r
end
abbrev RelP : (Str × HV) → (Str × OV) → Prop := fun p q => p.1 = q.1 ∧ HRel m n G S p.2 q.2
theorem HRels_iff : ∀ (xs : List HV) (vs : List OV), HRels m n G S xs vs ↔ All2 (HRel m n G S) xs vs
  | [], vs => by
    rw [HRels]
    cases vs with
    | nil => simp [All2]
    | cons v r => simp [All2]
  | x :: xs, [] => by rw [HRels]; simp [All2]
  | x :: xs, v :: r => by
    rw [HRels]
    constructor
    · rintro ⟨v', r', e, h1, h2⟩
      cases e
      exact ⟨h1, (HRels_iff xs r).mp h2⟩
    · rintro ⟨h1, h2⟩
      exact ⟨v, r, rfl, h1, (HRels_iff xs r).mpr h2⟩
theorem HRelk_iff : ∀ (xs : List (Str × HV)) (vs : List (Str × OV)), HRelk m n G S xs vs ↔ All2 (RelP m n G S) xs vs
  | [], vs => by
    rw [HRelk]
    cases vs with
    | nil => simp [All2]
    | cons v r => simp [All2]
  | (k, x) :: xs, [] => by rw [HRelk]; simp [All2]
  | (k, x) :: xs, (j, v) :: r => by
    rw [HRelk]
    constructor
    · rintro ⟨v', r', e, h1, h2⟩
      cases e
      exact ⟨⟨rfl, h1⟩, (HRelk_iff xs r).mp h2⟩
    · rintro ⟨⟨e, h1⟩, h2⟩
      cases e
      exact ⟨v, r, rfl, h1, (HRelk_iff xs r).mpr h2⟩
end
section
variable {m m' : Nat → Nat} {n n' : Nat} {G G' : Gz} {S : List Int}
mutual
theorem HRel.mono (hn : n ≤ n') (hm : ∀ i, i < n → m' i = m i) (hG : ∀ a o, G a = some o → G' a = some o) : ∀ (x : HV) {v : OV}, HRel m n G S x v → HRel m' n' G' S x v
  | .non, v, h => by rw [HRel] at h ⊢; exact h
  | .bl b, v, h => by rw [HRel] at h ⊢; exact h
  | .int i, v, h => by rw [HRel] at h ⊢; exact h
  | .str x, v, h => by rw [HRel] at h ⊢; exact h
  | .sc ns, v, h => by rw [HRel] at h ⊢; exact h
  | .ref k, v, h => by rw [HRel] at h ⊢; exact ⟨Nat.lt_of_lt_of_le h.1 hn, by rw [hm k h.1]; exact h.2⟩
  | .fl xs, v, h => by rw [HRel] at h ⊢; obtain ⟨a, vs, e, g, r⟩ := h; exact ⟨a, vs, e, hG _ _ g, HRels.mono hn hm hG xs r⟩
  | .ft xs, v, h => by rw [HRel] at h ⊢; obtain ⟨a, vs, e, g, r⟩ := h; exact ⟨a, vs, e, hG _ _ g, HRels.mono hn hm hG xs r⟩
  | .fd b kvs, v, h => by rw [HRel] at h ⊢; obtain ⟨a, vs, e, g, r⟩ := h; exact ⟨a, vs, e, hG _ _ g, HRelk.mono hn hm hG kvs r⟩
  | .fi c fs, v, h => by rw [HRel] at h ⊢; obtain ⟨a, vs, e, g, r⟩ := h; exact ⟨a, vs, e, hG _ _ g, HRelk.mono hn hm hG fs r⟩
theorem HRels.mono (hn : n ≤ n') (hm : ∀ i, i < n → m' i = m i) (hG : ∀ a o, G a = some o → G' a = some o) : ∀ (xs : List HV) {vs : List OV}, HRels m n G S xs vs → HRels m' n' G' S xs vs
  | [], vs, h => by rw [HRels] at h ⊢; exact h
  | x :: xs, vs, h => by rw [HRels] at h ⊢; obtain ⟨v, r, e, h1, h2⟩ := h; exact ⟨v, r, e, HRel.mono hn hm hG x h1, HRels.mono hn hm hG xs h2⟩
theorem HRelk.mono (hn : n ≤ n') (hm : ∀ i, i < n → m' i = m i) (hG : ∀ a o, G a = some o → G' a = some o) : ∀ (xs : List (Str × HV)) {vs : List (Str × OV)}, HRelk m n G S xs vs → HRelk m' n' G' S xs vs
  | [], vs, h => by rw [HRelk] at h ⊢; exact h
  | (k, x) :: xs, vs, h => by rw [HRelk] at h ⊢; obtain ⟨v, r, e, h1, h2⟩ := h; exact ⟨v, r, e, HRel.mono hn hm hG x h1, HRelk.mono hn hm hG xs h2⟩
end
mutual
theorem HRel.free (hG : ∀ a o, G a = some o → G' a = some o) : ∀ (x : HV) {v : OV}, rf x = true → HRel m n G S x v → HRel m' n' G' S x v
  | .non, v, _, h => by rw [HRel] at h ⊢; exact h
  | .bl b, v, _, h => by rw [HRel] at h ⊢; exact h
  | .int i, v, _, h => by rw [HRel] at h ⊢; exact h
  | .str x, v, _, h => by rw [HRel] at h ⊢; exact h
  | .sc ns, v, _, h => by rw [HRel] at h ⊢; exact h
  | .ref k, v, q, h => by simp [rf] at q
  | .fl xs, v, q, h => by rw [HRel] at h ⊢; obtain ⟨a, vs, e, g, r⟩ := h; exact ⟨a, vs, e, hG _ _ g, HRels.free hG xs (by simpa [rf] using q) r⟩
  | .ft xs, v, q, h => by rw [HRel] at h ⊢; obtain ⟨a, vs, e, g, r⟩ := h; exact ⟨a, vs, e, hG _ _ g, HRels.free hG xs (by simpa [rf] using q) r⟩
  | .fd b kvs, v, q, h => by rw [HRel] at h ⊢; obtain ⟨a, vs, e, g, r⟩ := h; exact ⟨a, vs, e, hG _ _ g, HRelk.free hG kvs (by simpa [rf] using q) r⟩
  | .fi c fs, v, q, h => by rw [HRel] at h ⊢; obtain ⟨a, vs, e, g, r⟩ := h; exact ⟨a, vs, e, hG _ _ g, HRelk.free hG fs (by simpa [rf] using q) r⟩
theorem HRels.free (hG : ∀ a o, G a = some o → G' a = some o) : ∀ (xs : List HV) {vs : List OV}, rf.rfs xs = true → HRels m n G S xs vs → HRels m' n' G' S xs vs
  | [], vs, _, h => by rw [HRels] at h ⊢; exact h
  | x :: xs, vs, q, h => by
    rw [HRels] at h ⊢; obtain ⟨v, r, e, h1, h2⟩ := h
    have q' : rf x = true ∧ rf.rfs xs = true := by simpa [rf.rfs] using q
    exact ⟨v, r, e, HRel.free hG x q'.1 h1, HRels.free hG xs q'.2 h2⟩
theorem HRelk.free (hG : ∀ a o, G a = some o → G' a = some o) : ∀ (xs : List (Str × HV)) {vs : List (Str × OV)}, rf.rfk xs = true → HRelk m n G S xs vs → HRelk m' n' G' S xs vs
  | [], vs, _, h => by rw [HRelk] at h ⊢; exact h
  | (k, x) :: xs, vs, q, h => by
    rw [HRelk] at h ⊢; obtain ⟨v, r, e, h1, h2⟩ := h
    have q' : rf x = true ∧ rf.rfk xs = true := by simpa [rf.rfk] using q
    exact ⟨v, r, e, HRel.free hG x q'.1 h1, HRelk.free hG xs q'.2 h2⟩
end
end

/-- where a state stands: the map, what is fixed for good, the small heap, the own heap -/
structure Sg where
  m : Nat → Nat
  G : Gz
  h : HH
  H : OH
section
variable (S : List Int)
abbrev RV (s : Sg) (x : HV) (v : OV) : Prop := HRel s.m s.h.length s.G S x v
abbrev RVs (s : Sg) (xs : List HV) (vs : List OV) : Prop := All2 (RV S s) xs vs
abbrev RVk (s : Sg) (xs : List (Str × HV)) (vs : List (Str × OV)) : Prop := All2 (fun p q => p.1 = q.1 ∧ RV S s p.2 q.2) xs vs
def RO (s : Sg) : HO → OO → Prop
  | .lst xs, .lst vs => RVs S s xs vs
  | .dct b xs, .dct c vs => b = c ∧ RVk S s xs vs
  | .ins c xs, .ins d vs => c = d ∧ RVk S s xs vs
  | _, _ => False
structure Lk (s : Sg) : Prop where
  scr : s.H.scr = S.map .int
  fz : ∀ a o, s.G a = some o → s.H.get a = some o
  ob : ∀ i o, s.h[i]? = some o → s.G (s.m i) = none ∧ ∃ oo, s.H.get (s.m i) = some oo ∧ RO S s o oo
  inj : ∀ i j, i < s.h.length → j < s.h.length → s.m i = s.m j → i = j
  out : ∀ a, s.H.n ≤ a → s.H.get a = none
structure Nxt (s s' : Sg) : Prop where
  lk : Lk S s'
  le : s.h.length ≤ s'.h.length
  eq : ∀ i, i < s.h.length → s'.m i = s.m i
  G : ∀ a o, s.G a = some o → s'.G a = some o
  Gn : ∀ a o, s'.G a = some o → s.G a = some o ∨ s.H.n ≤ a
  Hn : s.H.n ≤ s'.H.n
  mn : ∀ i, s.h.length ≤ i → i < s'.h.length → s.H.n ≤ s'.m i
  fr : ∀ a, a < s.H.n → (∀ i, i < s.h.length → s.m i ≠ a) → s'.H.get a = s.H.get a
  lkd : ∀ (i : Nat) (kvs : List (Str × HV)), s.h[i]? = some (HO.dct true kvs) → s'.h[i]? = some (HO.dct true kvs)
end
section
variable {S : List Int} {s s' s1 s2 : Sg}
theorem Nxt.refl (l : Lk S s) : Nxt S s s := ⟨l, Nat.le_refl _, fun _ _ => rfl, fun _ _ e => e, fun _ _ e => .inl e, Nat.le_refl _, fun i a b => absurd b (Nat.not_lt.mpr a), fun _ _ _ => rfl, fun _ _ e => e⟩
theorem Nxt.trans (a : Nxt S s s1) (b : Nxt S s1 s2) : Nxt S s s2 := by
  refine ⟨b.lk, Nat.le_trans a.le b.le, fun i l => (b.eq i (Nat.lt_of_lt_of_le l a.le)).trans (a.eq i l), fun x o e => b.G _ _ (a.G _ _ e), fun x o e => ?_, Nat.le_trans a.Hn b.Hn, fun i l1 l2 => ?_, fun x l ne => ?_, fun i k e => ?_⟩
  · rcases b.Gn x o e with q | q
    · exact a.Gn x o q
    · exact .inr (Nat.le_trans a.Hn q)
  · rcases Nat.lt_or_ge i s1.h.length with q | q
    · rw [b.eq i q]; exact a.mn i l1 q
    · exact Nat.le_trans a.Hn (b.mn i q l2)
  · rw [b.fr x (Nat.lt_of_lt_of_le l a.Hn) fun i l' => ?_, a.fr x l ne]
    rcases Nat.lt_or_ge i s.h.length with q | q
    · rw [a.eq i q]; exact ne i q
    · exact fun z => absurd l (by have := a.mn i q l'; omega)
  · exact b.lkd i k (a.lkd i k e)
theorem Nxt.rv (a : Nxt S s s1) {x : HV} {v : OV} (r : RV S s x v) : RV S s1 x v := r.mono a.le a.eq a.G
theorem Nxt.rvs (a : Nxt S s s1) {x : List HV} {v : List OV} (r : RVs S s x v) : RVs S s1 x v := All2.mono (fun _ _ h => a.rv h) r
theorem Nxt.rvk (a : Nxt S s s1) {x : List (Str × HV)} {v : List (Str × OV)} (r : RVk S s x v) : RVk S s1 x v := All2.mono (fun _ _ h => ⟨h.1, a.rv h.2⟩) r
theorem RV.fl {xs : List HV} {v : OV} : RV S s (.fl xs) v ↔ ∃ a vs, v = .ref a ∧ s.G a = some (.lst vs) ∧ RVs S s xs vs := by
  show HRel _ _ _ _ _ _ ↔ _
  rw [HRel]
  simp only [HRels_iff]
theorem RV.ft {xs : List HV} {v : OV} : RV S s (.ft xs) v ↔ ∃ a vs, v = .ref a ∧ s.G a = some (.tup vs) ∧ RVs S s xs vs := by
  show HRel _ _ _ _ _ _ ↔ _
  rw [HRel]
  simp only [HRels_iff]
theorem RV.fd {b : Bool} {xs : List (Str × HV)} {v : OV} : RV S s (.fd b xs) v ↔ ∃ a vs, v = .ref a ∧ s.G a = some (.dct b vs) ∧ RVk S s xs vs := by
  show HRel _ _ _ _ _ _ ↔ _
  rw [HRel]
  simp only [HRelk_iff]
theorem RV.fi {c : Nat} {xs : List (Str × HV)} {v : OV} : RV S s (.fi c xs) v ↔ ∃ a vs, v = .ref a ∧ s.G a = some (.ins c vs) ∧ RVk S s xs vs := by
  show HRel _ _ _ _ _ _ ↔ _
  rw [HRel]
  simp only [HRelk_iff]
theorem RV.ref {n : Nat} {v : OV} : RV S s (.ref n) v ↔ n < s.h.length ∧ v = .ref (s.m n) := by
  show HRel _ _ _ _ _ _ ↔ _
  rw [HRel]
theorem RV.non {v : OV} : RV S s .non v ↔ v = .non := by show HRel _ _ _ _ _ _ ↔ _; rw [HRel]
theorem RV.bl {b : Bool} {v : OV} : RV S s (.bl b) v ↔ v = .bl b := by show HRel _ _ _ _ _ _ ↔ _; rw [HRel]
theorem RV.int {b : Int} {v : OV} : RV S s (.int b) v ↔ v = .int b := by show HRel _ _ _ _ _ _ ↔ _; rw [HRel]
theorem RV.str {b : Str} {v : OV} : RV S s (.str b) v ↔ v = .str b := by show HRel _ _ _ _ _ _ ↔ _; rw [HRel]
theorem RV.sc {ns : List Int} {v : OV} : RV S s (.sc ns) v ↔ v = .scr ∧ S = ns := by show HRel _ _ _ _ _ _ ↔ _; rw [HRel]
theorem Lk.lt (l : Lk S s) {a : Nat} {o : OO} (e : s.H.get a = some o) : a < s.H.n := by
  rcases Nat.lt_or_ge a s.H.n with q | q
  · exact q
  · rw [l.out a q] at e; cases e
theorem Lk.mlt (l : Lk S s) {i : Nat} (h : i < s.h.length) : s.m i < s.H.n := by
  obtain ⟨o, e⟩ : ∃ o, s.h[i]? = some o := ⟨s.h[i], by simp [h]⟩
  obtain ⟨_, oo, e2, _⟩ := l.ob i o e
  exact l.lt e2
/-- what a reference stands for -/
theorem Lk.ro (l : Lk S s) {n : Nat} {o : HO} {v : OV} (r : RV S s (.ref n) v) (e : s.h[n]? = some o) : ∃ oo, v = .ref (s.m n) ∧ s.H.get (s.m n) = some oo ∧ RO S s o oo := by
  obtain ⟨_, oo, e2, r2⟩ := l.ob n o e
  exact ⟨oo, (RV.ref.mp r).2, e2, r2⟩
theorem RO.lst {xs : List HV} {oo : OO} (r : RO S s (.lst xs) oo) : ∃ vs, oo = .lst vs ∧ RVs S s xs vs := by
  cases oo with
  | lst vs => exact ⟨vs, rfl, r⟩
  | tup vs => exact r.elim
  | dct b vs => exact r.elim
  | ins b vs => exact r.elim
theorem RO.dct {b : Bool} {xs : List (Str × HV)} {oo : OO} (r : RO S s (.dct b xs) oo) : ∃ vs, oo = .dct b vs ∧ RVk S s xs vs := by
  cases oo with
  | dct c vs => obtain ⟨e, r⟩ := r; cases e; exact ⟨vs, rfl, r⟩
  | tup vs => exact r.elim
  | lst vs => exact r.elim
  | ins b vs => exact r.elim
theorem RO.ins {b : Nat} {xs : List (Str × HV)} {oo : OO} (r : RO S s (.ins b xs) oo) : ∃ vs, oo = .ins b vs ∧ RVk S s xs vs := by
  cases oo with
  | ins c vs => obtain ⟨e, r⟩ := r; cases e; exact ⟨vs, rfl, r⟩
  | tup vs => exact r.elim
  | lst vs => exact r.elim
  | dct b vs => exact r.elim
/-- a list, wherever it lies -/
theorem Lk.lst (l : Lk S s) {x : HV} {v : OV} {xs : List HV} (r : RV S s x v) (e : lstH s.h x = some xs) : ∃ a vs, v = .ref a ∧ s.H.get a = some (.lst vs) ∧ RVs S s xs vs := by
  cases x with
  | fl ys =>
    cases e
    obtain ⟨a, vs, e1, e2, r⟩ := RV.fl.mp r
    exact ⟨a, vs, e1, l.fz _ _ e2, r⟩
  | ref n =>
    simp only [lstH] at e
    split at e
    · rename_i ys q
      cases e
      obtain ⟨oo, e1, e2, r⟩ := l.ro r q
      obtain ⟨vs, rfl, r⟩ := r.lst
      exact ⟨_, vs, e1, e2, r⟩
    · cases e
  | _ => cases e
theorem Lk.seq (l : Lk S s) {x : HV} {v : OV} {xs : List HV} (r : RV S s x v) (e : seqH s.h x = some xs) : ∃ a vs, v = .ref a ∧ (s.H.get a = some (.lst vs) ∨ s.H.get a = some (.tup vs)) ∧ RVs S s xs vs := by
  cases x with
  | ft ys =>
    cases e
    obtain ⟨a, vs, e1, e2, r⟩ := RV.ft.mp r
    exact ⟨a, vs, e1, .inr (l.fz _ _ e2), r⟩
  | fl ys =>
    obtain ⟨a, vs, e1, e2, r⟩ := l.lst r e
    exact ⟨a, vs, e1, .inl e2, r⟩
  | ref n =>
    obtain ⟨a, vs, e1, e2, r⟩ := l.lst (x := .ref n) r e
    exact ⟨a, vs, e1, .inl e2, r⟩
  | _ => cases e
theorem Lk.dct (l : Lk S s) {x : HV} {v : OV} {xs : List (Str × HV)} (r : RV S s x v) (e : dctH s.h x = some xs) : ∃ a b vs, v = .ref a ∧ s.H.get a = some (.dct b vs) ∧ RVk S s xs vs := by
  cases x with
  | fd b ys =>
    cases e
    obtain ⟨a, vs, e1, e2, r⟩ := RV.fd.mp r
    exact ⟨a, _, vs, e1, l.fz _ _ e2, r⟩
  | ref n =>
    simp only [dctH] at e
    split at e
    · rename_i b ys q
      cases e
      obtain ⟨oo, e1, e2, r⟩ := l.ro r q
      obtain ⟨vs, rfl, r'⟩ := RO.dct r
      exact ⟨_, _, vs, e1, e2, r'⟩
    · cases e
  | _ => cases e
theorem Lk.dctU (l : Lk S s) {x : HV} {v : OV} {xs : List (Str × HV)} (r : RV S s x v) (e : dctU s.h x = some xs) : ∃ a vs, v = .ref a ∧ s.H.get a = some (.dct false vs) ∧ RVk S s xs vs := by
  cases x with
  | fd b ys =>
    cases b with
    | true => cases e
    | false =>
      cases e
      obtain ⟨a, vs, e1, e2, r⟩ := RV.fd.mp r
      exact ⟨a, vs, e1, l.fz _ _ e2, r⟩
  | ref n =>
    simp only [MH.dctU] at e
    split at e
    · rename_i ys q
      cases e
      obtain ⟨oo, e1, e2, r⟩ := l.ro r q
      obtain ⟨vs, rfl, r'⟩ := RO.dct r
      exact ⟨_, vs, e1, e2, r'⟩
    · cases e
  | _ => cases e
theorem Lk.ins (l : Lk S s) {x : HV} {v : OV} {c : Nat} {xs : List (Str × HV)} (r : RV S s x v) (e : insH s.h x = some (c, xs)) : ∃ a vs, v = .ref a ∧ s.H.get a = some (.ins c vs) ∧ RVk S s xs vs := by
  cases x with
  | fi d ys =>
    cases e
    obtain ⟨a, vs, e1, e2, r⟩ := RV.fi.mp r
    exact ⟨a, vs, e1, l.fz _ _ e2, r⟩
  | ref n =>
    simp only [insH] at e
    split at e
    · rename_i d ys q
      cases e
      obtain ⟨oo, e1, e2, r⟩ := l.ro r q
      obtain ⟨vs, rfl, r'⟩ := RO.ins r
      exact ⟨_, vs, e1, e2, r'⟩
    · cases e
  | _ => cases e
theorem RVk.look {kvs : List (Str × HV)} {ws : List (Str × OV)} (r : RVk S s kvs ws) (k : Str) : match lookK kvs k with | some x => ∃ v, lookK ws k = some v ∧ RV S s x v | none => lookK ws k = none := by
  induction kvs generalizing ws with
  | nil => rw [r.nil_iff]; rfl
  | cons p kvs ih =>
    obtain ⟨q, ws, rfl, h1, h2⟩ := r.cons_iff
    obtain ⟨j, x⟩ := p
    obtain ⟨j', v⟩ := q
    obtain ⟨e, hv⟩ := h1
    cases e
    cases hjk : strEq j k with
    | true => simp only [lookK, hjk, cond_true]; exact ⟨v, rfl, hv⟩
    | false => simp only [lookK, hjk, cond_false]; exact ih h2
theorem RVk.some {kvs : List (Str × HV)} {ws : List (Str × OV)} (r : RVk S s kvs ws) {k : Str} {x : HV} (e : lookK kvs k = some x) : ∃ v, lookK ws k = some v ∧ RV S s x v := by
  have := r.look k; rw [e] at this; exact this
theorem RVk.none {kvs : List (Str × HV)} {ws : List (Str × OV)} (r : RVk S s kvs ws) {k : Str} (e : lookK kvs k = none) : lookK ws k = none := by
  have := r.look k; rw [e] at this; exact this
theorem RVk.has {kvs : List (Str × HV)} {ws : List (Str × OV)} (r : RVk S s kvs ws) (k : Str) : hasK ws k = hasK kvs k := by
  induction kvs generalizing ws with
  | nil => rw [r.nil_iff]; rfl
  | cons p kvs ih =>
    obtain ⟨q, ws, rfl, h1, h2⟩ := r.cons_iff
    obtain ⟨j, x⟩ := p
    obtain ⟨j', v⟩ := q
    obtain ⟨e, hv⟩ := h1
    cases e
    simp only [hasK, ih h2]
theorem RVk.repl {kvs : List (Str × HV)} {ws : List (Str × OV)} (r : RVk S s kvs ws) (k : Str) {x : HV} {v : OV} (rx : RV S s x v) : RVk S s (replK kvs k x) (replK ws k v) := by
  induction kvs generalizing ws with
  | nil => rw [r.nil_iff]; trivial
  | cons p kvs ih =>
    obtain ⟨q, ws, rfl, h1, h2⟩ := r.cons_iff
    obtain ⟨j, x'⟩ := p
    obtain ⟨j', v'⟩ := q
    obtain ⟨e, hv⟩ := h1
    cases e
    cases hjk : strEq j k with
    | true => simp only [replK, hjk, cond_true]; exact ⟨⟨rfl, rx⟩, ih h2⟩
    | false => simp only [replK, hjk, cond_false]; exact ⟨⟨rfl, hv⟩, ih h2⟩
theorem RVk.put {kvs : List (Str × HV)} {ws : List (Str × OV)} (r : RVk S s kvs ws) (k : Str) {x : HV} {v : OV} (rx : RV S s x v) : RVk S s (putK kvs k x) (putK ws k v) := by
  unfold putK
  rw [r.has k]
  cases hasK kvs k with
  | true => exact r.repl k rx
  | false => exact r.app (.one ⟨rfl, rx⟩)
theorem RVk.drop {kvs : List (Str × HV)} {ws : List (Str × OV)} (r : RVk S s kvs ws) (k : Str) : RVk S s (dropK kvs k) (dropK ws k) := by
  induction kvs generalizing ws with
  | nil => rw [r.nil_iff]; trivial
  | cons p kvs ih =>
    obtain ⟨q, ws, rfl, h1, h2⟩ := r.cons_iff
    obtain ⟨j, x'⟩ := p
    obtain ⟨j', v'⟩ := q
    obtain ⟨e, hv⟩ := h1
    cases e
    cases hjk : strEq j k with
    | true => simp only [dropK, hjk, cond_true]; exact ih h2
    | false => simp only [dropK, hjk, cond_false]; exact ⟨⟨rfl, hv⟩, ih h2⟩
theorem RVk.putf {kvs : List (Str × HV)} {ws : List (Str × OV)} (r : RVk S s kvs ws) (k : Str) {x : HV} {v : OV} (rx : RV S s x v) : RVk S s (putF kvs k x) (putF ws k v) := by
  induction kvs generalizing ws with
  | nil => rw [r.nil_iff]; exact ⟨⟨rfl, rx⟩, trivial⟩
  | cons p kvs ih =>
    obtain ⟨q, ws, rfl, h1, h2⟩ := r.cons_iff
    obtain ⟨j, x'⟩ := p
    obtain ⟨j', v'⟩ := q
    obtain ⟨e, hv⟩ := h1
    cases e
    cases hjk : strEq j k with
    | true => simp only [putF, hjk, cond_true]; exact ⟨⟨rfl, rx⟩, h2⟩
    | false => simp only [putF, hjk, cond_false]; exact ⟨⟨rfl, hv⟩, ih h2⟩
theorem RVk.merge : ∀ {ps : List (Str × HV)} {qs : List (Str × OV)} {kvs : List (Str × HV)} {ws : List (Str × OV)}, RVk S s kvs ws → RVk S s ps qs → RVk S s (mergeP kvs ps) (mergeP ws qs)
  | [], qs, _, _, r, q => by rw [q.nil_iff]; exact r
  | (k, x) :: ps, qs, kvs, ws, r, q => by
    obtain ⟨⟨k', v⟩, qs, rfl, ⟨e, hv⟩, h2⟩ := q.cons_iff
    cases e
    show RVk S s (mergeP (putK kvs k x) ps) (mergeP (putK ws k v) qs)
    exact RVk.merge (r.put k hv) h2
end
end MH

end
section
set_option linter.all false
set_option maxRecDepth 100000
/-! MHSim1: what the second semantics tells the first one tells: states, results, operations. -/
namespace MH
open MP
open PySem
section
variable {S : List Int}

/-! ### states -/
theorem RO.mono {s s' : Sg} {o : HO} {oo : OO} (k : ∀ x v, RV S s x v → RV S s' x v) (r : RO S s o oo) : RO S s' o oo := by
  cases o with
  | lst xs => obtain ⟨vs, rfl, r⟩ := r.lst; exact All2.mono k r
  | dct b xs => obtain ⟨vs, rfl, r'⟩ := RO.dct r; exact ⟨rfl, All2.mono (fun _ _ h => ⟨h.1, k _ _ h.2⟩) r'⟩
  | ins b xs => obtain ⟨vs, rfl, r'⟩ := RO.ins r; exact ⟨rfl, All2.mono (fun _ _ h => ⟨h.1, k _ _ h.2⟩) r'⟩
/-- a new object for good -/
def Sg.newG (s : Sg) (o : OO) : Sg := ⟨s.m, fun a => if a = s.H.n then some o else s.G a, s.h, s.H.new o⟩
/-- a new object in the small heap -/
def Sg.newM (s : Sg) (o : HO) (oo : OO) : Sg := ⟨fun i => if i = s.h.length then s.H.n else s.m i, s.G, s.h ++ [o], s.H.new oo⟩
/-- a new object beside -/
def Sg.newD (s : Sg) (oo : OO) : Sg := ⟨s.m, s.G, s.h, s.H.new oo⟩
def Sg.put (s : Sg) (n : Nat) (o : HO) (oo : OO) : Sg := ⟨s.m, s.G, s.h.set n o, s.H.put (s.m n) oo⟩
def Sg.putD (s : Sg) (D : Nat) (oo : OO) : Sg := ⟨s.m, s.G, s.h, s.H.put D oo⟩
theorem Lk.gN (l : Lk S s) {a : Nat} (h : s.H.n ≤ a) : s.G a = none := by
  cases e : s.G a with
  | none => rfl
  | some o => have := l.lt (l.fz a o e); omega
theorem Nxt.newG {s : Sg} (l : Lk S s) (o : OO) : Nxt S s (s.newG o) := by
  have gg : ∀ a o', s.G a = some o' → (s.newG o).G a = some o' := fun a o' e => by
    show (if a = s.H.n then some o else s.G a) = _
    rw [if_neg fun z => ?_]
    · exact e
    · have := l.lt (l.fz _ _ e); omega
  have mm : ∀ x v, RV S s x v → RV S (s.newG o) x v := fun x v r => HRel.mono (Nat.le_refl _) (fun _ _ => rfl) gg x r
  refine ⟨⟨l.scr, fun a o' e => ?_, fun i o' e => ?_, l.inj, fun a h => ?_⟩, Nat.le_refl _, fun _ _ => rfl, gg, fun a o' e => ?_, Nat.le_succ _, fun i a b => absurd b (Nat.not_lt.mpr a), fun a h _ => ?_, fun _ _ e => e⟩
  · show (s.H.new o).get a = _
    have e' : (if a = s.H.n then some o else s.G a) = some o' := e
    rw [OH.get_new]
    split
    · rename_i q; rw [if_pos q] at e'; exact e'
    · rename_i q; rw [if_neg q] at e'; exact l.fz _ _ e'
  · obtain ⟨g, oo, e1, r⟩ := l.ob i o' e
    have := l.lt e1
    refine ⟨?_, oo, ?_, r.mono mm⟩
    · show (if s.m i = s.H.n then some o else s.G (s.m i)) = none
      rw [if_neg (by omega)]; exact g
    · show (s.H.new o).get (s.m i) = _
      rw [OH.get_new, if_neg (by omega)]; exact e1
  · have h' : s.H.n + 1 ≤ a := h
    show (s.H.new o).get a = none
    rw [OH.get_new, if_neg (by omega)]; exact l.out a (by omega)
  · have e' : (if a = s.H.n then some o else s.G a) = some o' := e
    split at e'
    · exact .inr (by omega)
    · exact .inl e'
  · show (s.H.new o).get a = _
    rw [OH.get_new, if_neg (by omega)]
theorem Nxt.newD {s : Sg} (l : Lk S s) (o : OO) : Nxt S s (s.newD o) := by
  refine ⟨⟨l.scr, fun a o' e => ?_, fun i o' e => ?_, l.inj, fun a h => ?_⟩, Nat.le_refl _, fun _ _ => rfl, fun _ _ e => e, fun a o' e => .inl e, Nat.le_succ _, fun i a b => absurd b (Nat.not_lt.mpr a), fun a h _ => ?_, fun _ _ e => e⟩
  · show (s.H.new o).get a = _
    have := l.lt (l.fz _ _ e)
    rw [OH.get_new, if_neg (by omega)]
    exact l.fz _ _ e
  · obtain ⟨g, oo, e1, r⟩ := l.ob i o' e
    have := l.lt e1
    refine ⟨g, oo, ?_, r⟩
    show (s.H.new o).get (s.m i) = _
    rw [OH.get_new, if_neg (by omega)]; exact e1
  · have h' : s.H.n + 1 ≤ a := h
    show (s.H.new o).get a = none
    rw [OH.get_new, if_neg (by omega)]; exact l.out a (by omega)
  · show (s.H.new o).get a = _
    rw [OH.get_new, if_neg (by omega)]
theorem Nxt.newM {s : Sg} (l : Lk S s) {o : HO} {oo : OO} (r : RO S s o oo) : Nxt S s (s.newM o oo) := by
  have len : (s.newM o oo).h.length = s.h.length + 1 := by show (s.h ++ [o]).length = _; simp
  have me : ∀ i, i < s.h.length → (s.newM o oo).m i = s.m i := fun i h => if_neg (by omega)
  have mm : ∀ x v, RV S s x v → RV S (s.newM o oo) x v := fun x v r => HRel.mono (by rw [len]; omega) me (fun _ _ e => e) x r
  refine ⟨⟨l.scr, fun a o' e => ?_, fun i o' e => ?_, fun i j hi hj e => ?_, fun a h => ?_⟩, by rw [len]; omega, me, fun _ _ e => e, fun a o' e => .inl e, Nat.le_succ _, fun i a b => ?_, fun a h _ => ?_, fun i k e => ?_⟩
  · show (s.H.new oo).get a = _
    have := l.lt (l.fz _ _ e)
    rw [OH.get_new, if_neg (by omega)]
    exact l.fz _ _ e
  · have e' : (s.h ++ [o])[i]? = some o' := e
    rcases Nat.lt_or_ge i s.h.length with q | q
    · rw [List.getElem?_append_left q] at e'
      obtain ⟨g, oo', e1, r'⟩ := l.ob i o' e'
      have := l.lt e1
      rw [me i q]
      refine ⟨g, oo', ?_, r'.mono mm⟩
      show (s.H.new oo).get (s.m i) = _
      rw [OH.get_new, if_neg (by omega)]; exact e1
    · have ei : i = s.h.length := by
        rcases Nat.lt_or_ge s.h.length i with z | z
        · rw [List.getElem?_eq_none (by simp; omega)] at e'; cases e'
        · omega
      subst ei
      rw [List.getElem?_append_right (Nat.le_refl _)] at e'
      simp at e'
      subst e'
      have em : (s.newM o oo).m s.h.length = s.H.n := if_pos rfl
      rw [em]
      refine ⟨l.gN (Nat.le_refl _), oo, ?_, r.mono mm⟩
      show (s.H.new oo).get s.H.n = _
      rw [OH.get_new, if_pos rfl]
  · rw [len] at hi hj
    rcases Nat.lt_or_ge i s.h.length with q | q
    · rcases Nat.lt_or_ge j s.h.length with z | z
      · rw [me i q, me j z] at e; exact l.inj i j q z e
      · have ej : j = s.h.length := by omega
        subst ej
        have em : (s.newM o oo).m s.h.length = s.H.n := if_pos rfl
        rw [me i q, em] at e
        have := l.mlt q
        omega
    · have ei : i = s.h.length := by omega
      subst ei
      rcases Nat.lt_or_ge j s.h.length with z | z
      · have em : (s.newM o oo).m s.h.length = s.H.n := if_pos rfl
        rw [me j z, em] at e
        have := l.mlt z
        omega
      · omega
  · have h' : s.H.n + 1 ≤ a := h
    show (s.H.new oo).get a = none
    rw [OH.get_new, if_neg (by omega)]; exact l.out a (by omega)
  · rw [len] at b
    have ei : i = s.h.length := by omega
    subst ei
    show s.H.n ≤ (s.newM o oo).m s.h.length
    rw [show (s.newM o oo).m s.h.length = s.H.n from if_pos rfl]
    exact Nat.le_refl _
  · show (s.H.new oo).get a = _
    rw [OH.get_new, if_neg (by omega)]
  · show (s.h ++ [o])[i]? = _
    have q : i < s.h.length := by
      rcases Nat.lt_or_ge i s.h.length with q | q
      · exact q
      · rw [List.getElem?_eq_none q] at e; cases e
    rw [List.getElem?_append_left q]; exact e
theorem lt_of_get {α : Type} {l : List α} {i : Nat} {x : α} (e : l[i]? = some x) : i < l.length := by
  rcases Nat.lt_or_ge i l.length with q | q
  · exact q
  · rw [List.getElem?_eq_none q] at e; cases e
theorem Lk.put {s : Sg} (l : Lk S s) {n : Nat} {o0 o : HO} {oo : OO} (e : s.h[n]? = some o0) (r : RO S s o oo) : Lk S (s.put n o oo) := by
  have ln := lt_of_get e
  have len : (s.put n o oo).h.length = s.h.length := List.length_set
  have mm : ∀ x v, RV S s x v → RV S (s.put n o oo) x v := fun x v r => HRel.mono (by rw [len]; omega) (fun _ _ => rfl) (fun _ _ e => e) x r
  obtain ⟨g0, oo0, e0, _⟩ := l.ob n o0 e
  refine ⟨l.scr, fun a o' e => ?_, fun i o' e' => ?_, fun i j hi hj e => l.inj i j (by rw [len] at hi; exact hi) (by rw [len] at hj; exact hj) e, fun a h => ?_⟩
  · show (s.H.put (s.m n) oo).get a = _
    rw [OH.get_put, if_neg fun z => ?_]
    · exact l.fz _ _ e
    · subst z
      have e : s.G (s.m n) = some o' := e
      rw [g0] at e; cases e
  · have e' : (s.h.set n o)[i]? = some o' := e'
    rw [List.getElem?_set] at e'
    by_cases q : n = i
    · subst q
      rw [if_pos rfl, if_pos ln] at e'
      cases e'
      refine ⟨g0, oo, ?_, r.mono mm⟩
      show (s.H.put (s.m n) oo).get (s.m n) = _
      rw [OH.get_put, if_pos rfl]
    · rw [if_neg q] at e'
      obtain ⟨g, oo', e1, r'⟩ := l.ob i o' e'
      refine ⟨g, oo', ?_, r'.mono mm⟩
      show (s.H.put (s.m n) oo).get (s.m i) = _
      rw [OH.get_put, if_neg fun z => q (l.inj n i ln (lt_of_get e') z.symm)]; exact e1
  · have h' : s.H.n ≤ a := h
    show (s.H.put (s.m n) oo).get a = none
    have := l.lt e0
    rw [OH.get_put, if_neg (by omega)]; exact l.out a h'
theorem Nxt.put {s0 s : Sg} (n0 : Nxt S s0 s) {n : Nat} {o0 o : HO} {oo : OO} (e : s.h[n]? = some o0) (nl : ∀ kvs, s0.h[n]? ≠ some (HO.dct true kvs)) (r : RO S s o oo) : Nxt S s0 (s.put n o oo) := by
  have ln := lt_of_get e
  have len : (s.put n o oo).h.length = s.h.length := List.length_set
  refine ⟨n0.lk.put e r, by rw [len]; exact n0.le, n0.eq, n0.G, n0.Gn, n0.Hn, fun i a b => n0.mn i a (by rw [len] at b; exact b), fun a h ne => ?_, fun i k e' => ?_⟩
  · show (s.H.put (s.m n) oo).get a = _
    rw [OH.get_put, if_neg fun z => ?_]
    · exact n0.fr a h ne
    · rcases Nat.lt_or_ge n s0.h.length with q | q
      · exact ne n q (by rw [z, n0.eq n q])
      · have := n0.mn n q ln; omega
  · show (s.h.set n o)[i]? = _
    rw [List.getElem?_set, if_neg fun z => nl k (by rw [z]; exact e')]
    exact n0.lkd i k e'
theorem Nxt.put1 {s : Sg} (l : Lk S s) {n : Nat} {o0 o : HO} {oo : OO} (e : s.h[n]? = some o0) (nl : ∀ kvs, o0 ≠ HO.dct true kvs) (r : RO S s o oo) : Nxt S s (s.put n o oo) :=
  (Nxt.refl l).put e (fun kvs z => by rw [e] at z; cases z; exact nl _ rfl) r
/-- beside: an address that is neither fixed nor in the small heap -/
structure Bsd (s0 s : Sg) (D : Nat) (oo : OO) : Prop where
  ge : s0.H.n ≤ D
  at_ : s.H.get D = some oo
  g : s.G D = none
  m : ∀ i, i < s.h.length → s.m i ≠ D
theorem Bsd.nx {s0 s s' : Sg} {D : Nat} {oo : OO} (b : Bsd s0 s D oo) (l : Lk S s) (n : Nxt S s s') : Bsd s0 s' D oo := by
  have lt := l.lt b.at_
  refine ⟨b.ge, ?_, ?_, fun i h => ?_⟩
  · rw [n.fr D lt b.m]; exact b.at_
  · cases e : s'.G D with
    | none => rfl
    | some o =>
      rcases n.Gn D o e with q | q
      · rw [b.g] at q; cases q
      · omega
  · rcases Nat.lt_or_ge i s.h.length with q | q
    · rw [n.eq i q]; exact b.m i q
    · have := n.mn i q h; omega
theorem Bsd.new {s : Sg} (l : Lk S s) {oo : OO} : Bsd s (s.newD oo) s.H.n oo :=
  ⟨Nat.le_refl _, by show (s.H.new oo).get s.H.n = _; rw [OH.get_new, if_pos rfl], l.gN (Nat.le_refl _), fun i h z => by have := l.mlt (S := S) (s := s) h; have z : s.m i = s.H.n := z; omega⟩
theorem Nxt.putD {s0 s : Sg} {D : Nat} {oo o1 : OO} (n0 : Nxt S s0 s) (b : Bsd s0 s D oo) : Nxt S s0 (s.putD D o1) := by
  have l := n0.lk
  have lt := l.lt b.at_
  refine ⟨⟨l.scr, fun a o' e => ?_, fun i o' e => ?_, l.inj, fun a h => ?_⟩, n0.le, n0.eq, n0.G, n0.Gn, n0.Hn, n0.mn, fun a h ne => ?_, n0.lkd⟩
  · show (s.H.put D o1).get a = _
    rw [OH.get_put, if_neg fun z => ?_]
    · exact l.fz _ _ e
    · subst z
      have e : s.G a = some o' := e
      rw [b.g] at e; cases e
  · obtain ⟨g, oo', e1, r'⟩ := l.ob i o' e
    refine ⟨g, oo', ?_, r'⟩
    show (s.H.put D o1).get (s.m i) = _
    rw [OH.get_put, if_neg (b.m i (lt_of_get e))]; exact e1
  · have h' : s.H.n ≤ a := h
    show (s.H.put D o1).get a = none
    rw [OH.get_put, if_neg (by omega)]; exact l.out a h'
  · show (s.H.put D o1).get a = _
    have := b.ge
    rw [OH.get_put, if_neg (by omega)]; exact n0.fr a h ne
theorem Bsd.put {s0 s : Sg} {D : Nat} {oo o1 : OO} (b : Bsd s0 s D oo) : Bsd s0 (s.putD D o1) D o1 :=
  ⟨b.ge, by show (s.H.put D o1).get D = _; rw [OH.get_put, if_pos rfl], b.g, b.m⟩
/-- what is beside is fixed for good, or taken into the small heap -/
def Sg.fixD (s : Sg) (D : Nat) (oo : OO) : Sg := ⟨s.m, fun a => if a = D then some oo else s.G a, s.h, s.H⟩
def Sg.takD (s : Sg) (D : Nat) (o : HO) : Sg := ⟨fun i => if i = s.h.length then D else s.m i, s.G, s.h ++ [o], s.H⟩
theorem Nxt.fixD {s0 s : Sg} {D : Nat} {oo : OO} (n0 : Nxt S s0 s) (b : Bsd s0 s D oo) : Nxt S s0 (s.fixD D oo) ∧ ∀ x v, RV S s x v → RV S (s.fixD D oo) x v := by
  have l := n0.lk
  have gg : ∀ a o', s.G a = some o' → (s.fixD D oo).G a = some o' := fun a o' e => by
    show (if a = D then some oo else s.G a) = _
    rw [if_neg fun z => ?_]
    · exact e
    · rw [z, b.g] at e; cases e
  have mm : ∀ x v, RV S s x v → RV S (s.fixD D oo) x v := fun x v r => HRel.mono (Nat.le_refl _) (fun _ _ => rfl) gg x r
  refine ⟨⟨⟨l.scr, fun a o' e => ?_, fun i o' e => ?_, l.inj, l.out⟩, n0.le, n0.eq, fun a o' e => gg _ _ (n0.G _ _ e), fun a o' e => ?_, n0.Hn, n0.mn, n0.fr, n0.lkd⟩, mm⟩
  · have e' : (if a = D then some oo else s.G a) = some o' := e
    split at e'
    · rename_i q; rw [q]; cases e'; exact b.at_
    · exact l.fz _ _ e'
  · obtain ⟨g, oo', e1, r⟩ := l.ob i o' e
    refine ⟨?_, oo', e1, r.mono mm⟩
    show (if s.m i = D then some oo else s.G (s.m i)) = none
    rw [if_neg (b.m i (lt_of_get e))]; exact g
  · have e' : (if a = D then some oo else s.G a) = some o' := e
    split at e'
    · rename_i q; exact .inr (q ▸ b.ge)
    · exact n0.Gn _ _ e'
theorem Nxt.takD {s0 s : Sg} {D : Nat} {o : HO} {oo : OO} (n0 : Nxt S s0 s) (b : Bsd s0 s D oo) (r : RO S s o oo) : Nxt S s0 (s.takD D o) := by
  have l := n0.lk
  have len : (s.takD D o).h.length = s.h.length + 1 := by show (s.h ++ [o]).length = _; simp
  have me : ∀ i, i < s.h.length → (s.takD D o).m i = s.m i := fun i h => if_neg (by omega)
  have mD : (s.takD D o).m s.h.length = D := if_pos rfl
  have mm : ∀ x v, RV S s x v → RV S (s.takD D o) x v := fun x v r => HRel.mono (by rw [len]; omega) me (fun _ _ e => e) x r
  refine ⟨⟨l.scr, l.fz, fun i o' e => ?_, fun i j hi hj e => ?_, l.out⟩, by rw [len]; have := n0.le; omega, fun i h => ?_, n0.G, n0.Gn, n0.Hn, fun i a b' => ?_, n0.fr, fun i k e => ?_⟩
  · have e' : (s.h ++ [o])[i]? = some o' := e
    rcases Nat.lt_or_ge i s.h.length with q | q
    · rw [List.getElem?_append_left q] at e'
      obtain ⟨g, oo', e1, r'⟩ := l.ob i o' e'
      rw [me i q]
      exact ⟨g, oo', e1, r'.mono mm⟩
    · have ei : i = s.h.length := by
        rcases Nat.lt_or_ge s.h.length i with z | z
        · rw [List.getElem?_eq_none (by simp; omega)] at e'; cases e'
        · omega
      subst ei
      rw [List.getElem?_append_right (Nat.le_refl _)] at e'
      simp at e'
      subst e'
      rw [mD]
      exact ⟨b.g, oo, b.at_, r.mono mm⟩
  · rw [len] at hi hj
    rcases Nat.lt_or_ge i s.h.length with q | q
    · rcases Nat.lt_or_ge j s.h.length with z | z
      · rw [me i q, me j z] at e; exact l.inj i j q z e
      · have ej : j = s.h.length := by omega
        subst ej
        rw [me i q, mD] at e
        exact absurd e (b.m i q)
    · have ei : i = s.h.length := by omega
      subst ei
      rcases Nat.lt_or_ge j s.h.length with z | z
      · rw [me j z, mD] at e
        exact absurd e.symm (b.m j z)
      · omega
  · rw [me i (Nat.lt_of_lt_of_le h n0.le)]; exact n0.eq i h
  · rw [len] at b'
    rcases Nat.lt_or_ge i s.h.length with q | q
    · rw [me i q]; exact n0.mn i a q
    · have ei : i = s.h.length := by omega
      subst ei
      rw [mD]; exact b.ge
  · show (s.h ++ [o])[i]? = _
    have e' := n0.lkd i k e
    rw [List.getElem?_append_left (lt_of_get e')]; exact e'

/-! ### results -/
variable (S) in
def SimR {α β : Type} (s : Sg) (x : HR α) (y : R β) (P : Sg → α → β → Prop) : Prop :=
  match x with
  | .ok a h' => ∃ b s', y = .ok b s'.H ∧ s'.h = h' ∧ Nxt S s s' ∧ P s' a b
  | .ex c h' => ∃ s', y = .ex c s'.H ∧ s'.h = h' ∧ Nxt S s s'
  | .no => True
theorem SimR.ret {α β : Type} {s s' : Sg} {a : α} {b : β} {P : Sg → α → β → Prop} (n : Nxt S s s') (p : P s' a b) : SimR S s (.ok a s'.h) (.ok b s'.H) P := ⟨b, s', rfl, rfl, n, p⟩
theorem SimR.bind {α β γ δ : Type} {s0 s : Sg} {x : HR α} {y : R β} {P : Sg → α → β → Prop} {f : α → HH → HR γ} {g : β → OH → R δ} {Q : Sg → γ → δ → Prop} (o : SimR S s x y P) (n0 : Nxt S s0 s)
    (k : ∀ s' a b, Nxt S s s' → P s' a b → SimR S s0 (f a s'.h) (g b s'.H) Q) : SimR S s0 (x.bind f) (y.bind g) Q := by
  cases x with
  | ok a h' =>
    obtain ⟨b, s', rfl, rfl, n, p⟩ := o
    exact k s' a b n p
  | ex c h' =>
    obtain ⟨s', rfl, rfl, n⟩ := o
    exact ⟨s', rfl, rfl, n0.trans n⟩
  | no => exact trivial
theorem SimR.nx {α β : Type} {s : Sg} {x : HR α} {y : R β} {P : Sg → α → β → Prop} (o : SimR S s x y P) : SimR S s (nxH x) (noEx y) P := by
  cases x with
  | ok a h' =>
    obtain ⟨b, s', rfl, rfl, n, p⟩ := o
    exact ⟨b, s', rfl, rfl, n, p⟩
  | ex c h' => exact trivial
  | no => exact trivial
theorem SimR.imp {α β : Type} {s : Sg} {x : HR α} {y : R β} {P Q : Sg → α → β → Prop} (o : SimR S s x y P) (k : ∀ s' a b, Nxt S s s' → P s' a b → Q s' a b) : SimR S s x y Q := by
  cases x with
  | ok a h' =>
    obtain ⟨b, s', rfl, rfl, n, p⟩ := o
    exact ⟨b, s', rfl, rfl, n, k _ _ _ n p⟩
  | ex c h' => exact o
  | no => exact trivial
theorem SimR.of {α β : Type} {s : Sg} {P : Sg → α → β → Prop} {x : Option α} {y : Option β} (l : Lk S s) (k : ∀ a, x = some a → ∃ b, y = some b ∧ P s a b) : SimR S s (HR.of x s.h) (R.of y s.H) P := by
  cases x with
  | none => exact trivial
  | some a =>
    obtain ⟨b, rfl, p⟩ := k a rfl
    exact .ret (.refl l) p
abbrev RVP (S : List Int) : Sg → HV → OV → Prop := fun s x v => RV S s x v
theorem sim_mkL {s : Sg} {mu : Bool} {xs : List HV} {vs : List OV} (l : Lk S s) (r : RVs S s xs vs) : SimR S s (mkL mu xs s.h) (newR (.lst vs) s.H) (RVP S) := by
  cases mu with
  | false =>
    refine ⟨.ref s.H.n, s.newG (.lst vs), rfl, rfl, .newG l _, RV.fl.mpr ⟨_, vs, rfl, if_pos rfl, ?_⟩⟩
    exact (Nxt.newG l (.lst vs)).rvs r
  | true =>
    refine ⟨.ref s.H.n, s.newM (.lst xs) (.lst vs), rfl, rfl, .newM l r, RV.ref.mpr ⟨?_, ?_⟩⟩
    · show s.h.length < (s.h ++ [_]).length; simp
    · show OV.ref s.H.n = OV.ref (if _ then _ else _); rw [if_pos rfl]
theorem sim_mkD {s : Sg} {mu : Bool} {xs : List (Str × HV)} {vs : List (Str × OV)} (l : Lk S s) (r : RVk S s xs vs) : SimR S s (mkD mu xs s.h) (newR (.dct false vs) s.H) (RVP S) := by
  cases mu with
  | false =>
    refine ⟨.ref s.H.n, s.newG (.dct false vs), rfl, rfl, .newG l _, RV.fd.mpr ⟨_, vs, rfl, if_pos rfl, ?_⟩⟩
    exact (Nxt.newG l (.dct false vs)).rvk r
  | true =>
    refine ⟨.ref s.H.n, s.newM (.dct false xs) (.dct false vs), rfl, rfl, .newM l ⟨rfl, r⟩, RV.ref.mpr ⟨?_, ?_⟩⟩
    · show s.h.length < (s.h ++ [_]).length; simp
    · show OV.ref s.H.n = OV.ref (if _ then _ else _); rw [if_pos rfl]
theorem sim_mkT {s : Sg} {xs : List HV} {vs : List OV} (l : Lk S s) (r : RVs S s xs vs) : SimR S s (.ok (.ft xs) s.h) (newR (.tup vs) s.H) (RVP S) :=
  ⟨.ref s.H.n, s.newG (.tup vs), rfl, rfl, .newG l _, RV.ft.mpr ⟨_, vs, rfl, if_pos rfl, (Nxt.newG l (.tup vs)).rvs r⟩⟩
/-- a plain value -/
def HV.pl : HV → OV
  | .non => .non | .bl b => .bl b | .int i => .int i | .str x => .str x
  | _ => .non
theorem flat_is {s : Sg} {x : HV} {v : OV} (f : flatH x = true) (r : RV S s x v) : v = x.pl := by
  cases x with
  | non => exact RV.non.mp r
  | bl b => exact RV.bl.mp r
  | int b => exact RV.int.mp r
  | str b => exact RV.str.mp r
  | _ => cases f
theorem RV.pl {s : Sg} {x : HV} (f : flatH x = true) : RV S s x x.pl := by
  cases x with
  | non => exact RV.non.mpr rfl
  | bl b => exact RV.bl.mpr rfl
  | int b => exact RV.int.mpr rfl
  | str b => exact RV.str.mpr rfl
  | _ => cases f
/-- plain values in both -/
theorem flat_rv {s : Sg} {x : HV} {v : OV} (r : RV S s x v) : flatO v = flatH x := by
  cases x with
  | non => rw [RV.non.mp r]; rfl
  | bl b => rw [RV.bl.mp r]; rfl
  | int b => rw [RV.int.mp r]; rfl
  | str b => rw [RV.str.mp r]; rfl
  | sc ns => rw [(RV.sc.mp r).1]; rfl
  | ref n => rw [(RV.ref.mp r).2]; rfl
  | fl xs => obtain ⟨a, vs, rfl, _⟩ := RV.fl.mp r; rfl
  | ft xs => obtain ⟨a, vs, rfl, _⟩ := RV.ft.mp r; rfl
  | fd b xs => obtain ⟨a, vs, rfl, _⟩ := RV.fd.mp r; rfl
  | fi c xs => obtain ⟨a, vs, rfl, _⟩ := RV.fi.mp r; rfl
theorem flats_rv {s : Sg} : ∀ {xs : List HV} {vs : List OV}, RVs S s xs vs → vs.all flatO = xs.all flatH
  | [], vs, r => by rw [r.nil_iff]; rfl
  | x :: xs, vs, r => by
    obtain ⟨v, vs, rfl, h1, h2⟩ := r.cons_iff
    simp only [List.all_cons, flat_rv h1, flats_rv h2]
theorem eqF_rv {s : Sg} {x y : HV} {v w : OV} (fx : flatH x = true) (fy : flatH y = true) (rx : RV S s x v) (ry : RV S s y w) : eqF v w = eqFH x y := by
  rw [flat_is fx rx, flat_is fy ry]
  cases x <;> (try cases fx) <;> cases y <;> (try cases fy) <;> rfl
end
end MH

end
section
set_option linter.all false
set_option maxRecDepth 100000
/-! MHSim2: operations. -/
namespace MH
open MP
open PySem
section
variable {S : List Int} {s : Sg}

theorem lstOf_ref {H : OH} {a : Nat} {vs : List OV} (e : H.get a = some (.lst vs)) : lstOf H (.ref a) = some vs := by
  simp only [lstOf, e]
theorem Lk.lstOf (l : Lk S s) {x : HV} {v : OV} {xs : List HV} (r : RV S s x v) (e : lstH s.h x = some xs) : ∃ vs, MP.lstOf s.H v = some vs ∧ RVs S s xs vs := by
  obtain ⟨a, vs, rfl, g, r⟩ := l.lst r e
  exact ⟨vs, lstOf_ref g, r⟩
theorem sim_flat {x : HV} {v : OV} (l : Lk S s) (f : flatH x = true) (e : v = x.pl) : SimR S s (.ok x s.h) (.ok v s.H) (RVP S) := ⟨v, s, rfl, rfl, .refl l, by rw [e]; exact RV.pl f⟩
theorem sim_bin {mu : Bool} {op : BOp} {x y : HV} {v w : OV} (l : Lk S s) (rx : RV S s x v) (ry : RV S s y w) : SimR S s (binH mu op x y s.h) (binV op v w s.H) (RVP S) := by
  unfold binH
  split
  · rw [RV.int.mp rx, RV.int.mp ry]; exact sim_flat l rfl rfl
  · rw [RV.str.mp rx, RV.str.mp ry]
    split
    · rename_i q; simp only [binV, if_pos q]; exact sim_flat l rfl rfl
    · trivial
  · split
    · rename_i xs ys e1 e2
      obtain ⟨a, vs, rfl, g1, r1⟩ := l.lst rx e1
      obtain ⟨b, ws, rfl, g2, r2⟩ := l.lst ry e2
      split
      · rename_i q
        simp only [binV, g1, g2]
        rw [if_pos (by rw [← r1.len, ← r2.len]; exact q)]
        exact sim_mkL l (r1.app r2)
      · trivial
    · trivial
  · rw [RV.int.mp rx, RV.int.mp ry]; exact sim_flat l rfl rfl
  · rw [RV.int.mp rx, RV.int.mp ry]
    split
    · rename_i q; simp only [binV, if_pos q]; exact sim_flat l rfl rfl
    · trivial
  · split
    · rename_i xs e1
      obtain ⟨a, vs, rfl, g1, r1⟩ := l.lst rx e1
      rw [RV.int.mp ry]
      split
      · rename_i q
        simp only [binV, g1]
        rw [if_pos (by rw [← r1.len]; exact q)]
        exact sim_mkL l (All2.flat (All2.repl r1 _))
      · trivial
    · trivial
  · rw [RV.int.mp rx, RV.int.mp ry]
    split
    · rename_i q; simp only [binV, if_pos q]; exact sim_flat l rfl rfl
    · trivial
  · rw [RV.int.mp rx, RV.int.mp ry]
    split
    · rename_i q; simp only [binV, if_pos q]; exact sim_flat l rfl rfl
    · trivial
  · rw [RV.int.mp rx, RV.int.mp ry]
    split
    · rename_i q; simp only [binV, if_pos q]; exact sim_flat l rfl rfl
    · trivial
  · trivial

/-! ### views -/
theorem mapO_rel {α β γ : Type} {f : α → Option β} {R : α → γ → Prop} {R' : β → γ → Prop} {Q : β → Prop} (k : ∀ x y v, f x = some y → R x v → R' y v ∧ Q y) : ∀ {xs : List α} {ys : List β} {vs : List γ}, mapO f xs = some ys → All2 R xs vs → All2 R' ys vs ∧ ∀ y ∈ ys, Q y
  | [], ys, vs, e, r => by cases e; rw [r.nil_iff]; exact ⟨trivial, fun _ h => by cases h⟩
  | x :: xs, ys, vs, e, r => by
    obtain ⟨v, vs, rfl, h1, h2⟩ := r.cons_iff
    simp only [mapO] at e
    split at e
    · rename_i y ey
      split at e
      · rename_i ys' eys
        cases e
        obtain ⟨a, b⟩ := mapO_rel k eys h2
        obtain ⟨c, d⟩ := k _ _ _ ey h1
        exact ⟨⟨c, a⟩, fun z hz => by
          rcases List.mem_cons.mp hz with q | q
          · rw [q]; exact d
          · exact b z q⟩
      · cases e
    · cases e
theorem mapK_rel {β γ δ : Type} {f : β → Option γ} {R : β → δ → Prop} {R' : γ → δ → Prop} {Q : γ → Prop} (k : ∀ x y v, f x = some y → R x v → R' y v ∧ Q y) : ∀ {xs : List (Str × β)} {ys : List (Str × γ)} {vs : List (Str × δ)}, mapK f xs = some ys →
    All2 (fun p q => p.1 = q.1 ∧ R p.2 q.2) xs vs → All2 (fun p q => p.1 = q.1 ∧ R' p.2 q.2) ys vs ∧ ∀ y ∈ ys, Q y.2
  | [], ys, vs, e, r => by cases e; rw [r.nil_iff]; exact ⟨trivial, fun _ h => by cases h⟩
  | (j, x) :: xs, ys, vs, e, r => by
    obtain ⟨v, vs, rfl, h1, h2⟩ := r.cons_iff
    simp only [mapK] at e
    split at e
    · rename_i y ey
      split at e
      · rename_i ys' eys
        cases e
        obtain ⟨a, b⟩ := mapK_rel k eys h2
        obtain ⟨c, d⟩ := k _ _ _ ey h1.2
        exact ⟨⟨⟨h1.1, c⟩, a⟩, fun z hz => by
          rcases List.mem_cons.mp hz with q | q
          · rw [q]; exact d
          · exact b z q⟩
      · cases e
    · cases e
theorem rfs_all : ∀ {xs : List HV}, (∀ y ∈ xs, rf y = true) → rf.rfs xs = true
  | [], _ => rfl
  | x :: xs, h => by
    rw [rf.rfs, h x (List.mem_cons_self ..), rfs_all fun y hy => h y (List.mem_cons_of_mem _ hy)]; rfl
theorem rfk_all : ∀ {xs : List (Str × HV)}, (∀ y ∈ xs, rf y.2 = true) → rf.rfk xs = true
  | [], _ => rfl
  | (k, x) :: xs, h => by
    rw [rf.rfk, h (k, x) (List.mem_cons_self ..), rfk_all fun y hy => h y (List.mem_cons_of_mem _ hy)]; rfl
theorem vw_rel (l : Lk S s) {G' : Gz} (hG : ∀ a o, s.G a = some o → G' a = some o) (hm : ∀ i, i < s.h.length → G' (s.m i) = s.H.get (s.m i)) {m' : Nat → Nat} {n' : Nat} :
    ∀ (k : Nat) (x y : HV) (v : OV), vw k s.h x = some y → RV S s x v → HRel m' n' G' S y v ∧ rf y = true := by
  intro k
  induction k with
  | zero =>
    intro x y v e r
    simp only [vw] at e
    cases q : rf x with
    | true => rw [q] at e; cases e; exact ⟨HRel.free hG x q r, q⟩
    | false => rw [q] at e; cases e
  | succ k ih =>
    intro x y v e r
    unfold vw at e
    cases q : rf x with
    | true => rw [q] at e; cases e; exact ⟨HRel.free hG x q r, q⟩
    | false =>
      rw [q, cond_false] at e
      cases x with
      | fl xs =>
        obtain ⟨a, vs, rfl, g, r⟩ := RV.fl.mp r
        obtain ⟨ys, ey, rfl⟩ := Option.map_eq_some_iff.mp e
        obtain ⟨h1, h2⟩ := mapO_rel (ih) ey r
        exact ⟨by rw [HRel]; exact ⟨a, vs, rfl, hG _ _ g, (HRels_iff _ _ _ _ _ _).mpr h1⟩, by rw [rf]; exact rfs_all h2⟩
      | ft xs =>
        obtain ⟨a, vs, rfl, g, r⟩ := RV.ft.mp r
        obtain ⟨ys, ey, rfl⟩ := Option.map_eq_some_iff.mp e
        obtain ⟨h1, h2⟩ := mapO_rel (ih) ey r
        exact ⟨by rw [HRel]; exact ⟨a, vs, rfl, hG _ _ g, (HRels_iff _ _ _ _ _ _).mpr h1⟩, by rw [rf]; exact rfs_all h2⟩
      | fd b xs =>
        obtain ⟨a, vs, rfl, g, r⟩ := RV.fd.mp r
        obtain ⟨ys, ey, rfl⟩ := Option.map_eq_some_iff.mp e
        obtain ⟨h1, h2⟩ := mapK_rel (ih) ey r
        exact ⟨by rw [HRel]; exact ⟨a, vs, rfl, hG _ _ g, (HRelk_iff _ _ _ _ _ _).mpr h1⟩, by rw [rf]; exact rfk_all h2⟩
      | fi b xs =>
        obtain ⟨a, vs, rfl, g, r⟩ := RV.fi.mp r
        obtain ⟨ys, ey, rfl⟩ := Option.map_eq_some_iff.mp e
        obtain ⟨h1, h2⟩ := mapK_rel (ih) ey r
        exact ⟨by rw [HRel]; exact ⟨a, vs, rfl, hG _ _ g, (HRelk_iff _ _ _ _ _ _).mpr h1⟩, by rw [rf]; exact rfk_all h2⟩
      | ref n =>
        dsimp only at e
        split at e
        · rename_i xs eo
          obtain ⟨oo, rfl, e2, ro⟩ := l.ro r eo
          obtain ⟨vs, rfl, ro⟩ := ro.lst
          obtain ⟨ys, ey, rfl⟩ := Option.map_eq_some_iff.mp e
          obtain ⟨h1, h2⟩ := mapO_rel (ih) ey ro
          exact ⟨by rw [HRel]; exact ⟨_, vs, rfl, by rw [hm n (lt_of_get eo)]; exact e2, (HRels_iff _ _ _ _ _ _).mpr h1⟩, by rw [rf]; exact rfs_all h2⟩
        · rename_i b xs eo
          obtain ⟨oo, rfl, e2, ro⟩ := l.ro r eo
          obtain ⟨vs, rfl, rp⟩ := RO.dct ro
          obtain ⟨ys, ey, rfl⟩ := Option.map_eq_some_iff.mp e
          obtain ⟨h1, h2⟩ := mapK_rel (ih) ey rp
          exact ⟨by rw [HRel]; exact ⟨_, vs, rfl, by rw [hm n (lt_of_get eo)]; exact e2, (HRelk_iff _ _ _ _ _ _).mpr h1⟩, by rw [rf]; exact rfk_all h2⟩
        · rename_i b xs eo
          obtain ⟨oo, rfl, e2, ro⟩ := l.ro r eo
          obtain ⟨vs, rfl, rp⟩ := RO.ins ro
          obtain ⟨ys, ey, rfl⟩ := Option.map_eq_some_iff.mp e
          obtain ⟨h1, h2⟩ := mapK_rel (ih) ey rp
          exact ⟨by rw [HRel]; exact ⟨_, vs, rfl, by rw [hm n (lt_of_get eo)]; exact e2, (HRelk_iff _ _ _ _ _ _).mpr h1⟩, by rw [rf]; exact rfk_all h2⟩
        · cases e
      | _ => cases e
/-! ### equality -/
def toP : Nat → HV → PyData
  | _, .non => .none
  | _, .bl b => .bool b
  | _, .int i => .int i
  | _, .str x => .str x
  | k + 1, .fl xs => .list (xs.map (toP k))
  | k + 1, .ft xs => .tuple (xs.map (toP k))
  | _, _ => .none
theorem mapO_is {α β : Type} {f : α → Option β} {g : α → β} : ∀ {xs : List α}, (∀ x ∈ xs, f x = some (g x)) → mapO f xs = some (xs.map g)
  | [], _ => rfl
  | x :: xs, h => by
    simp only [mapO, h x (List.mem_cons_self ..), mapO_is fun y hy => h y (List.mem_cons_of_mem _ hy), List.map_cons]
theorem mapO_all2 {α β γ : Type} {f : α → Option β} {g : γ → β} {R : γ → α → Prop} (k : ∀ x v, R x v → f v = some (g x)) : ∀ {xs : List γ} {vs : List α}, All2 R xs vs → mapO f vs = some (xs.map g)
  | [], vs, r => by rw [r.nil_iff]; rfl
  | x :: xs, vs, r => by
    obtain ⟨v, vs, rfl, h1, h2⟩ := r.cons_iff
    simp only [mapO, k _ _ h1, mapO_all2 k h2, List.map_cons]
theorem All2.memL {α β : Type} {R : α → β → Prop} {Q : α → Prop} : ∀ {xs : List α} {ys : List β}, All2 R xs ys → (∀ x ∈ xs, Q x) → All2 (fun x y => Q x ∧ R x y) xs ys
  | [], ys, r, _ => by rw [r.nil_iff]; trivial
  | x :: xs, ys, r, h => by
    obtain ⟨v, vs, rfl, h1, h2⟩ := r.cons_iff
    exact ⟨⟨h x (List.mem_cons_self ..), h1⟩, h2.memL fun y hy => h y (List.mem_cons_of_mem _ hy)⟩
theorem rdP_of {H : OH} {m : Nat → Nat} {n : Nat} {G : Gz} (hG : ∀ a o, G a = some o → H.get a = some o) : ∀ (k : Nat) (x : HV) (v : OV), okT k x = true → HRel m n G S x v → rdP k H v = some (toP k x) := by
  intro k
  induction k with
  | zero =>
    intro x v o r
    cases x <;> (try (cases o; done)) <;> (rw [HRel] at r; rw [r]; rfl)
  | succ k ih =>
    intro x v o r
    cases x with
    | fl xs =>
      rw [HRel] at r
      obtain ⟨a, vs, rfl, g, r⟩ := r
      simp only [rdP, hG _ _ g]
      have r' := ((HRels_iff _ _ _ _ _ _).mp r).memL (Q := fun x => okT k x = true) (by simpa [okT] using o)
      rw [mapO_all2 (fun x v h => ih x v h.1 h.2) r']
      rfl
    | ft xs =>
      rw [HRel] at r
      obtain ⟨a, vs, rfl, g, r⟩ := r
      simp only [rdP, hG _ _ g]
      have r' := ((HRels_iff _ _ _ _ _ _).mp r).memL (Q := fun x => okT k x = true) (by simpa [okT] using o)
      rw [mapO_all2 (fun x v h => ih x v h.1 h.2) r']
      rfl
    | non => rw [HRel] at r; rw [r]; rfl
    | bl b => rw [HRel] at r; rw [r]; rfl
    | int b => rw [HRel] at r; rw [r]; rfl
    | str b => rw [HRel] at r; rw [r]; rfl
    | _ => cases o
theorem okS_is (x : Str) : PyData.strOk x = okS x := by
  unfold PyData.strOk okS
  rw [← Array.all_toList]
  congr 1
  funext c
  rw [Bool.eq_iff_iff, decide_eq_true_eq, Nat.blt_eq]
theorem shaped_toP : ∀ (k : Nat) (x : HV), okT k x = true → (toP k x).canLay0 = true ∧ (toP k x).depth ≤ k := by
  intro k
  induction k with
  | zero => intro x o; cases x <;> first | (cases o; done) | exact ⟨rfl, Nat.le_refl _⟩ | exact ⟨(okS_is _).trans o, Nat.le_refl _⟩
  | succ k ih =>
    have all : ∀ xs : List HV, (∀ x ∈ xs, okT k x = true) → PyData.canLayAll0 (xs.map (toP k)) = true ∧ PyData.depthAll (xs.map (toP k)) ≤ k := by
      intro xs
      induction xs with
      | nil => intro _; exact ⟨rfl, Nat.zero_le _⟩
      | cons x xs ih2 =>
        intro h
        obtain ⟨a, b⟩ := ih x (h x (List.mem_cons_self ..))
        obtain ⟨c, d⟩ := ih2 fun y hy => h y (List.mem_cons_of_mem _ hy)
        simp only [List.map_cons, PyData.canLayAll0, PyData.depthAll, a, c]
        exact ⟨rfl, Nat.max_le.mpr ⟨b, d⟩⟩
    intro x o
    cases x with
    | fl xs =>
      obtain ⟨a, b⟩ := all xs (by simpa [okT] using o)
      simp only [toP, PyData.canLay0, PyData.depth]
      exact ⟨a, by omega⟩
    | ft xs =>
      obtain ⟨a, b⟩ := all xs (by simpa [okT] using o)
      simp only [toP, PyData.canLay0, PyData.depth]
      exact ⟨a, by omega⟩
    | non => exact ⟨rfl, Nat.zero_le _⟩
    | bl b => exact ⟨rfl, Nat.zero_le _⟩
    | int b => exact ⟨rfl, Nat.zero_le _⟩
    | str b => exact ⟨(okS_is _).trans o, Nat.zero_le _⟩
    | _ => cases o
theorem shaped_of (k : Nat) (x : HV) (o : okT k x = true) (hk : k ≤ 64) : SeqAt.shaped (toP k x) = true := by
  obtain ⟨a, b⟩ := shaped_toP k x o
  unfold SeqAt.shaped
  rw [a, Bool.true_and]
  exact decide_eq_true (by omega)
theorem eqPs_is (k : Nat) (ih : ∀ x y, okT k x = true → okT k y = true → eqP (toP k x) (toP k y) = eqT k x y) : ∀ xs ys : List HV, (∀ x ∈ xs, okT k x = true) → (∀ x ∈ ys, okT k x = true) → eqP.eqPs (xs.map (toP k)) (ys.map (toP k)) = eqT.all2 (eqT k) xs ys
  | [], [], _, _ => by rw [eqT.all2]; rfl
  | [], _ :: _, _, _ => by rw [eqT.all2] <;> first | rfl | simp
  | _ :: _, [], _, _ => by rw [eqT.all2] <;> first | rfl | simp
  | x :: xs, y :: ys, hx, hy => by
    simp only [List.map_cons, eqP.eqPs, eqT.all2]
    rw [ih x y (hx x (List.mem_cons_self ..)) (hy y (List.mem_cons_self ..)), eqPs_is k ih xs ys (fun z hz => hx z (List.mem_cons_of_mem _ hz)) fun z hz => hy z (List.mem_cons_of_mem _ hz)]
theorem eqP_is : ∀ (k : Nat) (x y : HV), okT k x = true → okT k y = true → eqP (toP k x) (toP k y) = eqT k x y := by
  intro k
  induction k with
  | zero => intro x y hx hy; cases x <;> (try cases hx) <;> cases y <;> (try cases hy) <;> simp [toP, eqP, eqT]
  | succ k ih =>
    intro x y hx hy
    cases x with
    | fl xs =>
      cases y with
      | fl ys => simp only [toP, eqP, eqT]; exact eqPs_is k ih xs ys (by simpa [okT] using hx) (by simpa [okT] using hy)
      | ft ys => simp [toP, eqP, eqT]
      | non => simp [toP, eqP, eqT]
      | bl _ => simp [toP, eqP, eqT]
      | int _ => simp [toP, eqP, eqT]
      | str _ => simp [toP, eqP, eqT]
      | _ => cases hy
    | ft xs =>
      cases y with
      | ft ys => simp only [toP, eqP, eqT]; exact eqPs_is k ih xs ys (by simpa [okT] using hx) (by simpa [okT] using hy)
      | fl ys => simp [toP, eqP, eqT]
      | non => simp [toP, eqP, eqT]
      | bl _ => simp [toP, eqP, eqT]
      | int _ => simp [toP, eqP, eqT]
      | str _ => simp [toP, eqP, eqT]
      | _ => cases hy
    | non => cases y <;> first | cases hy; done | simp [toP, eqP, eqT]
    | bl _ => cases y <;> first | cases hy; done | simp [toP, eqP, eqT]
    | int _ => cases y <;> first | cases hy; done | simp [toP, eqP, eqT]
    | str _ => cases y <;> first | cases hy; done | simp [toP, eqP, eqT]
    | _ => cases hx
theorem sim_eq (l : Lk S s) {x y : HV} {v w : OV} {b : Bool} (rx : RV S s x v) (ry : RV S s y w) (e : eqH s.h x y = some b) : eqO s.H v w = some b := by
  unfold eqH at e
  split at e
  · rename_i a c ea ec
    split at e
    · rename_i q
      rw [Bool.and_eq_true] at q
      cases e
      have ra := vw_rel l (G' := s.H.get) (m' := s.m) (n' := 0) l.fz (fun _ _ => rfl) _ _ _ _ ea rx
      have rc := vw_rel l (G' := s.H.get) (m' := s.m) (n' := 0) l.fz (fun _ _ => rfl) _ _ _ _ ec ry
      unfold eqO
      rw [rdP_of (S := S) (fun _ _ e => e) 20 a v q.1 ra.1, rdP_of (S := S) (fun _ _ e => e) 20 c w q.2 rc.1]
      dsimp only
      rw [shaped_of 20 a q.1 (by decide), shaped_of 20 c q.2 (by decide), eqP_is 20 a c q.1 q.2]
      rfl
    · cases e
  · cases e
theorem any_eqF {x : HV} {v : OV} (fx : flatH x = true) (rx : RV S s x v) : ∀ {xs : List HV} {vs : List OV}, xs.all flatH = true → RVs S s xs vs → vs.any (fun y => eqF y v) = xs.any fun y => eqFH y x
  | [], vs, _, r => by rw [r.nil_iff]; rfl
  | y :: ys, vs, f, r => by
    obtain ⟨w, vs, rfl, h1, h2⟩ := r.cons_iff
    rw [List.all_cons, Bool.and_eq_true] at f
    rw [List.any_cons, List.any_cons, eqF_rv f.1 fx h1 rx, any_eqF fx rx f.2 h2]
theorem sim_in (l : Lk S s) {x y : HV} {v w : OV} {b : Bool} (rx : RV S s x v) (ry : RV S s y w) (e : inH s.h x y = some b) : inO s.H v w = some b := by
  unfold inH at e
  split at e
  · rw [RV.str.mp ry]
    split at e
    · rw [RV.str.mp rx]; exact e
    · cases e
  · rename_i ny
    split at e
    · rename_i xs ex
      obtain ⟨a, vs, rfl, g, r⟩ := l.seq ry ex
      split at e
      · rename_i q
        cases e
        rw [Bool.and_eq_true] at q
        have q2 := flats_rv r
        rcases g with g | g
        · simp only [inO, g]
          rw [flat_rv rx, q2, q.1, q.2, any_eqF q.1 rx q.2 r]; rfl
        · simp only [inO, g]
          rw [flat_rv rx, q2, q.1, q.2, any_eqF q.1 rx q.2 r]; rfl
      · cases e
    · split at e
      · rename_i kvs ek
        obtain ⟨a, bb, vs, rfl, g, r⟩ := l.dct ry ek
        split at e
        · cases e
          rename_i k
          rw [RV.str.mp rx]
          simp only [inO, g]
          have := r.look k
          cases q : lookK kvs k with
          | none => rw [q] at this; rw [this]; rfl
          | some z => rw [q] at this; obtain ⟨u, e, _⟩ := this; rw [e]; rfl
        · cases e
      · cases e
theorem sim_is {x y : HV} {v w : OV} {b : Bool} (rx : RV S s x v) (ry : RV S s y w) (e : isH x y = some b) : cmpO .is v w s.H = some b ∧ cmpO .isn v w s.H = some (!b) := by
  unfold isH at e
  split at e
  · cases e
    rw [RV.non.mp ry]
    cases x with
    | non => rw [RV.non.mp rx]; exact ⟨rfl, rfl⟩
    | bl b => rw [RV.bl.mp rx]; exact ⟨rfl, rfl⟩
    | int b => rw [RV.int.mp rx]; exact ⟨rfl, rfl⟩
    | str b => rw [RV.str.mp rx]; exact ⟨rfl, rfl⟩
    | sc ns => rw [(RV.sc.mp rx).1]; exact ⟨rfl, rfl⟩
    | ref n => rw [(RV.ref.mp rx).2]; exact ⟨rfl, rfl⟩
    | fl xs => obtain ⟨a, vs, rfl, _⟩ := RV.fl.mp rx; exact ⟨rfl, rfl⟩
    | ft xs => obtain ⟨a, vs, rfl, _⟩ := RV.ft.mp rx; exact ⟨rfl, rfl⟩
    | fd b xs => obtain ⟨a, vs, rfl, _⟩ := RV.fd.mp rx; exact ⟨rfl, rfl⟩
    | fi c xs => obtain ⟨a, vs, rfl, _⟩ := RV.fi.mp rx; exact ⟨rfl, rfl⟩
  · cases e
    rw [RV.bl.mp rx, RV.bl.mp ry]
    exact ⟨rfl, rfl⟩
  · cases e
theorem sim_cmpO (l : Lk S s) {op : COp} {x y : HV} {v w : OV} {b : Bool} (rx : RV S s x v) (ry : RV S s y w) (e : cmpH op x y s.h = some b) : cmpO op v w s.H = some b := by
  cases op with
  | lt =>
    simp only [cmpH] at e
    split at e
    · rw [RV.int.mp rx, RV.int.mp ry]; exact e
    · rw [RV.str.mp rx, RV.str.mp ry]; exact e
    · cases e
  | le =>
    simp only [cmpH] at e
    split at e
    · rw [RV.int.mp rx, RV.int.mp ry]; exact e
    · cases e
  | gt =>
    simp only [cmpH] at e
    split at e
    · rw [RV.int.mp rx, RV.int.mp ry]; exact e
    · cases e
  | ge =>
    simp only [cmpH] at e
    split at e
    · rw [RV.int.mp rx, RV.int.mp ry]; exact e
    · cases e
  | eq => exact sim_eq l rx ry e
  | ne =>
    obtain ⟨c, ec, rfl⟩ := Option.map_eq_some_iff.mp e
    show (eqO s.H v w).map _ = _
    rw [sim_eq l rx ry ec]; rfl
  | isin => exact sim_in l rx ry e
  | nin =>
    obtain ⟨c, ec, rfl⟩ := Option.map_eq_some_iff.mp e
    show (inO s.H v w).map _ = _
    rw [sim_in l rx ry ec]; rfl
  | is => exact (sim_is rx ry e).1
  | isn =>
    obtain ⟨c, ec, rfl⟩ := Option.map_eq_some_iff.mp e
    exact (sim_is rx ry ec).2
theorem sim_cmp (l : Lk S s) {op : COp} {x y : HV} {v w : OV} (rx : RV S s x v) (ry : RV S s y w) : SimR S s (cmpR op x y s.h) (cmpV op v w s.H) (RVP S) :=
  .of l fun a e => by
    obtain ⟨b, eb, rfl⟩ := Option.map_eq_some_iff.mp e
    rw [sim_cmpO l rx ry eb]
    exact ⟨_, rfl, RV.bl.mpr rfl⟩
theorem sim_tru (l : Lk S s) {x : HV} {v : OV} {b : Bool} (r : RV S s x v) (e : truH s.h x = some b) : truO s.H v = some b := by
  unfold truH at e
  have sq : ∀ {x : HV}, RV S s x v → (seqH s.h x).map (!·.isEmpty) = some b → truO s.H v = some b := fun {x} r e => by
    obtain ⟨xs, ex, rfl⟩ := Option.map_eq_some_iff.mp e
    obtain ⟨a, vs, rfl, g, r⟩ := l.seq r ex
    have em : vs.isEmpty = xs.isEmpty := by
      have := r.len
      cases xs <;> cases vs <;> first | rfl | simp at this
    rcases g with g | g <;> simp only [truO, g, em]
  split at e
  · rw [RV.non.mp r]; exact e
  · rw [RV.bl.mp r]; exact e
  · rw [RV.int.mp r]; exact e
  · rw [RV.str.mp r]; exact e
  · obtain ⟨rfl, rfl⟩ := RV.sc.mp r
    simp only [truO, l.scr]
    rw [← e]; cases S <;> rfl
  · exact sq r e
theorem sim_truR (l : Lk S s) {x : HV} {v : OV} (r : RV S s x v) : SimR S s (HR.of (truH s.h x) s.h) (R.of (truO s.H v) s.H) (fun _ a b => a = b) :=
  .of l fun a e => ⟨a, sim_tru l r e, rfl⟩
theorem atI_all2 {α β : Type} {R : α → β → Prop} {xs : List α} {ys : List β} (r : All2 R xs ys) {i : Int} {x : α} (e : L2.atI xs i = some x) : ∃ y, L2.atI ys i = some y ∧ R x y := by
  unfold L2.atI at e ⊢
  rw [← r.len]
  cases q : L2.ixN xs.length i with
  | none => rw [q] at e; cases e
  | some j =>
    rw [q] at e
    rw [Option.bind_some] at e ⊢
    exact r.get e
theorem sim_ix (l : Lk S s) {x y : HV} {v w : OV} (rx : RV S s x v) (ry : RV S s y w) : SimR S s (ixH x y s.h) (ixV v w s.H) (RVP S) := by
  unfold ixH
  split
  · rename_i i
    rw [RV.int.mp ry]
    split
    · rw [RV.str.mp rx]
      simp only [ixV]
      split
      · refine .of l fun a e => ?_
        obtain ⟨b, eb, rfl⟩ := Option.map_eq_some_iff.mp e
        rw [eb]
        exact ⟨_, rfl, RV.str.mpr rfl⟩
      · trivial
    · rename_i ns
      obtain ⟨rfl, rfl⟩ := RV.sc.mp rx
      simp only [ixV, seqOf, Option.bind_some, l.scr]
      refine .of l fun a e => ?_
      obtain ⟨b, eb, rfl⟩ := Option.map_eq_some_iff.mp e
      obtain ⟨u, eu, h⟩ := atI_all2 (R := fun (i : Int) (v : OV) => v = .int i) (ys := S.map OV.int) (by
        have := All2.of (R := fun (i : Int) (v : OV) => v = .int i) (f := id) (g := OV.int) (fun _ => rfl) S
        rwa [List.map_id] at this) eb
      exact ⟨u, eu, RV.int.mpr h⟩
    · have key : ∀ {x : HV}, RV S s x v → SimR S s (HR.of ((seqH s.h x).bind fun xs => L2.atI xs i) s.h) (ixV v (.int i) s.H) (RVP S) := fun {x} rx => by
        cases ex : seqH s.h x with
        | none => trivial
        | some xs =>
          obtain ⟨a, vs, rfl, g, r⟩ := l.seq rx ex
          have es : seqOf s.H (.ref a) = some vs := by rcases g with g | g <;> simp only [seqOf, g]
          simp only [ixV, es, Option.bind_some]
          refine .of l fun z e => ?_
          exact atI_all2 r e
      exact key rx
  · rename_i k
    rw [RV.str.mp ry]
    cases ex : dctH s.h x with
    | none => trivial
    | some kvs =>
      obtain ⟨a, b, vs, rfl, g, r⟩ := l.dct rx ex
      simp only [ixV, g, Option.bind_some]
      exact .of l fun z e => r.some e
  · trivial
theorem cut_all2 {α β : Type} {R : α → β → Prop} {xs : List α} {ys : List β} (r : All2 R xs ys) (lo hi : Option Int) : All2 R (cut xs lo hi) (cut ys lo hi) := by
  unfold cut
  rw [r.len]
  exact (r.drp _).tak _
theorem rvs_ints (ns : List Int) : RVs S s (ns.map HV.int) (ns.map OV.int) := All2.of (fun _ => RV.int.mpr rfl) ns
theorem rvs_strs (ns : List Str) : RVs S s (ns.map HV.str) (ns.map OV.str) := All2.of (fun _ => RV.str.mpr rfl) ns
theorem sim_sl {mu : Bool} (l : Lk S s) {x : HV} {v : OV} {lo hi : Option Int} (rx : RV S s x v) : SimR S s (slH mu x lo hi s.h) (slV v lo hi s.H) (RVP S) := by
  unfold slH
  split
  · rw [RV.str.mp rx]
    simp only [slV]
    split
    · exact sim_flat l rfl rfl
    · trivial
  · obtain ⟨rfl, rfl⟩ := RV.sc.mp rx
    simp only [slV, lstOf, l.scr]
    exact sim_mkL l (cut_all2 (rvs_ints S) _ _)
  · split
    · rename_i xs ex
      obtain ⟨a, vs, rfl, g, r⟩ := l.lst rx ex
      simp only [slV, lstOf, g]
      exact sim_mkL l (cut_all2 r _ _)
    · trivial
theorem ixN_len {α β : Type} {xs : List α} {ys : List β} (h : xs.length = ys.length) (i : Int) : L2.ixN ys.length i = L2.ixN xs.length i := by rw [h]
theorem sim_put {n : Nat} {o0 o : HO} {oo : OO} (l : Lk S s) (e : s.h[n]? = some o0) (nl : ∀ kvs, o0 ≠ HO.dct true kvs) (r : RO S s o oo) {α β : Type} {a : α} {b : β} {P : Sg → α → β → Prop} (p : P (s.put n o oo) a b) :
    SimR S s (.ok a (s.h.set n o)) (.ok b (s.H.put (s.m n) oo)) P := ⟨b, s.put n o oo, rfl, rfl, .put1 l e nl r, p⟩
theorem sim_set (l : Lk S s) {x y z : HV} {v w u : OV} (rx : RV S s x v) (ry : RV S s y w) (rz : RV S s z u) : SimR S s (setH x y z s.h) (setV v w u s.H) (fun _ _ _ => True) := by
  unfold setH
  split
  · rename_i n
    split
    · rename_i xs eo
      obtain ⟨oo, rfl, e2, ro⟩ := l.ro rx eo
      obtain ⟨vs, rfl, ro⟩ := ro.lst
      split
      · rename_i i
        rw [RV.int.mp ry]
        split
        · rename_i j ej
          simp only [setV, e2, ← ro.len, ej]
          exact sim_put l eo (fun _ q => nomatch q) (show RO S s (.lst _) (.lst _) from ro.set j rz) trivial
        · trivial
      · trivial
    · rename_i kvs eo
      obtain ⟨oo, rfl, e2, ro⟩ := l.ro rx eo
      obtain ⟨vs, rfl, rp⟩ := RO.dct ro
      split
      · rename_i k
        rw [RV.str.mp ry]
        split
        · rename_i q
          simp only [setV, e2]
          rw [if_pos (by rw [← rp.len]; exact q)]
          exact sim_put l eo (fun _ q => nomatch q) (show RO S s (.dct false _) (.dct false _) from ⟨rfl, rp.put k rz⟩) trivial
        · trivial
      · trivial
    · trivial
  · trivial
theorem sim_fld {T : Tb} {f : Str} (l : Lk S s) {x : HV} {v : OV} (rx : RV S s x v) : SimR S s (fldH T x f s.h) (fldV T v f s.H) (RVP S) := by
  unfold fldH
  split
  · rename_i c fs ex
    obtain ⟨a, vs, rfl, g, r⟩ := l.ins rx ex
    split
    · rename_i q
      simp only [fldV, g, if_pos q]
      exact .of l fun z e => r.some e
    · trivial
  · trivial
theorem sim_setF {T : Tb} {f : Str} (l : Lk S s) {x z : HV} {v u : OV} (rx : RV S s x v) (rz : RV S s z u) : SimR S s (setFH T x f z s.h) (setF T v f u s.H) (fun _ _ _ => True) := by
  unfold setFH
  split
  · rename_i n
    split
    · rename_i c fs eo
      obtain ⟨oo, rfl, e2, ro⟩ := l.ro rx eo
      obtain ⟨vs, rfl, rp⟩ := RO.ins ro
      split
      · rename_i q
        simp only [setF, e2]
        rw [if_pos (by rw [← rp.len]; exact q)]
        exact sim_put l eo (fun _ q => nomatch q) (show RO S s (.ins c _) (.ins c _) from ⟨rfl, rp.putf f rz⟩) trivial
      · trivial
    · trivial
  · trivial

/-! ### sorting, plain lists -/
theorem strs_rv : ∀ {xs : List HV} {ss : List Str} {vs : List OV}, strsH xs = some ss → RVs S s xs vs → strsOf vs = some ss
  | [], ss, vs, e, r => by rw [r.nil_iff]; exact e
  | x :: xs, ss, vs, e, r => by
    obtain ⟨v, vs, rfl, h1, h2⟩ := r.cons_iff
    cases x with
    | str z =>
      rw [RV.str.mp h1]
      simp only [strsH] at e
      split at e
      · rename_i ys ey
        simp only [strsOf, strs_rv ey h2]; exact e
      · cases e
    | _ => simp [strsH] at e
theorem ints_rv : ∀ {xs : List HV} {ss : List Int} {vs : List OV}, intsH xs = some ss → RVs S s xs vs → intsOf vs = some ss
  | [], ss, vs, e, r => by rw [r.nil_iff]; exact e
  | x :: xs, ss, vs, e, r => by
    obtain ⟨v, vs, rfl, h1, h2⟩ := r.cons_iff
    cases x with
    | int z =>
      rw [RV.int.mp h1]
      simp only [intsH] at e
      split at e
      · rename_i ys ey
        simp only [intsOf, ints_rv ey h2]; exact e
      · cases e
    | _ => simp [intsH] at e
theorem bools_rv : ∀ {xs : List HV} {ss : List Bool} {vs : List OV}, boolsH xs = some ss → RVs S s xs vs → boolsOf vs = some ss
  | [], ss, vs, e, r => by rw [r.nil_iff]; exact e
  | x :: xs, ss, vs, e, r => by
    obtain ⟨v, vs, rfl, h1, h2⟩ := r.cons_iff
    cases x with
    | bl z =>
      rw [RV.bl.mp h1]
      simp only [boolsH] at e
      split at e
      · rename_i ys ey
        simp only [boolsOf, bools_rv ey h2]; exact e
      · cases e
    | _ => simp [boolsH] at e
/-- what isn't all texts here isn't there -/
theorem strs_none : ∀ {xs : List HV} {vs : List OV}, strsH xs = none → RVs S s xs vs → strsOf vs = none
  | [], vs, e, r => by cases e
  | x :: xs, vs, e, r => by
    obtain ⟨v, vs, rfl, h1, h2⟩ := r.cons_iff
    cases x with
    | str z =>
      rw [RV.str.mp h1]
      simp only [strsH] at e
      split at e
      · cases e
      · rename_i en
        simp only [strsOf, strs_none en h2]
    | non => rw [RV.non.mp h1]; rfl
    | bl b => rw [RV.bl.mp h1]; rfl
    | int b => rw [RV.int.mp h1]; rfl
    | sc ns => rw [(RV.sc.mp h1).1]; rfl
    | ref n => rw [(RV.ref.mp h1).2]; rfl
    | fl xs => obtain ⟨a, vs, rfl, _⟩ := RV.fl.mp h1; rfl
    | ft xs => obtain ⟨a, vs, rfl, _⟩ := RV.ft.mp h1; rfl
    | fd b xs => obtain ⟨a, vs, rfl, _⟩ := RV.fd.mp h1; rfl
    | fi c xs => obtain ⟨a, vs, rfl, _⟩ := RV.fi.mp h1; rfl
theorem ints_none : ∀ {xs : List HV} {vs : List OV}, intsH xs = none → RVs S s xs vs → intsOf vs = none
  | [], vs, e, r => by cases e
  | x :: xs, vs, e, r => by
    obtain ⟨v, vs, rfl, h1, h2⟩ := r.cons_iff
    cases x with
    | int z =>
      rw [RV.int.mp h1]
      simp only [intsH] at e
      split at e
      · cases e
      · rename_i en
        simp only [intsOf, ints_none en h2]
    | non => rw [RV.non.mp h1]; rfl
    | bl b => rw [RV.bl.mp h1]; rfl
    | str b => rw [RV.str.mp h1]; rfl
    | sc ns => rw [(RV.sc.mp h1).1]; rfl
    | ref n => rw [(RV.ref.mp h1).2]; rfl
    | fl xs => obtain ⟨a, vs, rfl, _⟩ := RV.fl.mp h1; rfl
    | ft xs => obtain ⟨a, vs, rfl, _⟩ := RV.ft.mp h1; rfl
    | fd b xs => obtain ⟨a, vs, rfl, _⟩ := RV.fd.mp h1; rfl
    | fi c xs => obtain ⟨a, vs, rfl, _⟩ := RV.fi.mp h1; rfl
theorem tkey_rv (l : Lk S s) {x : HV} {v : OV} {k : TKey} (e : tkeyH x = some k) (r : RV S s x v) : tkeyOf s.H v = some k := by
  unfold tkeyH at e
  split at e
  · cases e
    obtain ⟨a, vs, rfl, g, r⟩ := RV.ft.mp r
    obtain ⟨w, vs, rfl, h1, h2⟩ := r.cons_iff
    rw [RV.str.mp h1] at g
    simp only [tkeyOf, l.fz _ _ g]
  · cases e
    obtain ⟨a, vs, rfl, g, r⟩ := RV.ft.mp r
    obtain ⟨w, vs, rfl, h1, h2⟩ := r.cons_iff
    obtain ⟨w2, vs, rfl, h3, h4⟩ := h2.cons_iff
    rw [RV.int.mp h1, RV.str.mp h3, h4.nil_iff] at g
    simp only [tkeyOf, l.fz _ _ g]
  · cases e
theorem tkeys_rv (l : Lk S s) : ∀ {xs : List HV} {ks : List TKey} {vs : List OV}, mapO tkeyH xs = some ks → RVs S s xs vs → mapO (tkeyOf s.H) vs = some ks
  | [], ks, vs, e, r => by rw [r.nil_iff]; exact e
  | x :: xs, ks, vs, e, r => by
    obtain ⟨v, vs, rfl, h1, h2⟩ := r.cons_iff
    simp only [mapO] at e
    split at e
    · rename_i k ek
      split at e
      · rename_i ys ey
        simp only [mapO, tkey_rv l ek h1, tkeys_rv l ey h2]; exact e
      · cases e
    · cases e
theorem zip_all2 {α β γ : Type} {R : α → β → Prop} : ∀ (ks : List γ) {xs : List α} {ys : List β}, All2 R xs ys → All2 (fun p q => p.1 = q.1 ∧ R p.2 q.2) (ks.zip xs) (ks.zip ys)
  | [], xs, ys, _ => by simp [All2]
  | k :: ks, xs, ys, r => by
    cases xs with
    | nil => rw [r.nil_iff]; simp [All2]
    | cons x xs =>
      obtain ⟨v, vs, rfl, h1, h2⟩ := r.cons_iff
      exact ⟨⟨rfl, h1⟩, zip_all2 ks h2⟩
theorem sim_sorted {mu : Bool} (l : Lk S s) {xs : List HV} {vs : List OV} (r : RVs S s xs vs) : SimR S s (sortedH mu xs s.h) (sortedV vs s.H) (RVP S) := by
  unfold sortedH sortedV
  split
  · rename_i ss e
    rw [strs_rv e r]
    exact sim_mkL l (rvs_strs _)
  · rename_i e0
    rw [strs_none e0 r]
    split
    · rename_i is e
      rw [ints_rv e r]
      exact sim_mkL l (rvs_ints _)
    · rename_i e1
      rw [ints_none e1 r]
      split
      · rename_i ks e
        rw [tkeys_rv l e r]
        dsimp only
        split
        · refine sim_mkL l ?_
          have z := zip_all2 ks r
          have z2 := All2.sortBy (lt := pairLtH) (lt' := pairLt) (fun a b c d h1 h2 => by
            show tlt a.1 c.1 = tlt b.1 d.1
            rw [h1.1, h2.1]) z
          exact z2.mp fun x y h => h.2
        · trivial
      · trivial
theorem pairs_rv (l : Lk S s) : ∀ {xs : List HV} {ps : List (Str × HV)} {vs : List OV}, pairsH xs = some ps → RVs S s xs vs → ∃ qs, pairsOf s.H vs = some qs ∧ RVk S s ps qs
  | [], ps, vs, e, r => by cases e; rw [r.nil_iff]; exact ⟨[], rfl, trivial⟩
  | x :: xs, ps, vs, e, r => by
    obtain ⟨v, vs, rfl, h1, h2⟩ := r.cons_iff
    unfold pairsH at e
    split at e
    · rename_i heq; cases heq
    · rename_i k y r' heq
      cases heq
      split at e
      · rename_i ps' ep
        cases e
        obtain ⟨qs, eq, rq⟩ := pairs_rv l ep h2
        obtain ⟨a, us, rfl, g, r⟩ := RV.ft.mp h1
        obtain ⟨w, us, rfl, h3, h4⟩ := r.cons_iff
        obtain ⟨w2, us, rfl, h5, h6⟩ := h4.cons_iff
        rw [RV.str.mp h3, h6.nil_iff] at g
        simp only [pairsOf, l.fz _ _ g, eq]
        exact ⟨_, rfl, ⟨rfl, h5⟩, rq⟩
      · cases e
    · cases e
end
end MH

end
section
set_option linter.all false
set_option maxRecDepth 100000
/-! MHSim3: built-in functions, methods, what is walked. -/
namespace MH
open MP
open PySem
section
variable {S : List Int} {s : Sg}
theorem rvk_keys {kvs : List (Str × HV)} {ws : List (Str × OV)} (r : RVk S s kvs ws) : RVs S s (kvs.map fun p => .str p.1) (ws.map fun p => .str p.1) :=
  r.mp fun x y h => by rw [h.1]; exact RV.str.mpr rfl
theorem lstOf_of (l : Lk S s) {x : HV} {v : OV} {xs : List HV} (r : RV S s x v) (e : lstH s.h x = some xs) : ∃ vs, lstOf s.H v = some vs ∧ RVs S s xs vs := l.lstOf r e
theorem bind_lst {α : Type} {f : List HV → Option α} {g : List OV → Option α} (l : Lk S s) {x : HV} {v : OV} {a : α} (k : ∀ {xs : List HV} {a : α} {vs : List OV}, f xs = some a → RVs S s xs vs → g vs = some a) (r : RV S s x v) (e : (lstH s.h x).bind f = some a) : (lstOf s.H v).bind g = some a := by
  cases ex : lstH s.h x with
  | none => rw [ex] at e; cases e
  | some xs =>
    rw [ex] at e
    obtain ⟨vs, ev, r⟩ := l.lstOf r ex
    rw [ev]
    exact k e r
theorem sim_bf {mu : Bool} {b : BF} (l : Lk S s) {xs : List HV} {vs : List OV} (r : RVs S s xs vs) : SimR S s (bfH mu b xs s.h) (bfV b vs s.H) (RVP S) := by
  unfold bfH
  split
  · rename_i x
    obtain ⟨v, vs, rfl, rx, h2⟩ := r.cons_iff
    rw [h2.nil_iff]
    split
    · rw [RV.str.mp rx]
      simp only [bfV]
      split
      · exact sim_flat l rfl rfl
      · trivial
    · obtain ⟨rfl, rfl⟩ := RV.sc.mp rx
      simp only [bfV, l.scr, List.length_map]
      exact sim_flat l rfl rfl
    · split
      · rename_i ys ey
        obtain ⟨a, vs, rfl, g, r⟩ := l.seq rx ey
        rcases g with g | g <;> (simp only [bfV, g, ← r.len]; exact sim_flat l rfl rfl)
      · split
        · rename_i kvs ek
          obtain ⟨a, vs, rfl, g, r⟩ := l.dctU rx ek
          simp only [bfV, g, ← r.len]; exact sim_flat l rfl rfl
        · trivial
  · rename_i x
    obtain ⟨v, vs, rfl, rx, h2⟩ := r.cons_iff
    rw [h2.nil_iff]
    split
    · rename_i bs e
      simp only [bfV, bind_lst l bools_rv rx e]
      exact sim_flat l rfl rfl
    · trivial
  · rename_i x
    obtain ⟨v, vs, rfl, rx, h2⟩ := r.cons_iff
    rw [h2.nil_iff]
    split
    · rename_i bs e
      simp only [bfV, bind_lst l bools_rv rx e]
      exact sim_flat l rfl rfl
    · trivial
  · rename_i x
    obtain ⟨v, vs, rfl, rx, h2⟩ := r.cons_iff
    rw [h2.nil_iff]
    split
    · obtain ⟨rfl, rfl⟩ := RV.sc.mp rx
      simp only [bfV, l.scr]
      exact sim_mkL l (rvs_ints _)
    · split
      · rename_i ys ey
        obtain ⟨a, vs, rfl, g, r⟩ := l.seq rx ey
        rcases g with g | g <;> (simp only [bfV, g]; exact sim_mkL l r)
      · split
        · rename_i kvs ek
          obtain ⟨a, vs, rfl, g, r⟩ := l.dctU rx ek
          simp only [bfV, g]; exact sim_mkL l (rvk_keys r)
        · trivial
  · rename_i x
    obtain ⟨v, vs, rfl, rx, h2⟩ := r.cons_iff
    rw [h2.nil_iff]
    split
    · rename_i kvs ek
      obtain ⟨a, vs, rfl, g, r⟩ := l.dctU rx ek
      simp only [bfV, g]; exact sim_mkD l r
    · split
      · rename_i ps e
        cases ex : lstH s.h x with
        | none => rw [ex] at e; cases e
        | some ys =>
          rw [ex] at e
          obtain ⟨a, vs, rfl, g, r⟩ := l.lst rx ex
          obtain ⟨qs, eq, rq⟩ := pairs_rv l e r
          simp only [bfV, g, eq]
          exact sim_mkD l (RVk.merge (kvs := []) (ws := []) trivial rq)
      · trivial
  · rename_i x
    obtain ⟨v, vs, rfl, rx, h2⟩ := r.cons_iff
    rw [h2.nil_iff]
    split
    · rename_i i is e
      simp only [bfV, bind_lst l ints_rv rx e]
      exact sim_flat l rfl rfl
    · trivial
  · obtain ⟨v, vs, rfl, rx, h2⟩ := r.cons_iff
    obtain ⟨w, vs, rfl, ry, h2⟩ := h2.cons_iff
    rw [h2.nil_iff, RV.int.mp rx, RV.int.mp ry]
    exact sim_flat l rfl rfl
  · rename_i x
    obtain ⟨v, vs, rfl, rx, h2⟩ := r.cons_iff
    rw [h2.nil_iff]
    split
    · rename_i ys ey
      obtain ⟨vs, ev, r⟩ := l.lstOf rx ey
      simp only [bfV, ev]
      exact sim_sorted l r
    · trivial
  · obtain ⟨v, vs, rfl, rx, h2⟩ := r.cons_iff
    rw [h2.nil_iff, RV.int.mp rx]
    exact sim_flat l rfl rfl
  · rename_i x
    obtain ⟨v, vs, rfl, rx, h2⟩ := r.cons_iff
    rw [h2.nil_iff]
    split
    · rename_i ys ey
      obtain ⟨a, vs, rfl, g, r⟩ := l.lst rx ey
      simp only [bfV, g]
      exact sim_mkT l r
    · trivial
  · trivial
theorem refL_is {h : HH} {x : HV} {n : Nat} {xs : List HV} (e : refL h x = some (n, xs)) : x = .ref n ∧ h[n]? = some (.lst xs) := by
  cases x with
  | ref k =>
    simp only [refL] at e
    split at e
    · rename_i ys ey
      cases e
      exact ⟨rfl, ey⟩
    · cases e
  | _ => cases e
theorem Lk.refL (l : Lk S s) {x : HV} {v : OV} {n : Nat} {xs : List HV} (r : RV S s x v) (e : refL s.h x = some (n, xs)) : ∃ vs, v = .ref (s.m n) ∧ s.h[n]? = some (.lst xs) ∧ s.H.get (s.m n) = some (.lst vs) ∧ RVs S s xs vs := by
  obtain ⟨rfl, e'⟩ := refL_is e
  obtain ⟨oo, rfl, e2, ro⟩ := l.ro r e'
  obtain ⟨vs, rfl, ro⟩ := ro.lst
  exact ⟨vs, rfl, e', e2, ro⟩
theorem sim_putL {n : Nat} {xs ys : List HV} {vs : List OV} (l : Lk S s) (e : s.h[n]? = some (.lst xs)) (r : RVs S s ys vs) {α β : Type} {a : α} {b : β} {P : Sg → α → β → Prop} (p : P (s.put n (.lst ys) (.lst vs)) a b) :
    SimR S s (.ok a (s.h.set n (.lst ys))) (.ok b (s.H.put (s.m n) (.lst vs))) P := sim_put (o := .lst ys) (oo := .lst vs) l e (fun _ q => nomatch q) r p
theorem sim_putDc {n : Nat} {xs ys : List (Str × HV)} {vs : List (Str × OV)} (l : Lk S s) (e : s.h[n]? = some (.dct false xs)) (r : RVk S s ys vs) {α β : Type} {a : α} {b : β} {P : Sg → α → β → Prop} (p : P (s.put n (.dct false ys) (.dct false vs)) a b) :
    SimR S s (.ok a (s.h.set n (.dct false ys))) (.ok b (s.H.put (s.m n) (.dct false vs))) P := sim_put (o := .dct false ys) (oo := .dct false vs) l e (fun _ q => nomatch q) ⟨rfl, r⟩ p
theorem RV.putm {n : Nat} {o : HO} {oo : OO} {x : HV} {v : OV} (r : RV S s x v) : RV S (s.put n o oo) x v := HRel.mono (by show s.h.length ≤ (s.h.set n o).length; rw [List.length_set]; omega) (fun _ _ => rfl) (fun _ _ e => e) x r
theorem first_rv {x : HV} {v : OV} (fx : flatH x = true) (rx : RV S s x v) : ∀ {xs : List HV} {vs : List OV} (i : Nat), xs.all flatH = true → RVs S s xs vs → firstAt v vs i = firstH x xs i
  | [], vs, i, _, r => by rw [r.nil_iff]; rfl
  | y :: ys, vs, i, f, r => by
    obtain ⟨w, vs, rfl, h1, h2⟩ := r.cons_iff
    rw [List.all_cons, Bool.and_eq_true] at f
    simp only [firstAt, firstH, eqF_rv f.1 fx h1 rx, first_rv fx rx (i + 1) f.2 h2]
theorem last_all2 {α β : Type} {R : α → β → Prop} {xs : List α} {ys : List β} (r : All2 R xs ys) {x : α} (e : xs[xs.length - 1]? = some x) : ∃ y, ys[ys.length - 1]? = some y ∧ R x y := by
  rw [← r.len]; exact r.get e
theorem sim_bm {m : BM} (l : Lk S s) {x : HV} {v : OV} {xs : List HV} {vs : List OV} (rx : RV S s x v) (r : RVs S s xs vs) : SimR S s (bmH m x xs s.h) (bmV m v vs s.H) (RVP S) := by
  unfold bmH
  split
  · obtain ⟨u, vs, rfl, ru, h2⟩ := r.cons_iff
    rw [h2.nil_iff]
    split
    · rename_i n ys e
      obtain ⟨ws, rfl, e1, e2, ro⟩ := l.refL rx e
      split
      · rename_i q
        simp only [bmV, e2]
        rw [if_pos (by rw [← ro.len]; exact q)]
        exact sim_putL l e1 (ro.app (.one ru)) (RV.non.mpr rfl)
      · trivial
    · trivial
  · obtain ⟨u, vs, rfl, ru, h2⟩ := r.cons_iff
    rw [h2.nil_iff]
    split
    · rename_i n ys zs e ez
      obtain ⟨ws, rfl, e1, e2, ro⟩ := l.refL rx e
      obtain ⟨b, us, rfl, g, rz⟩ := l.lst ru ez
      split
      · rename_i q
        simp only [bmV, e2, g]
        rw [if_pos (by rw [← ro.len, ← rz.len]; exact q)]
        exact sim_putL l e1 (ro.app rz) (RV.non.mpr rfl)
      · trivial
    · trivial
  · obtain ⟨w, vs, rfl, rw', h2⟩ := r.cons_iff
    obtain ⟨u, vs, rfl, ru, h2⟩ := h2.cons_iff
    rw [h2.nil_iff, RV.int.mp rw']
    split
    · rename_i n ys e
      obtain ⟨ws, rfl, e1, e2, ro⟩ := l.refL rx e
      split
      · rename_i q
        simp only [bmV, e2]
        rw [if_pos (by rw [← ro.len]; exact q)]
        exact sim_putL l e1 (((ro.tak _).app (.one ru)).app (ro.drp _)) (RV.non.mpr rfl)
      · trivial
    · trivial
  · rw [r.nil_iff]
    split
    · rename_i n ys e
      obtain ⟨ws, rfl, e1, e2, ro⟩ := l.refL rx e
      split
      · rename_i y ey
        obtain ⟨u, eu, ru⟩ := last_all2 ro ey
        simp only [bmV, e2, eu]
        exact sim_putL l e1 ro.dlast ru.putm
      · trivial
    · trivial
  · obtain ⟨u, vs, rfl, ru, h2⟩ := r.cons_iff
    rw [h2.nil_iff]
    split
    · rename_i n
      split
      · rename_i ys i e
        obtain ⟨oo, rfl, e2, ro⟩ := l.ro rx e
        obtain ⟨ws, rfl, ro⟩ := ro.lst
        rw [RV.int.mp ru]
        split
        · rename_i q
          split
          · rename_i k ek
            split
            · rename_i y ey
              obtain ⟨u, eu, ru⟩ := ro.get ey
              simp only [bmV, e2, ← ro.len, ek, eu, if_pos q]
              exact sim_putL l e (ro.eras _) ru.putm
            · trivial
          · trivial
        · trivial
      · rename_i kvs k e
        obtain ⟨oo, rfl, e2, ro⟩ := l.ro rx e
        obtain ⟨ws, rfl, rp⟩ := RO.dct ro
        rw [RV.str.mp ru]
        split
        · rename_i y ey
          obtain ⟨u, eu, ru⟩ := rp.some ey
          simp only [bmV, e2, eu]
          exact sim_putDc l e (rp.drop _) ru.putm
        · trivial
      · trivial
    · trivial
  · obtain ⟨w, vs, rfl, rw', h2⟩ := r.cons_iff
    obtain ⟨u, vs, rfl, ru, h2⟩ := h2.cons_iff
    rw [h2.nil_iff, RV.str.mp rw']
    split
    · rename_i n
      split
      · rename_i kvs e
        obtain ⟨oo, rfl, e2, ro⟩ := l.ro rx e
        obtain ⟨ws, rfl, rp⟩ := RO.dct ro
        split
        · rename_i y ey
          obtain ⟨u, eu, ru⟩ := rp.some ey
          simp only [bmV, e2, eu]
          exact sim_putDc l e (rp.drop _) ru.putm
        · rename_i ey
          simp only [bmV, e2, rp.none ey]
          exact .ret (.refl l) ru
      · trivial
    · trivial
  · rw [r.nil_iff]
    split
    · rename_i n ys e
      obtain ⟨ws, rfl, e1, e2, ro⟩ := l.refL rx e
      simp only [bmV, e2]
      exact sim_putL l e1 ro.rev (RV.non.mpr rfl)
    · trivial
  · rw [r.nil_iff]
    split
    · rename_i n ys e
      obtain ⟨ws, rfl, e1, e2, ro⟩ := l.refL rx e
      simp only [bmV, e2]
      exact sim_putL (ys := []) l e1 (vs := []) trivial (RV.non.mpr rfl)
    · trivial
  · obtain ⟨u, vs, rfl, ru, h2⟩ := r.cons_iff
    rw [h2.nil_iff]
    split
    · rename_i ys e
      obtain ⟨a, ws, rfl, g, ro⟩ := l.lst rx e
      split
      · rename_i q
        split
        · rename_i i ei
          have q' := q
          rw [Bool.and_eq_true] at q'
          simp only [bmV, g, flat_rv ru, flats_rv ro, q, first_rv q'.1 ru 0 q'.2 ro, ei, if_true]
          exact sim_flat l rfl rfl
        · trivial
      · trivial
    · trivial
  · rename_i kk dd
    obtain ⟨w, vs, rfl, rw', h2⟩ := r.cons_iff
    obtain ⟨u, vs, rfl, ru, h2⟩ := h2.cons_iff
    rw [h2.nil_iff, RV.str.mp rw']
    split
    · rename_i kvs e
      obtain ⟨a, ws, rfl, g, ro⟩ := l.dctU rx e
      simp only [bmV, g]
      have := ro.look kk
      cases q : lookK kvs kk with
      | none => rw [q] at this; rw [this]; exact .ret (.refl l) ru
      | some z => rw [q] at this; obtain ⟨y, ey, ry⟩ := this; rw [ey]; exact .ret (.refl l) ry
    · trivial
  · obtain ⟨u, vs, rfl, ru, h2⟩ := r.cons_iff
    rw [h2.nil_iff, RV.str.mp ru]
    split
    · rw [RV.str.mp rx]; exact sim_flat l rfl rfl
    · trivial
  · obtain ⟨u, vs, rfl, ru, h2⟩ := r.cons_iff
    rw [h2.nil_iff]
    split
    · rw [RV.str.mp rx]
      split
      · rename_i ys e
        simp only [bmV, bind_lst l strs_rv ru e]
        split
        · exact sim_flat l rfl rfl
        · trivial
      · trivial
    · trivial
  · trivial
theorem sim_isi {T : Tb} {c : CI} (l : Lk S s) {x : HV} {v : OV} (rx : RV S s x v) : SimR S s (isiR T s.h x c) (isiV T s.H v c) (RVP S) := by
  refine .of l fun a e => ?_
  obtain ⟨b, eb, rfl⟩ := Option.map_eq_some_iff.mp e
  have : isiT T s.H v c = some b := by
    unfold isiH at eb
    split at eb
    · rw [RV.non.mp rx]; exact eb
    · rw [RV.bl.mp rx]; exact eb
    · rw [RV.int.mp rx]; exact eb
    · rw [RV.str.mp rx]; exact eb
    · obtain ⟨a, vs, rfl, g, _⟩ := RV.fl.mp rx
      simp only [isiT, l.fz _ _ g]; exact eb
    · obtain ⟨a, vs, rfl, g, _⟩ := RV.ft.mp rx
      simp only [isiT, l.fz _ _ g]; exact eb
    · obtain ⟨a, vs, rfl, g, _⟩ := RV.fd.mp rx
      simp only [isiT, l.fz _ _ g]; exact eb
    · obtain ⟨a, vs, rfl, g, _⟩ := RV.fi.mp rx
      simp only [isiT, l.fz _ _ g]; exact eb
    · split at eb
      · rename_i e
        obtain ⟨oo, rfl, e2, ro⟩ := l.ro rx e
        obtain ⟨ws, rfl, ro⟩ := ro.lst
        simp only [isiT, e2]; exact eb
      · rename_i e
        obtain ⟨oo, rfl, e2, ro⟩ := l.ro rx e
        obtain ⟨ws, rfl, rp⟩ := RO.dct ro
        simp only [isiT, e2]; exact eb
      · rename_i e
        obtain ⟨oo, rfl, e2, ro⟩ := l.ro rx e
        obtain ⟨ws, rfl, rp⟩ := RO.ins ro
        simp only [isiT, e2]; exact eb
      · cases eb
    · cases eb
  rw [this]
  exact ⟨_, rfl, RV.bl.mpr rfl⟩
theorem sim_rcv (l : Lk S s) {x : HV} {v : OV} {k : RK} (rx : RV S s x v) (e : rcvH x s.h = some k) : rcvK v s.H = some k := by
  unfold rcvH at e
  split at e
  · rw [RV.str.mp rx]; exact e
  · obtain ⟨a, vs, rfl, g, _⟩ := RV.fl.mp rx
    simp only [rcvK, l.fz _ _ g]; exact e
  · obtain ⟨a, vs, rfl, g, _⟩ := RV.fd.mp rx
    simp only [rcvK, l.fz _ _ g]; exact e
  · split at e
    · rename_i e1
      obtain ⟨oo, rfl, e2, ro⟩ := l.ro rx e1
      obtain ⟨ws, rfl, ro⟩ := ro.lst
      simp only [rcvK, e2]; exact e
    · rename_i e1
      obtain ⟨oo, rfl, e2, ro⟩ := l.ro rx e1
      obtain ⟨ws, rfl, rp⟩ := RO.dct ro
      simp only [rcvK, e2]; exact e
    · cases e
  · cases e
theorem sim_bmK {k : RK} {m : BM} (l : Lk S s) {x : HV} {v : OV} {xs : List HV} {vs : List OV} (rx : RV S s x v) (r : RVs S s xs vs) : SimR S s (bmKH k m x xs s.h) (bmK k m v vs s.H) (RVP S) := by
  unfold bmKH
  split
  · rename_i q
    unfold bmK
    rw [if_pos (sim_rcv l rx q)]
    exact sim_bm l rx r
  · trivial
theorem sim_sset {mu : Bool} (l : Lk S s) {x : HV} {v : OV} (rx : RV S s x v) : SimR S s (ssetH mu x s.h) (ssetV v s.H) (RVP S) := by
  unfold ssetH
  split
  · rename_i ss e
    simp only [ssetV, bind_lst l strs_rv rx e]
    split
    · exact sim_mkL l (rvs_strs _)
    · trivial
  · trivial
theorem sim_lset (l : Lk S s) {x : HV} {v : OV} (rx : RV S s x v) : SimR S s (lsetH x s.h) (lsetV v s.H) (RVP S) := by
  unfold lsetH
  split
  · rename_i ss e
    simp only [lsetV, bind_lst l strs_rv rx e]
    split
    · exact sim_flat l rfl rfl
    · trivial
  · trivial
theorem sim_neg (l : Lk S s) {x : HV} {v : OV} (rx : RV S s x v) : SimR S s (negH x s.h) (negV v s.H) (RVP S) := by
  unfold negH
  split
  · rw [RV.int.mp rx]; exact sim_flat l rfl rfl
  · trivial
theorem sim_rev {mu : Bool} (l : Lk S s) {x : HV} {v : OV} (rx : RV S s x v) : SimR S s (revH mu x s.h) (revV v s.H) (RVP S) := by
  unfold revH
  split
  · rename_i xs e
    obtain ⟨vs, ev, r⟩ := l.lstOf rx e
    simp only [revV, ev]
    exact sim_mkL l r.rev
  · trivial
end
end MH

end
section
set_option linter.all false
set_option maxRecDepth 100000
/-! MHSim4: environments, statements, what is walked, loops, comprehensions, calls. -/
namespace MH
open MP
open PySem
section
variable {S : List Int}
variable (S) in
def RE (s : Sg) (E : HE) (e : En) : Prop := All2 (fun x v => ∀ a, x = some a → ∃ b, v = some b ∧ RV S s a b) E e
theorem RE.nx {s s' : Sg} {E : HE} {e : En} (r : RE S s E e) (n : Nxt S s s') : RE S s' E e :=
  All2.mono (fun x v h a ea => let ⟨b, eb, r⟩ := h a ea; ⟨b, eb, n.rv r⟩) r
theorem RE.set {s : Sg} {E : HE} {e : En} {x : HV} {v : OV} (r : RE S s E e) (i : Nat) (rx : RV S s x v) : RE S s (E.set i (some x)) (e.set i (some v)) :=
  All2.set i r fun a ea => by cases ea; exact ⟨v, rfl, rx⟩
theorem RE.wipe {s : Sg} {E : HE} {e : En} (r : RE S s E e) : ∀ l : List Nat, RE S s (wipeH E l) (wipeE e l)
  | [] => r
  | i :: l => All2.set i (RE.wipe r l) fun a ea => by cases ea
theorem RE.get {s : Sg} {E : HE} {e : En} (r : RE S s E e) {i : Nat} {x : HV} (g : getH E i = some x) : ∃ v, getV e i = some v ∧ RV S s x v := by
  unfold getH at g
  split at g
  · rename_i y ey
    cases g
    obtain ⟨v, ev, k⟩ := All2.get r ey
    obtain ⟨b, rfl, rb⟩ := k x rfl
    exact ⟨b, by simp only [getV, ev], rb⟩
  · cases g
theorem RE.setAll {s : Sg} : ∀ {is : List Nat} {xs : List HV} {vs : List OV} {E E' : HE} {e : En}, RE S s E e → RVs S s xs vs → setAllH E is xs = some E' → ∃ e', setAll e is vs = some e' ∧ RE S s E' e'
  | [], [], vs, E, E', e, r, rx, q => by cases q; rw [rx.nil_iff]; exact ⟨e, rfl, r⟩
  | i :: is, x :: xs, vs, E, E', e, r, rx, q => by
    obtain ⟨v, vs, rfl, h1, h2⟩ := rx.cons_iff
    exact RE.setAll (xs := xs) (vs := vs) (r.set i h1) h2 q
  | [], _ :: _, _, _, _, _, _, _, q => by cases q
  | _ :: _, [], _, _, _, _, _, _, q => by cases q
variable (S) in
def RF (s : Sg) : HF → Fl → Prop
  | .nx, .nx => True
  | .bk, .bk => True
  | .ct, .ct => True
  | .rt x, .rt v => RV S s x v
  | _, _ => False
variable (S) in
def SimS (s : Sg) (x : HS) (y : RS) : Prop :=
  match x with
  | .ok f E h' => ∃ f' e' s', y = .ok f' e' s'.H ∧ s'.h = h' ∧ Nxt S s s' ∧ RF S s' f f' ∧ RE S s' E e'
  | .ex c E h' => ∃ e' s', y = .ex c e' s'.H ∧ s'.h = h' ∧ Nxt S s s' ∧ RE S s' E e'
  | .no => True
theorem SimS.ret {s s' : Sg} {f : HF} {f' : Fl} {E : HE} {e : En} (n : Nxt S s s') (rf : RF S s' f f') (re : RE S s' E e) : SimS S s (.ok f E s'.h) (.ok f' e s'.H) := ⟨f', e, s', rfl, rfl, n, rf, re⟩
theorem SimS.thenS {α β : Type} {s0 s : Sg} {x : HR α} {y : R β} {P : Sg → α → β → Prop} {E : HE} {e : En} {f : α → HH → HS} {g : β → OH → RS} (o : SimR S s x y P) (n0 : Nxt S s0 s) (re : RE S s E e)
    (k : ∀ s' a b, Nxt S s s' → P s' a b → SimS S s0 (f a s'.h) (g b s'.H)) : SimS S s0 (x.thenS E f) (y.thenS e g) := by
  cases x with
  | ok a h' =>
    obtain ⟨b, s', rfl, rfl, n, p⟩ := o
    exact k s' a b n p
  | ex c h' =>
    obtain ⟨s', rfl, rfl, n⟩ := o
    exact ⟨e, s', rfl, rfl, n0.trans n, re.nx n⟩
  | no => trivial
theorem SimS.bind {s0 s : Sg} {x : HS} {y : RS} {F : HF → HE → HH → HS} {G : Fl → En → OH → RS} (o : SimS S s x y) (n0 : Nxt S s0 s)
    (k : ∀ s' f f' E e, Nxt S s s' → RF S s' f f' → RE S s' E e → SimS S s0 (F f E s'.h) (G f' e s'.H)) : SimS S s0 (x.bind F) (y.bind G) := by
  cases x with
  | ok f E h' =>
    obtain ⟨f', e', s', rfl, rfl, n, r1, r2⟩ := o
    exact k s' f f' E e' n r1 r2
  | ex c E h' =>
    obtain ⟨e', s', rfl, rfl, n, r⟩ := o
    exact ⟨e', s', rfl, rfl, n0.trans n, r⟩
  | no => trivial

/-! ### what is walked -/
variable (S) in
def Its (s : Sg) (xs : List HV) (src : Src) (n : Nat) : Prop :=
  n = xs.length ∧ ∀ s', Nxt S s s' → (∀ i x, xs[i]? = some x → SimR S s' (.ok x s'.h) (itemV src i s'.H) (RVP S)) ∧ endV src n s'.H = true
variable (S) in
def RSrc (s : Sg) (q : HSrc × Nat) (p : Src × Nat) : Prop :=
  match q.1 with
  | .its xs => Its S s xs p.1 p.2 ∧ isKeys p.1 = false
  | .liv n => p = (.lst (s.m n), q.2) ∧ n < s.h.length
  | .enl n => p = (.enum (s.m n), q.2) ∧ n < s.h.length
  | .keys n own ks => p.1 = .keys (s.m n) own ∧ Its S s ks p.1 p.2 ∧ n < s.h.length
theorem its_lst {s : Sg} {a : Nat} {xs : List HV} {vs : List OV} (g : s.G a = some (.lst vs)) (r : RVs S s xs vs) : Its S s xs (.lst a) xs.length :=
  ⟨rfl, fun s' n => ⟨fun i x e => by
    obtain ⟨v, ev, rv⟩ := (n.rvs r).get e
    simp only [itemV, n.lk.fz _ _ (n.G _ _ g), ev]
    exact .ret (.refl n.lk) rv, by simp only [endV, n.lk.fz _ _ (n.G _ _ g), r.len]; exact beq_self_eq_true _⟩⟩
theorem its_tup {s : Sg} {a : Nat} {xs : List HV} {vs : List OV} (g : s.G a = some (.tup vs)) (r : RVs S s xs vs) : Its S s xs (.tup a) xs.length :=
  ⟨rfl, fun s' n => ⟨fun i x e => by
    obtain ⟨v, ev, rv⟩ := (n.rvs r).get e
    simp only [itemV, n.lk.fz _ _ (n.G _ _ g), ev]
    exact .ret (.refl n.lk) rv, by simp only [endV, n.lk.fz _ _ (n.G _ _ g), r.len]; exact beq_self_eq_true _⟩⟩
theorem its_scr {s : Sg} : Its S s (S.map .int) .scr S.length :=
  ⟨(List.length_map _).symm, fun s' n => ⟨fun i x e => by
    obtain ⟨v, ev, rv⟩ := (rvs_ints (S := S) (s := s') S).get e
    simp only [itemV, n.lk.scr, ev]
    exact .ret (.refl n.lk) rv, by simp only [endV, n.lk.scr, List.length_map]; exact beq_self_eq_true _⟩⟩
theorem its_chr {s : Sg} {z : Str} : Its S s (z.cps.toList.map fun c => .str ⟨#[c]⟩) (.chr z) z.cps.toList.length :=
  ⟨(List.length_map _).symm, fun s' n => ⟨fun i x e => by
    rw [List.getElem?_map] at e
    obtain ⟨c, ec, rfl⟩ := Option.map_eq_some_iff.mp e
    simp only [itemV, ec, Option.map_some]
    exact sim_flat n.lk rfl rfl, by simp only [endV]; exact beq_self_eq_true _⟩⟩
theorem rngL_len : ∀ (n : Nat) (lo : Int), (rngL lo n).length = n
  | 0, _ => rfl
  | n + 1, lo => by simp [rngL, rngL_len n]
theorem rngL_get : ∀ (n : Nat) (lo : Int) (i : Nat) (x : HV), (rngL lo n)[i]? = some x → i < n ∧ x = .int (lo + i)
  | 0, _, i, x, e => by simp [rngL] at e
  | n + 1, lo, 0, x, e => by simp [rngL] at e; subst e; exact ⟨Nat.succ_pos _, by simp⟩
  | n + 1, lo, i + 1, x, e => by
    have e' : (rngL (lo + 1) n)[i]? = some x := by simpa [rngL] using e
    obtain ⟨a, b⟩ := rngL_get n (lo + 1) i x e'
    exact ⟨by omega, by rw [b]; exact congrArg HV.int (by omega)⟩
theorem its_rng {s : Sg} {lo : Int} {n : Nat} : Its S s (rngL lo n) (.rng lo n) n :=
  ⟨(rngL_len n lo).symm, fun s' nx => ⟨fun i x e => by
    obtain ⟨a, rfl⟩ := rngL_get n lo i x e
    simp only [itemV, if_pos a]
    exact sim_flat nx.lk rfl rfl, by simp only [endV]; exact beq_self_eq_true _⟩⟩
theorem enumL_len : ∀ (i : Nat) (xs : List HV), (enumL i xs).length = xs.length
  | _, [] => rfl
  | i, x :: xs => by simp [enumL, enumL_len (i + 1) xs]
theorem enumL_get : ∀ (xs : List HV) (k i : Nat) (x : HV), (enumL k xs)[i]? = some x → ∃ y, xs[i]? = some y ∧ x = .ft [.int ((k + i : Nat) : Int), y]
  | [], k, i, x, e => by simp [enumL] at e
  | y :: xs, k, 0, x, e => by simp [enumL] at e; subst e; exact ⟨y, rfl, rfl⟩
  | y :: xs, k, i + 1, x, e => by
    have e' : (enumL (k + 1) xs)[i]? = some x := by simpa [enumL] using e
    obtain ⟨z, ez, q⟩ := enumL_get xs (k + 1) i x e'
    exact ⟨z, by simpa using ez, by rw [q, Nat.add_right_comm, Nat.add_assoc]⟩
theorem its_enum {s : Sg} {a : Nat} {xs : List HV} {vs : List OV} (g : s.G a = some (.lst vs)) (r : RVs S s xs vs) : Its S s (enumL 0 xs) (.enum a) xs.length :=
  ⟨(enumL_len 0 xs).symm, fun s' n => ⟨fun i x e => by
    obtain ⟨y, ey, rfl⟩ := enumL_get xs 0 i x e
    obtain ⟨v, ev, rv⟩ := (n.rvs r).get ey
    simp only [itemV, n.lk.fz _ _ (n.G _ _ g), ev]
    rw [Nat.zero_add]
    exact sim_mkT n.lk ⟨RV.int.mpr rfl, rv, trivial⟩, by simp only [endV, n.lk.fz _ _ (n.G _ _ g), r.len]; exact beq_self_eq_true _⟩⟩
theorem zipL_len : ∀ (xs ys : List HV), (zipL xs ys).length = min xs.length ys.length
  | [], _ => by simp [zipL]
  | _ :: _, [] => by simp [zipL]
  | x :: xs, y :: ys => by simp [zipL, zipL_len xs ys]
theorem zipL_get : ∀ (xs ys : List HV) (i : Nat) (x : HV), (zipL xs ys)[i]? = some x → ∃ y z, xs[i]? = some y ∧ ys[i]? = some z ∧ x = .ft [y, z]
  | [], _, i, x, e => by simp [zipL] at e
  | _ :: _, [], i, x, e => by simp [zipL] at e
  | y :: xs, z :: ys, 0, x, e => by simp [zipL] at e; subst e; exact ⟨y, z, rfl, rfl, rfl⟩
  | y :: xs, z :: ys, i + 1, x, e => by
    have e' : (zipL xs ys)[i]? = some x := by simpa [zipL] using e
    simpa using zipL_get xs ys i x e'
theorem its_zip {s : Sg} {a b : Nat} {xs ys : List HV} {vs ws : List OV} (g : s.G a = some (.lst vs)) (r : RVs S s xs vs) (g2 : s.G b = some (.lst ws)) (r2 : RVs S s ys ws) : Its S s (zipL xs ys) (.zip a b) (min xs.length ys.length) :=
  ⟨(zipL_len xs ys).symm, fun s' n => ⟨fun i x e => by
    obtain ⟨y, z, ey, ez, rfl⟩ := zipL_get xs ys i x e
    obtain ⟨v, ev, rv⟩ := (n.rvs r).get ey
    obtain ⟨w, ew, rw'⟩ := (n.rvs r2).get ez
    simp only [itemV, n.lk.fz _ _ (n.G _ _ g), n.lk.fz _ _ (n.G _ _ g2), ev, ew]
    exact sim_mkT n.lk ⟨rv, rw', trivial⟩, by
    simp only [endV, n.lk.fz _ _ (n.G _ _ g), n.lk.fz _ _ (n.G _ _ g2), r.len, r2.len]
    simp only [Bool.or_eq_true, Bool.and_eq_true, beq_iff_eq, decide_eq_true_eq]
    omega⟩⟩
theorem sim_src {s : Sg} {x : HV} {v : OV} (l : Lk S s) (rx : RV S s x v) : SimR S s (srcH x s.h) (srcV v s.H) (RSrc S) := by
  unfold srcH
  split
  · obtain ⟨rfl, rfl⟩ := RV.sc.mp rx
    simp only [srcV, l.scr, List.length_map]
    exact .ret (.refl l) ⟨its_scr, rfl⟩
  · rw [RV.str.mp rx]
    exact .ret (.refl l) ⟨its_chr, rfl⟩
  · obtain ⟨a, vs, rfl, g, r⟩ := RV.fl.mp rx
    simp only [srcV, l.fz _ _ g, ← r.len]
    exact .ret (.refl l) ⟨its_lst g r, rfl⟩
  · obtain ⟨a, vs, rfl, g, r⟩ := RV.ft.mp rx
    simp only [srcV, l.fz _ _ g, ← r.len]
    exact .ret (.refl l) ⟨its_tup g r, rfl⟩
  · split
    · rename_i e
      obtain ⟨oo, rfl, e2, ro⟩ := l.ro rx e
      obtain ⟨ws, rfl, ro⟩ := ro.lst
      simp only [srcV, e2, ← ro.len]
      exact .ret (.refl l) ⟨rfl, lt_of_get e⟩
    · trivial
  · trivial
theorem its_keys {s : Sg} {n : Nat} {b : Bool} {kvs : List (Str × HV)} (l : Lk S s) (e : s.h[n]? = some (.dct true kvs)) : Its S s (keysH kvs) (.keys (s.m n) b) kvs.length :=
  ⟨(List.length_map _).symm, fun s' nx => by
    have e' := nx.lkd n kvs e
    obtain ⟨_, oo, e2, ro⟩ := nx.lk.ob n _ e'
    obtain ⟨ws, rfl, rp⟩ := RO.dct ro
    rw [nx.eq n (lt_of_get e)] at e2
    refine ⟨fun i x ei => ?_, by simp only [endV, e2, rp.len]; exact beq_self_eq_true _⟩
    obtain ⟨v, ev, rv⟩ := (rvk_keys rp).get ei
    rw [List.getElem?_map] at ev
    simp only [itemV, e2, ev]
    exact .ret (.refl nx.lk) rv⟩
variable (S) in
/-- with what was there ahead of a lock -/
def RSrcK (s0 : Sg) (s : Sg) (q : HSrc × Nat) (p : Src × Nat) : Prop := RSrc S s q p ∧ ∀ n ks, q.1 = .keys n true ks → n < s0.h.length ∧ ∀ kvs, s0.h[n]? ≠ some (HO.dct true kvs)
theorem srcH_keys {x : HV} {h : HH} {q : HSrc × Nat} {h' : HH} (e : srcH x h = .ok q h') : h' = h ∧ ∀ n b ks, q.1 ≠ .keys n b ks := by
  unfold srcH at e
  split at e <;> first | (cases e; exact ⟨rfl, fun _ _ _ z => nomatch z⟩) | (split at e <;> first | (cases e; exact ⟨rfl, fun _ _ _ z => nomatch z⟩) | cases e) | cases e
theorem sim_srcN {s s0 : Sg} {x : HV} {v : OV} (l : Lk S s) (rx : RV S s x v) : SimR S s (srcH x s.h) (srcV v s.H) (RSrcK S s0) := by
  have h := sim_src l rx
  cases e : srcH x s.h with
  | ok q h' =>
    rw [e] at h
    obtain ⟨b, s', e1, e2, n, r⟩ := h
    exact ⟨b, s', e1, e2, n, r, fun k ks z => absurd z ((srcH_keys e).2 k true ks)⟩
  | ex c h' => rw [e] at h; exact h
  | no => trivial
theorem sim_srcK {s : Sg} {x : HV} {v : OV} (l : Lk S s) (rx : RV S s x v) : SimR S s (srcKH x s.h) (srcK v s.H) (RSrcK S s) := by
  have same : ∀ {x : HV} {v : OV}, RV S s x v → srcK v s.H = srcV v s.H → SimR S s (srcH x s.h) (srcK v s.H) (RSrcK S s) := fun rx e => by rw [e]; exact sim_srcN l rx
  have nf : ∀ (v : OV), (∀ a b kvs, v = .ref a → s.H.get a ≠ some (.dct b kvs)) → srcK v s.H = srcV v s.H := fun v k => by
    cases v with
    | ref a =>
      cases g : s.H.get a with
      | none => simp only [srcK, g]
      | some o =>
        cases o with
        | dct b kvs => exact absurd g (k a b kvs rfl)
        | _ => simp only [srcK, g]
    | _ => rfl
  unfold srcKH
  split
  · rename_i n
    split
    · rename_i kvs e
      obtain ⟨oo, rfl, e2, ro⟩ := l.ro rx e
      obtain ⟨ws, rfl, rp⟩ := RO.dct ro
      simp only [srcK, e2, ← rp.len]
      have ro' : RO S s (.dct true kvs) (.dct true ws) := ⟨rfl, rp⟩
      have nx := Nxt.put1 l e (fun _ q => nomatch q) ro'
      have e' : (s.put n (.dct true kvs) (.dct true ws)).h[n]? = some (.dct true kvs) := by
        show (s.h.set n _)[n]? = _
        rw [List.getElem?_set_self (lt_of_get e)]
      refine ⟨_, s.put n (.dct true kvs) (.dct true ws), rfl, rfl, nx, ⟨rfl, its_keys nx.lk e', lt_of_get e'⟩, fun n' ks z => ?_⟩
      cases z
      exact ⟨lt_of_get e, fun kvs' q => by rw [e] at q; cases q⟩
    · rename_i kvs e
      obtain ⟨oo, rfl, e2, ro⟩ := l.ro rx e
      obtain ⟨ws, rfl, rp⟩ := RO.dct ro
      simp only [srcK, e2, ← rp.len]
      exact ⟨_, s, rfl, rfl, .refl l, ⟨rfl, its_keys l e, lt_of_get e⟩, fun n' ks z => by cases z⟩
    · rename_i ne1 ne2
      refine same rx (nf _ fun a b kvs z g => ?_)
      rw [(RV.ref.mp rx).2] at z
      cases z
      obtain ⟨o, eo⟩ : ∃ o, s.h[n]? = some o := ⟨s.h[n]'(RV.ref.mp rx).1, by simp [(RV.ref.mp rx).1]⟩
      obtain ⟨_, oo, e2, ro⟩ := l.ob n o eo
      rw [g] at e2
      cases e2
      cases o with
      | dct b' kvs' => cases b' <;> first | exact ne1 _ eo | exact ne2 _ eo
      | lst _ => exact ro
      | ins _ _ => exact ro
  · rename_i nr
    have nd : (∀ b xs, x ≠ .fd b xs) → SimR S s (srcH x s.h) (srcK v s.H) (RSrcK S s) := fun hf => by
      refine same rx (nf _ fun a b kvs z g => ?_)
      subst z
      cases x with
      | ref n => exact nr n rfl
      | fl xs => obtain ⟨a, vs, e, g', _⟩ := RV.fl.mp rx; cases e; rw [l.fz _ _ g'] at g; cases g
      | ft xs => obtain ⟨a, vs, e, g', _⟩ := RV.ft.mp rx; cases e; rw [l.fz _ _ g'] at g; cases g
      | fd b xs => exact hf b xs rfl
      | fi b xs => obtain ⟨a, vs, e, g', _⟩ := RV.fi.mp rx; cases e; rw [l.fz _ _ g'] at g; cases g
      | non => cases RV.non.mp rx
      | bl _ => cases RV.bl.mp rx
      | int _ => cases RV.int.mp rx
      | str _ => cases RV.str.mp rx
      | sc _ => cases (RV.sc.mp rx).1
    cases x with
    | fd b xs => trivial
    | _ => exact nd fun _ _ z => nomatch z
end
end MH

end
section
set_option linter.all false
set_option maxRecDepth 100000
/-! MHSim5: loops, comprehensions, calls, every construct. -/
namespace MH
open MP
open PySem
section
variable {S : List Int}
/-! ### loops -/
theorem sim_body {s0 s : Sg} {x : HS} {y : RS} {K : HE → HH → HS} {K' : En → OH → RS} (o : SimS S s x y) (n0 : Nxt S s0 s) (k : ∀ s' E e, Nxt S s s' → RE S s' E e → SimS S s0 (K E s'.h) (K' e s'.H)) :
    SimS S s0 (x.bind fun f e h => match f with | .nx => K e h | .ct => K e h | .bk => .ok .nx e h | .rt v => .ok (.rt v) e h) (y.bind fun f e h => match f with | .nx => K' e h | .ct => K' e h | .bk => .ok .nx e h | .rt v => .ok (.rt v) e h) := by
  refine o.bind n0 fun s' f f' E e n rf re => ?_
  cases f with
  | nx => cases f' <;> first | exact k s' E e n re | exact rf.elim
  | ct => cases f' <;> first | exact k s' E e n re | exact rf.elim
  | bk => cases f' <;> first | exact SimS.ret (n0.trans n) (f := .nx) (f' := .nx) trivial re | exact rf.elim
  | rt v =>
    cases f' with
    | rt w => exact SimS.ret (n0.trans n) (f := .rt v) (f' := .rt w) rf re
    | _ => exact rf.elim
theorem sim_wh {t : HE → HH → HR Bool} {t' : En → OH → R Bool} {b : HE → HH → HS} {b' : En → OH → RS} (ht : ∀ s E e, Lk S s → RE S s E e → SimR S s (t E s.h) (t' e s.H) (fun _ x y => x = y))
    (hb : ∀ s E e, Lk S s → RE S s E e → SimS S s (b E s.h) (b' e s.H)) {s0 : Sg} : ∀ (n : Nat) (s : Sg) (E : HE) (e : En), Nxt S s0 s → RE S s E e → SimS S s0 (whH n t b E s.h) (whM n t' b' e s.H)
  | 0, _, _, _, _, _ => trivial
  | n + 1, s, E, e, n0, re => by
    unfold whH whM
    refine SimS.thenS (ht s E e n0.lk re) n0 re fun s1 c c' n1 ec => ?_
    cases ec
    split
    · exact sim_body (hb s1 E e n1.lk (re.nx n1)) (n0.trans n1) fun s2 E e n2 re2 => sim_wh ht hb n s2 E e (n0.trans (n1.trans n2)) re2
    · exact SimS.ret (n0.trans n1) (f := .nx) (f' := .nx) trivial (re.nx n1)
variable (S) in
abbrev TgS (tg : HV → HE → HH → HR HE) (tg' : OV → En → OH → R En) : Prop := ∀ s E e x v, Lk S s → RE S s E e → RV S s x v → SimR S s (tg x E s.h) (tg' v e s.H) (fun s' E e => RE S s' E e)
theorem sim_forI {tg : HV → HE → HH → HR HE} {tg' : OV → En → OH → R En} {b : HE → HH → HS} {b' : En → OH → RS} (ht : TgS S tg tg')
    (hb : ∀ s E e, Lk S s → RE S s E e → SimS S s (b E s.h) (b' e s.H)) {s0 sI : Sg} {src : Src} {all : List HV} (its : Its S sI all src all.length) :
    ∀ (xs : List HV) (i : Nat) (s : Sg) (E : HE) (e : En), Nxt S s0 s → Nxt S sI s → RE S s E e → i + xs.length = all.length → (∀ j : Nat, xs[j]? = all[i + j]?) → SimS S s0 (forI tg b xs E s.h) (MP.forM src tg' b' xs.length i e s.H)
  | [], i, s, E, e, n0, nI, re, hi, hx => by
    unfold forI
    rw [List.length_nil] at hi ⊢
    unfold MP.forM
    rw [if_pos (by rw [show i = all.length by omega]; exact (its.2 s nI).2)]
    exact SimS.ret n0 (f := .nx) (f' := .nx) trivial re
  | x :: xs, i, s, E, e, n0, nI, re, hi, hx => by
    unfold forI
    rw [List.length_cons] at hi ⊢
    unfold MP.forM
    have h0 : all[i]? = some x := by have := hx 0; rw [Nat.add_zero] at this; rw [← this]; rfl
    obtain ⟨v, s1, e1, e2, n1, rv⟩ := (its.2 s nI).1 i x h0
    rw [e1]
    show SimS S s0 _ ((tg' v e s1.H).thenS e _)
    rw [← e2]
    refine SimS.thenS (ht s1 E e x v n1.lk (re.nx n1) rv) (n0.trans n1) (re.nx n1) fun s2 E1 e1 n2 re2 => ?_
    refine sim_body (hb s2 E1 e1 n2.lk re2) (n0.trans (n1.trans n2)) fun s3 E e n3 re3 => ?_
    have nn := n1.trans (n2.trans n3)
    exact sim_forI ht hb its xs (i + 1) s3 E e (n0.trans nn) (nI.trans nn) re3 (by omega) fun j => by have := hx (j + 1); rw [List.getElem?_cons_succ] at this; rw [this]; congr 1; omega
/-- a list in the heap, walked as it stands -/
def liveOf (m : Nat → Nat) : HSrc → Option (Nat × Src)
  | .liv n => some (n, .lst (m n))
  | .enl n => some (n, .enum (m n))
  | _ => none
theorem sim_liv {s sI : Sg} {q : HSrc} {n : Nat} {src : Src} {i : Nat} (e : liveOf sI.m q = some (n, src)) (ln : n < sI.h.length) (nI : Nxt S sI s) : SimR S s (livH q i s.h) (itemV src i s.H) (RVP S) := by
  have hm := nI.eq n ln
  cases q with
  | liv k =>
    cases e
    simp only [livH]
    split
    · rename_i xs eo
      obtain ⟨_, oo, e2, ro⟩ := nI.lk.ob _ _ eo
      obtain ⟨vs, rfl, ro⟩ := ro.lst
      rw [hm] at e2
      simp only [itemV, e2]
      exact .of nI.lk fun x ex => All2.get ro ex
    · trivial
  | enl k =>
    cases e
    simp only [livH]
    split
    · rename_i xs eo
      obtain ⟨_, oo, e2, ro⟩ := nI.lk.ob _ _ eo
      obtain ⟨vs, rfl, ro⟩ := ro.lst
      rw [hm] at e2
      simp only [itemV, e2]
      split
      · rename_i x ex
        obtain ⟨v, ev, rv⟩ := All2.get ro ex
        rw [ev]
        exact sim_mkT nI.lk ⟨RV.int.mpr rfl, rv, trivial⟩
      · trivial
    · trivial
  | its xs => cases e
  | keys n b ks => cases e
theorem sim_liend {s sI : Sg} {q : HSrc} {n : Nat} {src : Src} {i : Nat} (e : liveOf sI.m q = some (n, src)) (ln : n < sI.h.length) (nI : Nxt S sI s) (h : endH q i s.h = true) : endV src i s.H = true := by
  have hm := nI.eq n ln
  cases q with
  | liv k =>
    cases e
    simp only [endH] at h
    split at h
    · rename_i xs eo
      obtain ⟨_, oo, e2, ro⟩ := nI.lk.ob _ _ eo
      obtain ⟨vs, rfl, ro⟩ := ro.lst
      rw [hm] at e2
      simp only [endV, e2, ← ro.len]; exact h
    · cases h
  | enl k =>
    cases e
    simp only [endH] at h
    split at h
    · rename_i xs eo
      obtain ⟨_, oo, e2, ro⟩ := nI.lk.ob _ _ eo
      obtain ⟨vs, rfl, ro⟩ := ro.lst
      rw [hm] at e2
      simp only [endV, e2, ← ro.len]; exact h
    · cases h
  | its xs => cases e
  | keys n b ks => cases e
theorem sim_forL {tg : HV → HE → HH → HR HE} {tg' : OV → En → OH → R En} {b : HE → HH → HS} {b' : En → OH → RS} (ht : TgS S tg tg')
    (hb : ∀ s E e, Lk S s → RE S s E e → SimS S s (b E s.h) (b' e s.H)) {s0 sI : Sg} {q : HSrc} {k : Nat} {src : Src} (lv : liveOf sI.m q = some (k, src)) (lk : k < sI.h.length) :
    ∀ (n i : Nat) (s : Sg) (E : HE) (e : En), Nxt S s0 s → Nxt S sI s → RE S s E e → SimS S s0 (forL q tg b n i E s.h) (MP.forM src tg' b' n i e s.H)
  | 0, i, s, E, e, n0, nI, re => by
    unfold forL MP.forM
    split
    · rename_i h
      rw [if_pos (sim_liend lv lk nI h)]
      exact SimS.ret n0 (f := .nx) (f' := .nx) trivial re
    · trivial
  | n + 1, i, s, E, e, n0, nI, re => by
    unfold forL MP.forM
    refine SimS.thenS (sim_liv lv lk nI) n0 re fun s1 x v n1 rv => ?_
    refine SimS.thenS (ht s1 E e x v n1.lk (re.nx n1) rv) (n0.trans n1) (re.nx n1) fun s2 E1 e1 n2 re2 => ?_
    refine sim_body (hb s2 E1 e1 n2.lk re2) (n0.trans (n1.trans n2)) fun s3 E e n3 re3 => ?_
    have nn := n1.trans (n2.trans n3)
    exact sim_forL ht hb lv lk n (i + 1) s3 E e (n0.trans nn) (nI.trans nn) re3
theorem sim_for {tg : HV → HE → HH → HR HE} {tg' : OV → En → OH → R En} {b : HE → HH → HS} {b' : En → OH → RS} (ht : TgS S tg tg')
    (hb : ∀ s E e, Lk S s → RE S s E e → SimS S s (b E s.h) (b' e s.H)) {s : Sg} {E : HE} {e : En} {q : HSrc × Nat} {p : Src × Nat} (l : Lk S s) (re : RE S s E e) (r : RSrc S s q p) :
    SimS S s (forH q tg b E s.h) (if isKeys p.1 = true then .no else MP.forM p.1 tg' b' p.2 0 e s.H) := by
  obtain ⟨q, n⟩ := q
  obtain ⟨src, n'⟩ := p
  cases q with
  | its xs =>
    obtain ⟨its, nk⟩ := r
    rw [if_neg (by rw [nk]; decide)]
    have e1 : n' = xs.length := its.1
    subst e1
    exact sim_forI ht hb its xs 0 s E e (.refl l) (.refl l) re (Nat.zero_add _) fun j => by rw [Nat.zero_add]
  | liv k =>
    obtain ⟨e1, lk⟩ := r
    cases e1
    exact sim_forL ht hb (sI := s) (q := .liv k) rfl lk n 0 s E e (.refl l) (.refl l) re
  | enl k =>
    obtain ⟨e1, lk⟩ := r
    cases e1
    exact sim_forL ht hb (sI := s) (q := .enl k) rfl lk n 0 s E e (.refl l) (.refl l) re
  | keys k b ks => trivial
/-! ### comprehensions -/
section
variable {tg : HV → HE → HH → HR HE} {tg' : OV → En → OH → R En} {c : HE → HH → HR Bool} {c' : En → OH → R Bool} {m : HE → HH → HR HV} {m' : En → OH → R OV}
variable (S) in
/-- the list that a comprehension makes stands beside -/
def LcR (s0 : Sg) (D : Nat) (accH : List HV) (x : HR (List HV)) (y : R Unit) : Prop :=
  match x with
  | .ok ys h' => accH.length + ys.length ≤ LIM → ∃ vs s', y = .ok () s'.H ∧ s'.h = h' ∧ Nxt S s0 s' ∧ Bsd s0 s' D (.lst vs) ∧ RVs S s' (accH ++ ys) vs
  | _ => True
theorem SimR.lc {α β : Type} {s0 s : Sg} {x : HR α} {y : R β} {P : Sg → α → β → Prop} {f : α → HH → HR (List HV)} {g : β → OH → R Unit} {D : Nat} {accH : List HV} (o : SimR S s x y P)
    (k : ∀ s' a b, Nxt S s s' → P s' a b → LcR S s0 D accH (f a s'.h) (g b s'.H)) : LcR S s0 D accH (x.bind f) (y.bind g) := by
  cases x with
  | ok a h' =>
    obtain ⟨b, s', rfl, rfl, n, p⟩ := o
    exact k s' a b n p
  | ex c h' => trivial
  | no => trivial
theorem LcR.cons {s0 : Sg} {D : Nat} {accH : List HV} {y : HV} {x : HR (List HV)} {z : R Unit} (o : LcR S s0 D (accH ++ [y]) x z) : LcR S s0 D accH (x.bind fun ys h => .ok (y :: ys) h) z := by
  cases x with
  | ok ys h' =>
    intro hl
    obtain ⟨vs, s', a, b, c, d, r⟩ := o (by simp at hl ⊢; omega)
    exact ⟨vs, s', a, b, c, d, by rw [List.append_assoc] at r; exact r⟩
  | ex c h' => trivial
  | no => trivial
/-- one more in the list, where there is room for what comes yet -/
theorem lc_app {s0 s : Sg} {D : Nat} {accH : List HV} {acc : List OV} {y : HV} {w : OV} {x : HR (List HV)} {g : OH → R Unit} (n0 : Nxt S s0 s) (bd : Bsd s0 s D (.lst acc)) (ra : RVs S s accH acc) (ry : RV S s y w)
    (k : ∀ s', Nxt S s0 s' → (∀ t, Nxt S t s → D ≥ t.H.n → Nxt S t s') → s'.h = s.h → s'.H = s.H.put D (.lst (acc ++ [w])) → Bsd s0 s' D (.lst (acc ++ [w])) → RVs S s' (accH ++ [y]) (acc ++ [w]) → RE S s' = RE S s → LcR S s0 D (accH ++ [y]) x (g s'.H)) :
    LcR S s0 D accH (x.bind fun ys h => .ok (y :: ys) h) (match s.H.get D with | some (.lst ys) => if ys.length < LIM then g (s.H.put D (.lst (ys ++ [w]))) else .no | _ => .no) := by
  simp only [bd.at_]
  by_cases hl : acc.length < LIM
  · rw [if_pos hl]
    refine LcR.cons ?_
    have nx := n0.putD (o1 := .lst (acc ++ [w])) bd
    refine k (s.putD D (.lst (acc ++ [w]))) nx (fun t nt ht => nt.putD ⟨ht, bd.at_, bd.g, bd.m⟩) rfl rfl bd.put ?_ rfl
    exact ra.app (.one ry)
  · cases x with
    | ok ys h' =>
      intro h
      have := ra.len
      simp at h
      omega
    | ex c h' => trivial
    | no => trivial
theorem sim_lcI (ht : TgS S tg tg') (hc : ∀ s E e, Lk S s → RE S s E e → SimR S s (c E s.h) (c' e s.H) (fun _ x y => x = y)) (hm : ∀ s E e, Lk S s → RE S s E e → SimR S s (m E s.h) (m' e s.H) (RVP S))
    {s0 sI : Sg} {D : Nat} {src : Src} {all : List HV} (its : Its S sI all src all.length) (hI : sI.H.n ≤ D) {E : HE} {e : En} :
    ∀ (xs : List HV) (i : Nat) (s : Sg) (accH : List HV) (acc : List OV), Nxt S s0 s → Nxt S sI s → RE S s E e → Bsd s0 s D (.lst acc) → RVs S s accH acc → i + xs.length = all.length → (∀ j : Nat, xs[j]? = all[i + j]?) →
      LcR S s0 D accH (lcI tg c m E xs s.h) (lcM src tg' c' m' e D xs.length i s.H)
  | [], i, s, accH, acc, n0, nI, re, bd, ra, hi, hx => by
    unfold lcI
    rw [List.length_nil] at hi ⊢
    unfold lcM
    rw [if_pos (by rw [show i = all.length by omega]; exact (its.2 s nI).2)]
    exact fun _ => ⟨acc, s, rfl, rfl, n0, bd, by rw [List.append_nil]; exact ra⟩
  | x :: xs, i, s, accH, acc, n0, nI, re, bd, ra, hi, hx => by
    unfold lcI
    rw [List.length_cons] at hi ⊢
    unfold lcM
    have h0 : all[i]? = some x := by have := hx 0; rw [Nat.add_zero] at this; rw [← this]; rfl
    obtain ⟨v, s1, e1, e2, n1, rv⟩ := (its.2 s nI).1 i x h0
    have hx' : ∀ j : Nat, xs[j]? = all[i + 1 + j]? := fun j => by have := hx (j + 1); rw [List.getElem?_cons_succ] at this; rw [this]; congr 1; omega
    rw [e1]
    show LcR S s0 D accH _ ((tg' v e s1.H).bind _)
    rw [← e2]
    refine (ht s1 E e x v n1.lk (re.nx n1) rv).lc fun s2 E1 e1 n2 re2 => ?_
    refine (hc s2 E1 e1 n2.lk re2).lc fun s3 k k' n3 ek => ?_
    cases ek
    have nn := n1.trans (n2.trans n3)
    split
    · refine (hm s3 E1 e1 n3.lk (re2.nx n3)).lc fun s4 y w n4 ry => ?_
      have nn4 := nn.trans n4
      refine lc_app (n0.trans nn4) (bd.nx n0.lk nn4) (nn4.rvs ra) ry fun s5 n5 tr eh eH bd5 ra5 er => ?_
      have r5 : RE S s5 E e := by rw [er]; exact re.nx nn4
      have := sim_lcI ht hc hm its hI xs (i + 1) s5 _ _ n5 (tr sI (nI.trans nn4) hI) r5 bd5 ra5 (by omega) hx'
      rw [eh] at this
      exact this
    · exact sim_lcI ht hc hm its hI xs (i + 1) s3 accH acc (n0.trans nn) (nI.trans nn) (re.nx nn) (bd.nx n0.lk nn) (nn.rvs ra) (by omega) hx'
theorem sim_lcL (ht : TgS S tg tg') (hc : ∀ s E e, Lk S s → RE S s E e → SimR S s (c E s.h) (c' e s.H) (fun _ x y => x = y)) (hm : ∀ s E e, Lk S s → RE S s E e → SimR S s (m E s.h) (m' e s.H) (RVP S))
    {s0 sI : Sg} {D : Nat} {q : HSrc} {k : Nat} {src : Src} (lv : liveOf sI.m q = some (k, src)) (lk : k < sI.h.length) (hI : sI.H.n ≤ D) {E : HE} {e : En} :
    ∀ (n i : Nat) (s : Sg) (accH : List HV) (acc : List OV), Nxt S s0 s → Nxt S sI s → RE S s E e → Bsd s0 s D (.lst acc) → RVs S s accH acc → LcR S s0 D accH (lcL q tg c m E n i s.h) (lcM src tg' c' m' e D n i s.H)
  | 0, i, s, accH, acc, n0, nI, re, bd, ra => by
    unfold lcL lcM
    split
    · rename_i h
      rw [if_pos (sim_liend lv lk nI h)]
      exact fun _ => ⟨acc, s, rfl, rfl, n0, bd, by rw [List.append_nil]; exact ra⟩
    · trivial
  | n + 1, i, s, accH, acc, n0, nI, re, bd, ra => by
    unfold lcL lcM
    refine (sim_liv lv lk nI).lc fun s1 x v n1 rv => ?_
    refine (ht s1 E e x v n1.lk (re.nx n1) rv).lc fun s2 E1 e1 n2 re2 => ?_
    refine (hc s2 E1 e1 n2.lk re2).lc fun s3 k k' n3 ek => ?_
    cases ek
    have nn := n1.trans (n2.trans n3)
    split
    · refine (hm s3 E1 e1 n3.lk (re2.nx n3)).lc fun s4 y w n4 ry => ?_
      have nn4 := nn.trans n4
      refine lc_app (n0.trans nn4) (bd.nx n0.lk nn4) (nn4.rvs ra) ry fun s5 n5 tr eh eH bd5 ra5 er => ?_
      have r5 : RE S s5 E e := by rw [er]; exact re.nx nn4
      have := sim_lcL ht hc hm lv lk hI n (i + 1) s5 _ _ n5 (tr sI (nI.trans nn4) hI) r5 bd5 ra5
      rw [eh] at this
      exact this
    · exact sim_lcL ht hc hm lv lk hI n (i + 1) s3 accH acc (n0.trans nn) (nI.trans nn) (re.nx nn) (bd.nx n0.lk nn) (nn.rvs ra)
end
end
end MH

end
section
set_option linter.all false
set_option maxRecDepth 100000
/-! MHSim6: every construct. -/
namespace MH
open MP
open PySem
section
variable {S : List Int}
theorem SimR.lift {s s' : Sg} {α β : Type} {x : HR α} {y : R β} {P : Sg → α → β → Prop} (o : SimR S s' x y P) (n : Nxt S s s') : SimR S s x y P := by
  cases x with
  | ok a h' =>
    obtain ⟨b, s2, e1, e2, n2, p⟩ := o
    exact ⟨b, s2, e1, e2, n.trans n2, p⟩
  | ex c h' =>
    obtain ⟨s2, e1, e2, n2⟩ := o
    exact ⟨s2, e1, e2, n.trans n2⟩
  | no => trivial
theorem SimS.lift {s s' : Sg} {x : HS} {y : RS} (o : SimS S s' x y) (n : Nxt S s s') : SimS S s x y := by
  cases x with
  | ok f E h' =>
    obtain ⟨f', e', s2, e1, e2, n2, p⟩ := o
    exact ⟨f', e', s2, e1, e2, n.trans n2, p⟩
  | ex c E h' =>
    obtain ⟨e', s2, e1, e2, n2, p⟩ := o
    exact ⟨e', s2, e1, e2, n.trans n2, p⟩
  | no => trivial
/-- one step behind another -/
theorem SimR.seq {α β γ δ : Type} {s : Sg} {x : HR α} {y : R β} {P : Sg → α → β → Prop} {f : α → HH → HR γ} {g : β → OH → R δ} {Q : Sg → γ → δ → Prop} (o : SimR S s x y P) (l : Lk S s)
    (k : ∀ s' a b, Nxt S s s' → P s' a b → SimR S s' (f a s'.h) (g b s'.H) Q) : SimR S s (x.bind f) (y.bind g) Q :=
  o.bind (.refl l) fun s' a b n p => (k s' a b n p).lift n
theorem SimS.seqT {α β : Type} {s : Sg} {x : HR α} {y : R β} {P : Sg → α → β → Prop} {E : HE} {e : En} {f : α → HH → HS} {g : β → OH → RS} (o : SimR S s x y P) (l : Lk S s) (re : RE S s E e)
    (k : ∀ s' a b, Nxt S s s' → P s' a b → SimS S s' (f a s'.h) (g b s'.H)) : SimS S s (x.thenS E f) (y.thenS e g) :=
  SimS.thenS o (.refl l) re fun s' a b n p => (k s' a b n p).lift n
variable (S) in
abbrev ExS (a : HE → HH → HR HV) (d : En → OH → R OV) : Prop := ∀ s E e, Lk S s → RE S s E e → SimR S s (a E s.h) (d e s.H) (RVP S)
variable (S) in
structure SimD (a : HD) (d : Den) : Prop where
  ex : ExS S a.ex d.ex := by exact fun _ _ _ _ _ => trivial
  px : ExS S a.px d.ex := by exact fun _ _ _ _ _ => trivial
  mx : ExS S a.mx d.ex := by exact fun _ _ _ _ _ => trivial
  pt : ∀ s E e, Lk S s → RE S s E e → SimR S s (a.pt E s.h) (d.ts e s.H) (fun _ x y => x = y) := by exact fun _ _ _ _ _ => trivial
  xs : ∀ s E e, Lk S s → RE S s E e → SimR S s (a.xs E s.h) (d.xs e s.H) (fun s' x y => RVs S s' x y) := by exact fun _ _ _ _ _ => trivial
  ts : ∀ s E e, Lk S s → RE S s E e → SimR S s (a.ts E s.h) (d.ts e s.H) (fun _ x y => x = y) := by exact fun _ _ _ _ _ => trivial
  op : ∀ s E e, Lk S s → RE S s E e → SimR S s (a.op E s.h) (d.op e s.H) (fun _ x y => x = y) := by exact fun _ _ _ _ _ => trivial
  it : ∀ s E e, Lk S s → RE S s E e → SimR S s (a.it E s.h) (d.it e s.H) (RSrcK S s) := by exact fun _ _ _ _ _ => trivial
  tg : TgS S a.tg d.tg := by exact fun _ _ _ _ _ _ _ _ => trivial
  tgs : ∀ s E e xs vs, Lk S s → RE S s E e → RVs S s xs vs → SimR S s (a.tgs xs E s.h) (d.tgs vs e s.H) (fun s' E e => RE S s' E e) := by exact fun _ _ _ _ _ _ _ _ => trivial
  st : ∀ s E e, Lk S s → RE S s E e → SimS S s (a.st E s.h) (d.st e s.H) := by exact fun _ _ _ _ _ => trivial
theorem simD_no {d : Den} : SimD S {} d := {}
theorem sim_ts {m : HE → HH → HR HV} {m' : En → OH → R OV} (h : ExS S m m') (s : Sg) (E : HE) (e : En) (l : Lk S s) (re : RE S s E e) : SimR S s (tsR (m E s.h)) (truR (m' e s.H)) (fun _ x y => x = y) :=
  (h s E e l re).seq l fun s' x v n rv => sim_truR n.lk rv
theorem sim_op {m : HE → HH → HR HV} {m' : En → OH → R OV} (h : ExS S m m') (s : Sg) (E : HE) (e : En) (l : Lk S s) (re : RE S s E e) : SimR S s (opR (m E s.h)) ((m' e s.H).bind fun v h => match v with | .int i => .ok (some i) h | _ => .no) (fun _ x y => x = y) :=
  (h s E e l re).seq l fun s' x v n rv => by
    split
    · rw [RV.int.mp rv]; exact .ret (.refl n.lk) rfl
    · trivial
theorem SimD.E {m mx px : HE → HH → HR HV} {m' : En → OH → R OV} (h : ExS S m m') (hm : ExS S mx m' := by exact fun _ _ _ _ _ => trivial) (hp : ExS S px m' := by exact fun _ _ _ _ _ => trivial) : SimD S (HD.E m mx px) (Den.E m') :=
  { ex := h, mx := hm, px := hp, pt := sim_ts hp, ts := sim_ts h, op := sim_op h }
theorem SimD.M {m : Bool → HE → HH → HR HV} {m' : En → OH → R OV} (h : ∀ mu, ExS S (m mu) m') : SimD S (HD.M m) (Den.E m') := .E (h false) (h true)
theorem d_non : SimD S hNon dNon := .E fun s E e l re => sim_flat l rfl rfl
theorem d_bl {b : Bool} : SimD S (hBl b) (dBl b) := .E fun s E e l re => sim_flat l rfl rfl
theorem d_int {b : Int} : SimD S (hInt b) (dInt b) := .E fun s E e l re => sim_flat l rfl rfl
theorem d_str {b : Str} : SimD S (hStr b) (dStr b) := .E fun s E e l re => sim_flat l rfl rfl
theorem d_var {i : Nat} : SimD S (hVar i) (dVar i) := .E fun s E e l re => .of l fun a ea => re.get ea
theorem d_gc {v : OV} : SimD S (hGc v) (dGc v) := .E fun s E e l re => by
  cases v <;> first | trivial | exact sim_flat l rfl rfl
theorem d_bin {op : BOp} {a b : HD} {a' b' : Den} (ha : SimD S a a') (hb : SimD S b b') : SimD S (hBin op a b) (dBin op a' b') := .M fun mu s E e l re =>
  (ha.ex s E e l re).seq l fun s1 x v n1 rx => (hb.ex s1 E e n1.lk (re.nx n1)).seq n1.lk fun s2 y w n2 ry => (sim_bin n2.lk (n2.rv rx) ry).nx
theorem d_neg {a : HD} {a' : Den} (ha : SimD S a a') : SimD S (hNeg a) (dNeg a') := .E fun s E e l re =>
  (ha.ex s E e l re).seq l fun s1 x v n1 rx => (sim_neg n1.lk rx).nx
theorem sim_bool {s : Sg} {x : HR HV} {y : R OV} {f : Bool → HH → HR HV} {g : Bool → OH → R OV} {Q : Sg → HV → OV → Prop} (l : Lk S s) (o : SimR S s x y (RVP S)) (k : ∀ s' b, Nxt S s s' → SimR S s' (f b s'.h) (g b s'.H) Q) : SimR S s (boolH x f) (boolR y g) Q :=
  o.seq l fun s1 x v n1 rx => by
    split
    · rw [RV.bl.mp rx]; exact k s1 _ n1
    · trivial
theorem d_not {a : HD} {a' : Den} (ha : SimD S a a') : SimD S (hNot a) (dNot a') :=
  { ex := fun s E e l re => sim_bool l (ha.ex s E e l re) fun s1 b n1 => sim_flat n1.lk rfl rfl,
    ts := fun s E e l re => (ha.ts s E e l re).seq l fun s1 x y n1 q => by cases q; exact .ret (.refl n1.lk) rfl }
theorem d_cmp {op : COp} {a b : HD} {a' b' : Den} (ha : SimD S a a') (hb : SimD S b b') : SimD S (hCmp op a b) (dCmp op a' b') := .E fun s E e l re =>
  (ha.ex s E e l re).seq l fun s1 x v n1 rx => (hb.ex s1 E e n1.lk (re.nx n1)).seq n1.lk fun s2 y w n2 ry => (sim_cmp n2.lk (n2.rv rx) ry).nx
theorem d_chain {o1 o2 : COp} {a b c : HD} {a' b' c' : Den} (ha : SimD S a a') (hb : SimD S b b') (hc : SimD S c c') : SimD S (hChain o1 o2 a b c) (dChain o1 o2 a' b' c') := .E fun s E e l re =>
  (ha.ex s E e l re).seq l fun s1 x v n1 rx => (hb.ex s1 E e n1.lk (re.nx n1)).seq n1.lk fun s2 y w n2 ry =>
    sim_bool n2.lk (sim_cmp n2.lk (n2.rv rx) ry).nx fun s3 k n3 => by
      split
      · exact (hc.ex s3 E e n3.lk (re.nx (n1.trans (n2.trans n3)))).seq n3.lk fun s4 z u n4 rz => (sim_cmp n4.lk ((n3.trans n4).rv ry) rz).nx
      · exact sim_flat n3.lk rfl rfl
theorem d_and {a b : HD} {a' b' : Den} (ha : SimD S a a') (hb : SimD S b b') : SimD S (hAnd a b) (dAnd a' b') :=
  { ex := fun s E e l re => sim_bool l (ha.ex s E e l re) fun s1 k n1 => by
      split
      · exact hb.ex s1 E e n1.lk (re.nx n1)
      · exact sim_flat n1.lk rfl rfl,
    ts := fun s E e l re => (ha.ts s E e l re).seq l fun s1 x y n1 q => by
      cases q
      split
      · exact hb.ts s1 E e n1.lk (re.nx n1)
      · exact .ret (.refl n1.lk) rfl }
theorem d_or {a b : HD} {a' b' : Den} (ha : SimD S a a') (hb : SimD S b b') : SimD S (hOr a b) (dOr a' b') :=
  { ex := fun s E e l re => sim_bool l (ha.ex s E e l re) fun s1 k n1 => by
      split
      · exact sim_flat n1.lk rfl rfl
      · exact hb.ex s1 E e n1.lk (re.nx n1),
    ts := fun s E e l re => (ha.ts s E e l re).seq l fun s1 x y n1 q => by
      cases q
      split
      · exact .ret (.refl n1.lk) rfl
      · exact hb.ts s1 E e n1.lk (re.nx n1) }
theorem d_ife {t a b : HD} {t' a' b' : Den} (ht : SimD S t t') (ha : SimD S a a') (hb : SimD S b b') : SimD S (hIfe t a b) (dIfe t' a' b') := by
  have go : ∀ {fa fb : HE → HH → HR HV}, ExS S fa a'.ex → ExS S fb b'.ex → ExS S (fun e h => (t.ts e h).bind fun k h => if k = true then fa e h else fb e h) (dIfe t' a' b').ex := fun h1 h2 s E e l re =>
    (ht.ts s E e l re).seq l fun s1 x y n1 q => by
      cases q
      split
      · exact h1 s1 E e n1.lk (re.nx n1)
      · exact h2 s1 E e n1.lk (re.nx n1)
  exact { ex := go ha.ex hb.ex, mx := go ha.mx hb.mx, px := go ha.px hb.px }
theorem d_lst {es : HD} {es' : Den} (h : SimD S es es') : SimD S (hLst es) (dLst es') := .M fun mu s E e l re =>
  (h.xs s E e l re).seq l fun s1 x v n1 rx => SimR.nx (by
    unfold mkLsH mkLst
    rw [rx.len]
    split
    · exact sim_mkL n1.lk rx
    · trivial)
theorem d_tup {es : HD} {es' : Den} (h : SimD S es es') : SimD S (hTup es) (dTup es') := .E fun s E e l re =>
  (h.xs s E e l re).seq l fun s1 x v n1 rx => SimR.nx (by
    unfold mkTupH mkTup
    rw [rx.len]
    split
    · exact sim_mkT n1.lk rx
    · trivial)
theorem zip_keys {s : Sg} : ∀ (ks : List Str) {xs : List HV} {vs : List OV}, RVs S s xs vs → RVk S s (ks.zip xs) (ks.zip vs) := fun ks _ _ r => zip_all2 ks r
theorem d_dct {ks : List Str} {es : HD} {es' : Den} (h : SimD S es es') : SimD S (hDct ks es) (dDct ks es') := .M fun mu s E e l re => by
  show SimR S s (if ks.length ≤ 15 then _ else _) (if ks.length ≤ 15 then _ else _) _
  split
  · have nD := Nxt.newD l (.dct false [])
    refine SimR.bind (s0 := s) (s := s.newD (.dct false [])) (h.xs _ E e nD.lk (re.nx nD)) nD fun s2 xs vs n2 rx => SimR.nx ?_
    have b2 := (Bsd.new l).nx nD.lk n2
    have n02 := nD.trans n2
    unfold dctR dctV
    rw [rx.len]
    split
    · rw [b2.at_]
      dsimp only
      have rk : RVk S s2 (mergeP [] (ks.zip xs)) (mergeP [] (ks.zip vs)) := RVk.merge (kvs := []) (ws := []) trivial (zip_keys ks rx)
      have n3 := n02.putD (o1 := .dct false (mergeP [] (ks.zip vs))) b2
      have b3 := b2.put (o1 := .dct false (mergeP [] (ks.zip vs)))
      cases mu with
      | false =>
        obtain ⟨n4, k4⟩ := n3.fixD b3
        refine ⟨.ref s.H.n, (s2.putD s.H.n (.dct false (mergeP [] (ks.zip vs)))).fixD s.H.n (.dct false (mergeP [] (ks.zip vs))), rfl, rfl, n4, RV.fd.mpr ⟨s.H.n, _, rfl, if_pos rfl, ?_⟩⟩
        exact All2.mono (fun _ _ h => ⟨h.1, k4 _ _ h.2⟩) rk
      | true =>
        have n4 := n3.takD b3 (o := .dct false (mergeP [] (ks.zip xs))) ⟨rfl, rk⟩
        refine ⟨.ref s.H.n, (s2.putD s.H.n (.dct false (mergeP [] (ks.zip vs)))).takD s.H.n (.dct false (mergeP [] (ks.zip xs))), rfl, rfl, n4, RV.ref.mpr ⟨?_, ?_⟩⟩
        · show s2.h.length < (s2.h ++ [_]).length; simp
        · exact congrArg OV.ref (if_pos rfl).symm
    · trivial
  · trivial
theorem d_ix {a b : HD} {a' b' : Den} (ha : SimD S a a') (hb : SimD S b b') : SimD S (hIx a b) (dIx a' b') := .E fun s E e l re =>
  (ha.ex s E e l re).seq l fun s1 x v n1 rx => (hb.ex s1 E e n1.lk (re.nx n1)).seq n1.lk fun s2 y w n2 ry => (sim_ix n2.lk (n2.rv rx) ry).nx
theorem d_sl {a b c : HD} {a' b' c' : Den} (ha : SimD S a a') (hb : SimD S b b') (hc : SimD S c c') : SimD S (hSl a b c) (dSl a' b' c') := .M fun mu s E e l re =>
  (ha.ex s E e l re).seq l fun s1 x v n1 rx => (hb.op s1 E e n1.lk (re.nx n1)).seq n1.lk fun s2 i i' n2 ei => (hc.op s2 E e n2.lk (re.nx (n1.trans n2))).seq n2.lk fun s3 j j' n3 ej => by
    cases ei; cases ej
    exact (sim_sl n3.lk ((n2.trans n3).rv rx)).nx
theorem d_rev {a : HD} {a' : Den} (ha : SimD S a a') : SimD S (hRev a) (dRev a') := .M fun mu s E e l re =>
  (ha.ex s E e l re).seq l fun s1 x v n1 rx => (sim_rev n1.lk rx).nx
theorem d_fld {T : Tb} {f : Str} {a : HD} {a' : Den} (ha : SimD S a a') : SimD S (hFld T a f) (dFld T a' f) := .E fun s E e l re =>
  (ha.ex s E e l re).seq l fun s1 x v n1 rx => (sim_fld n1.lk rx).nx

/-! ### calls -/
variable (S) in
def CallS (call : HC) (cl : Nat → List OV → OH → R OV) : Prop := ∀ s f xs vs, Lk S s → RVs S s xs vs → SimR S s (call f xs s.h) (cl f vs s.H) (RVP S)
/-- a run in a heap of its own -/
theorem sim_pure {s : Sg} (l : Lk S s) {G' : Gz} (hG : ∀ a o, G' a = some o → s.H.get a = some o) {al : Bool} (hc : al = true → G' = s.G) {x : HR HV} {y : R OV} (o : SimR S ⟨s.m, G', [], s.H⟩ x y (RVP S)) :
    SimR S s (match x with | .ok r h1 => (match vw VD h1 r with | some r1 => bif al || flatH r1 then .ok r1 s.h else .no | none => .no) | .ex c _ => .ex c s.h | .no => .no) y (RVP S) := by
  have key : ∀ s', Nxt S ⟨s.m, G', [], s.H⟩ s' → Nxt S s ⟨s.m, fun a => if a < s.H.n then s.G a else s'.H.get a, s.h, s'.H⟩ := fun s' n => by
    have fr : ∀ a, a < s.H.n → s'.H.get a = s.H.get a := fun a h => n.fr a h fun i hi => absurd hi (Nat.not_lt_zero _)
    have gg : ∀ a o, s.G a = some o → (if a < s.H.n then s.G a else s'.H.get a) = some o := fun a o e => by rw [if_pos (l.lt (l.fz a o e))]; exact e
    have mm : ∀ x v, RV S s x v → RV S ⟨s.m, fun a => if a < s.H.n then s.G a else s'.H.get a, s.h, s'.H⟩ x v := fun x v r => HRel.mono (Nat.le_refl _) (fun _ _ => rfl) gg x r
    refine ⟨⟨n.lk.scr, fun a o e => ?_, fun i o e => ?_, l.inj, n.lk.out⟩, Nat.le_refl _, fun _ _ => rfl, gg, fun a o e => ?_, n.Hn, fun i a b => absurd b (Nat.not_lt.mpr a), fun a h _ => fr a h, fun _ _ e => e⟩
    · have e' : (if a < s.H.n then s.G a else s'.H.get a) = some o := e
      split at e'
      · rename_i q
        show s'.H.get a = _
        rw [fr a q]; exact l.fz a o e'
      · exact e'
    · obtain ⟨g, oo, e1, r⟩ := l.ob i o e
      have lt := l.lt e1
      refine ⟨?_, oo, ?_, r.mono mm⟩
      · show (if s.m i < s.H.n then s.G (s.m i) else s'.H.get (s.m i)) = none
        rw [if_pos lt]; exact g
      · show s'.H.get (s.m i) = _
        rw [fr _ lt]; exact e1
    · have e' : (if a < s.H.n then s.G a else s'.H.get a) = some o := e
      split at e'
      · exact .inl e'
      · rename_i q; exact .inr (Nat.not_lt.mp q)
  cases x with
  | ok r h1 =>
    obtain ⟨b, s', rfl, rfl, n, rb⟩ := o
    dsimp only
    split
    · rename_i r1 er
      cases q : al || flatH r1 with
      | false => trivial
      | true =>
        rw [cond_true]
        refine ⟨b, ⟨s.m, fun a => if a < s.H.n then s.G a else s'.H.get a, s.h, s'.H⟩, rfl, rfl, key s' n, ?_⟩
        cases hal : al with
        | true =>
          have hG' := hc hal
          subst hG'
          have ge : ∀ i, i < s'.h.length → s.H.n ≤ s'.m i := fun i hi => n.mn i (Nat.zero_le _) hi
          refine (vw_rel n.lk (G' := fun a => if a < s.H.n then s.G a else s'.H.get a) (m' := s.m) (n' := s.h.length) (fun a o e => ?_) (fun i hi => ?_) _ _ _ _ er rb).1
          · rcases n.Gn a o e with z | z
            · have z : s.G a = some o := z
              show (if a < s.H.n then s.G a else s'.H.get a) = _
              rw [if_pos (l.lt (l.fz a o z))]; exact z
            · show (if a < s.H.n then s.G a else s'.H.get a) = _
              rw [if_neg (Nat.not_lt.mpr z)]; exact n.lk.fz a o e
          · show (if s'.m i < s.H.n then s.G (s'.m i) else s'.H.get (s'.m i)) = _
            rw [if_neg (Nat.not_lt.mpr (ge i hi))]
        | false =>
          rw [hal, Bool.false_or] at q
          have h2 := (vw_rel n.lk (G' := s'.H.get) (m' := s.m) (n' := s.h.length) n.lk.fz (fun _ _ => rfl) _ _ _ _ er rb).1
          have h3 : RV S ⟨s.m, s'.H.get, s.h, s'.H⟩ r1 b := h2
          show RV S _ r1 b
          rw [flat_is q h3]
          exact RV.pl q
    · trivial
  | ex c h1 =>
    obtain ⟨s', rfl, rfl, n⟩ := o
    exact ⟨⟨s.m, fun a => if a < s.H.n then s.G a else s'.H.get a, s.h, s'.H⟩, rfl, rfl, key s' n⟩
  | no => trivial
theorem allV_rf {h : HH} : ∀ {xs ys : List HV}, xs.all rf = true → allV h xs = some ys → ys = xs
  | [], ys, _, e => by cases e; rfl
  | x :: xs, ys, f, e => by
    rw [List.all_cons, Bool.and_eq_true] at f
    unfold allV at e
    simp only [mapO] at e
    have ev : vw VD h x = some x := by show vw (11 + 1) h x = _; unfold vw; rw [f.1]; rfl
    rw [ev] at e
    dsimp only at e
    split at e
    · rename_i zs ez
      cases e
      rw [allV_rf f.2 (show allV h xs = some zs from ez)]
    · cases e
theorem all_rv {s : Sg} (l : Lk S s) {xs ys : List HV} {vs : List OV} (e : allV s.h xs = some ys) (r : RVs S s xs vs) :
    ∃ G', (∀ a o, G' a = some o → s.H.get a = some o) ∧ (xs.all rf = true → G' = s.G) ∧ Lk S ⟨s.m, G', [], s.H⟩ ∧ RVs S ⟨s.m, G', [], s.H⟩ ys vs := by
  have lk : ∀ G' : Gz, (∀ a o, G' a = some o → s.H.get a = some o) → Lk S ⟨s.m, G', [], s.H⟩ := fun G' h => ⟨l.scr, h, fun i o e => by simp at e, fun i j h => absurd h (Nat.not_lt_zero _), l.out⟩
  cases q : xs.all rf with
  | true =>
    refine ⟨s.G, l.fz, fun _ => rfl, lk _ l.fz, ?_⟩
    rw [allV_rf q e]
    have := r.memL (Q := fun x => rf x = true) (by simpa using q)
    exact All2.mono (fun x v h => HRel.free (fun _ _ e => e) x h.1 h.2) this
  | false =>
    refine ⟨s.H.get, fun _ _ e => e, fun z => by simp at z, lk _ fun _ _ e => e, ?_⟩
    exact (mapO_rel (R' := fun y v => RV S ⟨s.m, s.H.get, [], s.H⟩ y v) (Q := fun _ => True) (fun x y v ex rx => ⟨(vw_rel l (G' := s.H.get) l.fz (fun _ _ => rfl) _ _ _ _ ex rx).1, trivial⟩) e r).1
section
variable {call : HC} {cl : Nat → List OV → OH → R OV}
theorem sim_pc (hc : CallS S call cl) {s : Sg} (l : Lk S s) {f : Nat} {xs : List HV} {vs : List OV} (r : RVs S s xs vs) : SimR S s (pcH call f xs s.h) (cl f vs s.H) (RVP S) := by
  unfold pcH
  split
  · rename_i ys e
    obtain ⟨G', h1, h2, h3, h4⟩ := all_rv l e r
    exact sim_pure l h1 h2 (hc ⟨s.m, G', [], s.H⟩ f ys vs h3 h4)
  · trivial
theorem d_call (hc : CallS S call cl) {f : Nat} {es : HD} {es' : Den} (h : SimD S es es') : SimD S (hCall call f es) (dCall cl f es') :=
  .E (fun s E e l re => (h.xs s E e l re).seq l fun s1 x v n1 rx => hc s1 f x v n1.lk rx)
    (hp := fun s E e l re => (h.xs s E e l re).seq l fun s1 x v n1 rx => sim_pc hc n1.lk rx)
theorem sim_mkIns {T : Tb} (hc : CallS S call cl) {s : Sg} (l : Lk S s) {c : Nat} {xs : List HV} {vs : List OV} (r : RVs S s xs vs) : SimR S s (mkInsH T call c xs s.h) (mkIns T cl c vs s.H) (RVP S) := by
  unfold mkInsH mkIns
  cases ef : (T.clss[c]?).bind (·.init) with
  | none => trivial
  | some f =>
    dsimp only
    have ro : RO S s (.ins c []) (.ins c []) := ⟨rfl, trivial⟩
    have nM := Nxt.newM l ro
    have lt : s.h.length < (s.newM (.ins c []) (.ins c [])).h.length := by show _ < (s.h ++ [_]).length; simp
    have em : (s.newM (.ins c []) (.ins c [])).m s.h.length = s.H.n := if_pos rfl
    have r1 : RV S (s.newM (.ins c []) (.ins c [])) (.ref s.h.length) (.ref s.H.n) := RV.ref.mpr ⟨lt, by rw [em]⟩
    refine SimR.bind (s0 := s) (hc (s.newM (.ins c []) (.ins c [])) f (.ref s.h.length :: xs) (.ref s.H.n :: vs) nM.lk ⟨r1, nM.rvs r⟩) nM fun s2 x v n2 rx => ?_
    split
    · rw [RV.non.mp rx]
      exact .ret (nM.trans n2) (n2.rv r1)
    · trivial
theorem d_make {T : Tb} (hc : CallS S call cl) {c : Nat} {es : HD} {es' : Den} (h : SimD S es es') : SimD S (hMake T call c es) (dMake T cl c es') :=
  .E (fun s E e l re => (h.xs s E e l re).seq l fun s1 x v n1 rx => (sim_mkIns hc n1.lk rx).nx)
    (hp := fun s E e l re => (h.xs s E e l re).seq l fun s1 x v n1 rx => SimR.nx (by
      unfold pmH
      split
      · rename_i ys e
        obtain ⟨G', h1, h2, h3, h4⟩ := all_rv n1.lk e rx
        have := sim_pure n1.lk h1 h2 (sim_mkIns (T := T) (c := c) hc h3 h4)
        dsimp only at this
        revert this
        generalize mkInsH T call c ys [] = z
        intro this
        cases z with
        | ok r h1 =>
          dsimp only at this ⊢
          split
          · rename_i r1 er
            rw [er] at this
            dsimp only at this
            cases q : x.all rf with
            | false => trivial
            | true => rw [q, Bool.true_or] at this; exact this
          · trivial
        | ex c h1 => trivial
        | no => trivial
      · trivial))
theorem has_rv {s : Sg} (l : Lk S s) {c : Nat} {m : Str} {x : HV} {v : OV} (rx : RV S s x v) : hasM s.H c m v = hasMH s.h c m x := by
  cases x with
  | non => rw [RV.non.mp rx]; rfl
  | bl b => rw [RV.bl.mp rx]; rfl
  | int b => rw [RV.int.mp rx]; rfl
  | str b => rw [RV.str.mp rx]; rfl
  | sc ns => rw [(RV.sc.mp rx).1]; rfl
  | fl xs => obtain ⟨a, vs, rfl, g, _⟩ := RV.fl.mp rx; simp only [hasM, l.fz _ _ g]; rfl
  | ft xs => obtain ⟨a, vs, rfl, g, _⟩ := RV.ft.mp rx; simp only [hasM, l.fz _ _ g]; rfl
  | fd b xs => obtain ⟨a, vs, rfl, g, _⟩ := RV.fd.mp rx; simp only [hasM, l.fz _ _ g]; rfl
  | fi k fs =>
    obtain ⟨a, vs, rfl, g, r⟩ := RV.fi.mp rx
    simp only [hasM, l.fz _ _ g, hasMH, insH]
    have := RVk.look r m
    cases q : lookK fs m with
    | none => rw [q] at this; rw [this]; rfl
    | some z => rw [q] at this; obtain ⟨u, eu, _⟩ := this; rw [eu]; rfl
  | ref n =>
    obtain ⟨lt, rfl⟩ := RV.ref.mp rx
    obtain ⟨o, eo⟩ : ∃ o, s.h[n]? = some o := ⟨s.h[n], by simp [lt]⟩
    obtain ⟨_, oo, e2, ro⟩ := l.ob n o eo
    cases o with
    | lst xs => obtain ⟨vs, rfl, _⟩ := ro.lst; simp only [hasM, e2, hasMH, insH, eo]
    | dct b xs => obtain ⟨vs, rfl, _⟩ := RO.dct ro; simp only [hasM, e2, hasMH, insH, eo]
    | ins k fs =>
      obtain ⟨vs, rfl, r⟩ := RO.ins ro
      simp only [hasM, e2, hasMH, insH, eo]
      have := RVk.look r m
      cases q : lookK fs m with
      | none => rw [q] at this; rw [this]; rfl
      | some z => rw [q] at this; obtain ⟨u, eu, _⟩ := this; rw [eu]; rfl
theorem pick_rv {s : Sg} (l : Lk S s) {m : Str} {x : HV} {v : OV} (rx : RV S s x v) : ∀ ms, pickM s.H m v ms = pickH s.h m x ms
  | [] => rfl
  | (c, f) :: r => by simp only [pickM, pickH, has_rv l rx, pick_rv l rx r]
theorem d_meth (hc : CallS S call cl) {ms : List (Nat × Nat)} {m : Str} {a es : HD} {a' es' : Den} (ha : SimD S a a') (h : SimD S es es') : SimD S (hMeth call a ms m es) (dMeth cl a' ms m es') := by
  have go : ∀ {F : Nat → List HV → HH → HR HV}, (∀ s f xs vs, Lk S s → RVs S s xs vs → SimR S s (F f xs s.h) (cl f vs s.H) (RVP S)) →
      ExS S (fun e h => (a.ex e h).bind fun x h => match pickH h m x ms with
        | some f => (es.xs e h).bind fun xs h => F f (x :: xs) h
        | none => .no) (fun e h => (a'.ex e h).bind fun x h => match pickM h m x ms with
        | some f => (es'.xs e h).bind fun xs h => cl f (x :: xs) h
        | none => .no) := fun hF s E e l re =>
    (ha.ex s E e l re).seq l fun s1 x v n1 rx => by
      rw [pick_rv n1.lk rx]
      split
      · rename_i f ef
        exact (h.xs s1 E e n1.lk (re.nx n1)).seq n1.lk fun s2 xs vs n2 rxs => hF s2 f (x :: xs) (v :: vs) n2.lk ⟨n2.rv rx, rxs⟩
      · trivial
  exact .E (go hc) (hp := go fun s f xs vs l r => sim_pc hc l r)
end
theorem d_bf {b : BF} {es : HD} {es' : Den} (h : SimD S es es') : SimD S (hBf b es) (dBf b es') := .M fun mu s E e l re =>
  (h.xs s E e l re).seq l fun s1 x v n1 rx => (sim_bf n1.lk rx).nx
theorem d_bm {m : BM} {a es : HD} {a' es' : Den} (ha : SimD S a a') (h : SimD S es es') : SimD S (hBm a m es) (dBm a' m es') := .E fun s E e l re =>
  (ha.ex s E e l re).seq l fun s1 x v n1 rx => by
    cases er : rcvH x s1.h with
    | none => trivial
    | some k =>
      rw [sim_rcv n1.lk rx er]
      dsimp only
      split
      · exact (h.xs s1 E e n1.lk (re.nx n1)).seq n1.lk fun s2 xs vs n2 rxs => (sim_bmK n2.lk (n2.rv rx) rxs).nx
      · trivial
theorem d_isi {T : Tb} {c : CI} {a : HD} {a' : Den} (ha : SimD S a a') : SimD S (hIsi T a c) (dIsi T a' c) := .E fun s E e l re =>
  (ha.ex s E e l re).seq l fun s1 x v n1 rx => (sim_isi n1.lk rx).nx
theorem d_sset {a : HD} {a' : Den} (ha : SimD S a a') : SimD S (hSset a) (dSset a') := .M fun mu s E e l re =>
  (ha.ex s E e l re).seq l fun s1 x v n1 rx => (sim_sset n1.lk rx).nx
theorem d_lset {a : HD} {a' : Den} (ha : SimD S a a') : SimD S (hLset a) (dLset a') := .E fun s E e l re =>
  (ha.ex s E e l re).seq l fun s1 x v n1 rx => (sim_lset n1.lk rx).nx
/-- the list that stood beside is the answer -/
theorem sim_unl {s0 s' : Sg} {mu : Bool} {q : HSrc} {src : Src} {D : Nat} {ys : List HV} {vs : List OV} {x : HR HV} {y : R OV} (n : Nxt S s0 s') (b : Bsd s0 s' D (.lst vs)) (r : RVs S s' ys vs)
    (hx : x = if ys.length ≤ LIM then mkL mu ys s'.h else .no) (hy : y = .ok (.ref D) s'.H) : SimR S s0 x y (RVP S) := by
  subst hx hy
  split
  · cases mu with
    | false =>
      obtain ⟨n4, k4⟩ := n.fixD b
      refine ⟨.ref D, s'.fixD D (.lst vs), rfl, rfl, n4, RV.fl.mpr ⟨D, _, rfl, if_pos rfl, ?_⟩⟩
      exact All2.mono (fun _ _ h => k4 _ _ h) r
    | true =>
      have n4 := n.takD b (o := .lst ys) r
      refine ⟨.ref D, s'.takD D (.lst ys), rfl, rfl, n4, RV.ref.mpr ⟨?_, ?_⟩⟩
      · show s'.h.length < (s'.h ++ [_]).length; simp
      · exact congrArg OV.ref (if_pos rfl).symm
  · trivial
variable (S) in
/-- the same, without what an exception tells -/
def SimW {α β : Type} (s : Sg) (x : HR α) (y : R β) (P : Sg → α → β → Prop) : Prop :=
  match x with
  | .ok a h' => ∃ b s', y = .ok b s'.H ∧ s'.h = h' ∧ Nxt S s s' ∧ P s' a b
  | _ => True
theorem SimW.nx {α β : Type} {s : Sg} {x : HR α} {y : R β} {P : Sg → α → β → Prop} (o : SimW S s x y P) : SimR S s (nxH x) (noEx y) P := by
  cases x with
  | ok a h' =>
    obtain ⟨b, s', rfl, rfl, n, p⟩ := o
    exact ⟨b, s', rfl, rfl, n, p⟩
  | ex c h' => exact trivial
  | no => exact trivial
theorem SimR.w {α β : Type} {s : Sg} {x : HR α} {y : R β} {P : Sg → α → β → Prop} (o : SimR S s x y P) : SimW S s x y P := by
  cases x with
  | ok a h' => exact o
  | ex c h' => exact trivial
  | no => exact trivial
theorem SimR.bindW {α β γ δ : Type} {s0 s : Sg} {x : HR α} {y : R β} {P : Sg → α → β → Prop} {f : α → HH → HR γ} {g : β → OH → R δ} {Q : Sg → γ → δ → Prop} (o : SimR S s x y P)
    (k : ∀ s' a b, Nxt S s s' → P s' a b → SimW S s0 (f a s'.h) (g b s'.H) Q) : SimW S s0 (x.bind f) (y.bind g) Q := by
  cases x with
  | ok a h' =>
    obtain ⟨b, s', rfl, rfl, n, p⟩ := o
    exact k s' a b n p
  | ex c h' => trivial
  | no => exact trivial
theorem d_comp {m t it c : HD} {m' t' it' c' : Den} {own : List Nat} (hm : SimD S m m') (ht : SimD S t t') (hi : SimD S it it') (hc : SimD S c c') : SimD S (hComp m t it c own) (dComp m' t' it' c' own) := .M fun mu s E e l re => by
  refine SimW.nx ((hi.it s E e l re).bindW fun s1 q p n1 rq => ?_)
  obtain ⟨q, cnt⟩ := q
  obtain ⟨src, cnt'⟩ := p
  obtain ⟨rs, ow⟩ := rq
  have nD := Nxt.newD n1.lk (.lst [])
  have n0 := n1.trans nD
  have bD : Bsd s (s1.newD (.lst [])) s1.H.n (.lst []) := ⟨n1.Hn, (Bsd.new n1.lk).at_, (Bsd.new n1.lk).g, (Bsd.new n1.lk).m⟩
  have reD : RE S (s1.newD (.lst [])) (wipeH E own) (wipeE e own) := (re.nx n0).wipe own
  have lc : LcR S s s1.H.n [] (lcH (q, cnt) t.tg c.ts m.ex (wipeH E own) s1.h) (lcM src t'.tg c'.ts m'.ex (wipeE e own) s1.H.n cnt' 0 (s1.H.new (.lst []))) := by
    cases q with
    | its xs =>
      obtain ⟨its, _⟩ := rs
      have e1 : cnt' = xs.length := its.1
      subst e1
      exact sim_lcI ht.tg hc.ts hm.ex its (Nat.le_refl _) xs 0 (s1.newD (.lst [])) [] [] n0 nD reD bD trivial (Nat.zero_add _) fun j => by rw [Nat.zero_add]
    | liv k =>
      obtain ⟨e1, lk⟩ := rs
      cases e1
      exact sim_lcL ht.tg hc.ts hm.ex (sI := s1) (q := .liv k) rfl lk (Nat.le_refl _) cnt 0 (s1.newD (.lst [])) [] [] n0 nD reD bD trivial
    | enl k =>
      obtain ⟨e1, lk⟩ := rs
      cases e1
      exact sim_lcL ht.tg hc.ts hm.ex (sI := s1) (q := .enl k) rfl lk (Nat.le_refl _) cnt 0 (s1.newD (.lst [])) [] [] n0 nD reD bD trivial
    | keys k b ks =>
      obtain ⟨_, its, _⟩ := rs
      have e1 : cnt' = ks.length := its.1
      subst e1
      exact sim_lcI ht.tg hc.ts hm.ex its (Nat.le_refl _) ks 0 (s1.newD (.lst [])) [] [] n0 nD reD bD trivial (Nat.zero_add _) fun j => by rw [Nat.zero_add]
  show SimW S s ((lcH (q, cnt) t.tg c.ts m.ex (wipeH E own) s1.h).bind fun ys h => unlH mu q ys h) ((lcM src t'.tg c'.ts m'.ex (wipeE e own) s1.H.n cnt' 0 (s1.H.new (.lst []))).bind fun _ h2 => unlR src s1.H.n h2) (RVP S)
  revert lc
  generalize lcH (q, cnt) t.tg c.ts m.ex (wipeH E own) s1.h = X
  generalize lcM src t'.tg c'.ts m'.ex (wipeE e own) s1.H.n cnt' 0 (s1.H.new (.lst [])) = Y
  intro lc
  cases X with
  | ok ys h2 =>
    show SimW S s (unlH mu q ys h2) _ _
    by_cases hl : ys.length ≤ LIM
    · obtain ⟨vs, s2, rfl, rfl, n2, b2, r2⟩ := lc (by simpa using hl)
      show SimW S s _ (unlR src s1.H.n s2.H) _
      refine SimR.w ?_
      have plain : (unlockH q s2.h = some s2.h) → (unlock src s2.H = some s2.H) → SimR S s (unlH mu q ys s2.h) (unlR src s1.H.n s2.H) (RVP S) := fun u1 u2 => by
        refine sim_unl (mu := mu) (q := q) (src := src) n2 b2 (show RVs S s2 ys vs from r2) ?_ ?_
        · unfold unlH; rw [u1]
        · unfold unlR; rw [u2]
      cases q with
      | its xs =>
        refine plain rfl ?_
        have := rs.2
        cases src with
        | keys a b => cases this
        | _ => rfl
      | liv k => obtain ⟨e1, lk⟩ := rs; cases e1; exact plain rfl rfl
      | enl k => obtain ⟨e1, lk⟩ := rs; cases e1; exact plain rfl rfl
      | keys k b ks =>
        obtain ⟨e1, _, lk⟩ := rs
        have e1 : src = .keys (s1.m k) b := e1
        subst e1
        cases b with
        | false => exact plain rfl rfl
        | true =>
          unfold unlH unlR
          simp only [unlockH]
          split
          · rename_i h3 eh
            split at eh
            · rename_i kvs ek
              cases eh
              obtain ⟨_, oo, e2, ro⟩ := n2.lk.ob _ _ ek
              obtain ⟨ws, rfl, rp⟩ := RO.dct ro
              obtain ⟨lk0, nl0⟩ := ow k ks rfl
              have em : s2.m k = s1.m k := by rw [n2.eq k lk0, n1.eq k lk0]
              have rp' : RO S s2 (.dct false kvs) (.dct false ws) := ⟨rfl, rp⟩
              have n3 := n2.put ek nl0 rp'
              have b3 : Bsd s (s2.put k (.dct false kvs) (.dct false ws)) s1.H.n (.lst vs) := by
                refine ⟨b2.ge, ?_, b2.g, fun i hi => b2.m i (by have : i < (s2.h.set k (.dct false kvs)).length := hi; rw [List.length_set] at this; exact this)⟩
                show (s2.H.put (s2.m k) _).get s1.H.n = _
                rw [OH.get_put, if_neg fun z => b2.m k (lt_of_get ek) z.symm]
                exact b2.at_
              have r3 : RVs S (s2.put k (.dct false kvs) (.dct false ws)) ys vs := All2.mono (fun _ _ h => h.putm) r2
              refine sim_unl (q := .its []) (src := .scr) n3 b3 r3 rfl ?_
              rw [em] at e2
              simp only [unlock, e2]
              rw [← em]; rfl
            · cases eh
          · trivial
    · have : unlH mu q ys h2 = .no := by
        unfold unlH
        split
        · rw [if_neg hl]
        · rfl
      rw [this]; trivial
  | ex k h2 => trivial
  | no => trivial
end
end MH

end
section
set_option linter.all false
set_option maxRecDepth 100000
/-! MHSim7: targets, statements, defs: what hcall tells callN tells. -/
namespace MH
open MP
open PySem
section
variable {S : List Int}
theorem d_nil : SimD S hNil dNil :=
  { xs := fun s E e l re => .ret (.refl l) trivial, ts := fun s E e l re => .ret (.refl l) rfl, op := fun s E e l re => .ret (.refl l) rfl,
    tgs := fun s E e xs vs l re r => by
      cases xs with
      | nil => rw [r.nil_iff]; exact .ret (.refl l) re
      | cons x xs => trivial }
theorem d_cons {a b : HD} {a' b' : Den} (ha : SimD S a a') (hb : SimD S b b') : SimD S (hCons a b) (dCons a' b') :=
  { xs := fun s E e l re => (ha.ex s E e l re).seq l fun s1 x v n1 rx => (hb.xs s1 E e n1.lk (re.nx n1)).seq n1.lk fun s2 xs vs n2 rxs => .ret (.refl n2.lk) ⟨n2.rv rx, rxs⟩,
    tgs := fun s E e xs vs l re r => by
      cases xs with
      | nil => trivial
      | cons x xs =>
        obtain ⟨v, vs, rfl, h1, h2⟩ := r.cons_iff
        exact (ha.tg s E e x v l re h1).seq l fun s1 E1 e1 n1 re1 => hb.tgs s1 E1 e1 xs vs n1.lk re1 (n1.rvs h2) }
theorem srck_mono {s s1 : Sg} {q : HSrc × Nat} {p : Src × Nat} {s' : Sg} (nk : ∀ n b ks, q.1 ≠ .keys n b ks) (r : RSrc S s' q p) : RSrcK S s s' q p := ⟨r, fun n ks z => absurd z (nk n true ks)⟩
theorem d_iex {a : HD} {a' : Den} (ha : SimD S a a') : SimD S (hIex a) (dIex a') :=
  { it := fun s E e l re => (ha.ex s E e l re).seq l fun s1 x v n1 rx => (sim_srcN n1.lk rx).nx }
theorem d_ikv {i : Nat} : SimD S (hIkv i) (dIkv i) :=
  { it := fun s E e l re => by
      show SimR S s ((HR.of (getH E i) s.h).bind _) ((R.of (getV e i) s.H).bind _) _
      cases g : getH E i with
      | none => trivial
      | some x =>
        obtain ⟨v, ev, rv⟩ := re.get g
        rw [ev]
        exact (sim_srcK l rv).nx }
theorem d_ir1 {a : HD} {a' : Den} (ha : SimD S a a') : SimD S (hIr1 a) (dIr1 a') :=
  { it := fun s E e l re => (ha.ex s E e l re).seq l fun s1 x v n1 rx => SimR.nx (by
      unfold ir1H
      split
      · rw [RV.int.mp rx]
        split
        · rename_i q
          simp only [ir1V, if_pos q]
          exact .ret (.refl n1.lk) ⟨⟨its_rng, rfl⟩, fun n ks z => nomatch z⟩
        · trivial
      · trivial) }
theorem d_ir2 {a b : HD} {a' b' : Den} (ha : SimD S a a') (hb : SimD S b b') : SimD S (hIr2 a b) (dIr2 a' b') :=
  { it := fun s E e l re => (ha.ex s E e l re).seq l fun s1 x v n1 rx => (hb.ex s1 E e n1.lk (re.nx n1)).seq n1.lk fun s2 y w n2 ry => SimR.nx (by
      unfold ir2H
      split
      · rw [RV.int.mp rx, RV.int.mp ry]
        split
        · rename_i q
          simp only [ir2V, if_pos q]
          exact .ret (.refl n2.lk) ⟨⟨its_rng, rfl⟩, fun n ks z => nomatch z⟩
        · trivial
      · trivial) }
theorem d_ien {a : HD} {a' : Den} (ha : SimD S a a') : SimD S (hIen a) (dIen a') :=
  { it := fun s E e l re => (ha.ex s E e l re).seq l fun s1 x v n1 rx => SimR.nx (by
      unfold ienH
      split
      · obtain ⟨a, vs, rfl, g, r⟩ := RV.fl.mp rx
        simp only [ienV, n1.lk.fz _ _ g, ← r.len]
        exact .ret (.refl n1.lk) ⟨⟨its_enum g r, rfl⟩, fun n ks z => nomatch z⟩
      · split
        · rename_i e
          obtain ⟨oo, rfl, e2, ro⟩ := n1.lk.ro rx e
          obtain ⟨ws, rfl, ro⟩ := ro.lst
          simp only [ienV, e2, ← ro.len]
          exact .ret (.refl n1.lk) ⟨⟨rfl, lt_of_get e⟩, fun n ks z => nomatch z⟩
        · trivial
      · trivial) }
theorem d_izp {a b : HD} {a' b' : Den} (ha : SimD S a a') (hb : SimD S b b') : SimD S (hIzp a b) (dIzp a' b') :=
  { it := fun s E e l re => (ha.ex s E e l re).seq l fun s1 x v n1 rx => (hb.ex s1 E e n1.lk (re.nx n1)).seq n1.lk fun s2 y w n2 ry => SimR.nx (by
      unfold izpH
      split
      · obtain ⟨a, vs, rfl, g, r⟩ := RV.fl.mp (n2.rv rx)
        obtain ⟨b, ws, rfl, g2, r2⟩ := RV.fl.mp ry
        simp only [izpV, n2.lk.fz _ _ g, n2.lk.fz _ _ g2, ← r.len, ← r2.len]
        exact .ret (.refl n2.lk) ⟨⟨its_zip g r g2 r2, rfl⟩, fun n ks z => nomatch z⟩
      · trivial) }
theorem d_tn {i : Nat} : SimD S (hTn i) (dTn i) := { tg := fun s E e x v l re rx => .ret (.refl l) (re.set i rx) }
theorem d_tt {n : Nat} {a : HD} {a' : Den} (ha : SimD S a a') : SimD S (hTt n a) (dTt n a') :=
  { tg := fun s E e x v l re rx => by
      show SimR S s (match x with | .ft xs => if xs.length = n then nxH (a.tgs xs E s.h) else .no | _ => .no) (match tupOf s.H v with | some xs => if xs.length = n then noEx (a'.tgs xs e s.H) else .no | none => .no) _
      split
      · rename_i xs
        obtain ⟨b, vs, rfl, g, r⟩ := RV.ft.mp rx
        simp only [tupOf, l.fz _ _ g, ← r.len]
        split
        · exact (ha.tgs s E e xs vs l re r).nx
        · trivial
      · trivial }
theorem d_tf {T : Tb} {f : Str} {a : HD} {a' : Den} (ha : SimD S a a') : SimD S (hTf T a f) (dTf T a' f) :=
  { tg := fun s E e x v l re rx => (ha.ex s E e l re).seq l fun s1 y w n1 ry => (sim_setF n1.lk ry (n1.rv rx)).nx.seq n1.lk fun s2 _ _ n2 _ => .ret (.refl n2.lk) (re.nx (n1.trans n2)) }
theorem d_ts {a b : HD} {a' b' : Den} (ha : SimD S a a') (hb : SimD S b b') : SimD S (hTs a b) (dTs a' b') :=
  { tg := fun s E e x v l re rx => (ha.ex s E e l re).seq l fun s1 y w n1 ry => (hb.ex s1 E e n1.lk (re.nx n1)).seq n1.lk fun s2 z u n2 rz =>
      (sim_set n2.lk (n2.rv ry) rz ((n1.trans n2).rv rx)).nx.seq n2.lk fun s3 _ _ n3 _ => .ret (.refl n3.lk) (re.nx (n1.trans (n2.trans n3))) }
theorem d_sex {a : HD} {a' : Den} (ha : SimD S a a') : SimD S (hSex a) (dSex a') :=
  { st := fun s E e l re => SimS.seqT (ha.ex s E e l re) l re fun s1 x v n1 rx => SimS.ret (.refl n1.lk) (f := .nx) (f' := .nx) trivial (re.nx n1) }
theorem d_sas {t a : HD} {t' a' : Den} (ht : SimD S t t') (ha : SimD S a a') : SimD S (hSas t a) (dSas t' a') :=
  { st := fun s E e l re => SimS.seqT (ha.ex s E e l re) l re fun s1 x v n1 rx => SimS.seqT (ht.tg s1 E e x v n1.lk (re.nx n1) rx) n1.lk (re.nx n1) fun s2 E1 e1 n2 re2 => SimS.ret (.refl n2.lk) (f := .nx) (f' := .nx) trivial re2 }
theorem d_spar {is : List Nat} {a : HD} {a' : Den} (ha : SimD S a a') : SimD S (hSpar is a) (dSpar is a') :=
  { st := fun s E e l re => SimS.seqT (ha.xs s E e l re) l re fun s1 xs vs n1 rx => by
      cases g : setAllH E is xs with
      | none => trivial
      | some E1 =>
        obtain ⟨e1, ev, re1⟩ := (re.nx n1).setAll rx g
        rw [ev]
        exact SimS.ret (.refl n1.lk) (f := .nx) (f' := .nx) trivial re1 }
theorem d_aug {i : Nat} {a : HD} {a' : Den} (ha : SimD S a a') : SimD S (hAug i a) (dAug i a') :=
  { st := fun s E e l re => by
      show SimS S s (match getH E i with | some (.int x) => _ | _ => .no) (match getV e i with | some (.int x) => _ | _ => .no)
      split
      · rename_i x g
        obtain ⟨v, ev, rv⟩ := re.get g
        rw [ev, RV.int.mp rv]
        exact SimS.seqT (ha.ex s E e l re) l re fun s1 y w n1 ry => by
          split
          · rw [RV.int.mp ry]
            exact SimS.ret (.refl n1.lk) (f := .nx) (f' := .nx) trivial ((re.nx n1).set i (RV.int.mpr rfl))
          · trivial
      · trivial }
theorem d_ret {a : HD} {a' : Den} (ha : SimD S a a') : SimD S (hRet a) (dRet a') :=
  { st := fun s E e l re => SimS.seqT (ha.ex s E e l re) l re fun s1 x v n1 rx => SimS.ret (.refl n1.lk) (f := .rt x) (f' := .rt v) rx (re.nx n1) }
theorem d_retn : SimD S hRetn dRetn := { st := fun s E e l re => SimS.ret (.refl l) (f := .rt .non) (f' := .rt .non) ((RV.non (S := S) (s := s) (v := .non)).mpr rfl) re }
theorem d_sif {c a b : HD} {c' a' b' : Den} (hc : SimD S c c') (ha : SimD S a a') (hb : SimD S b b') : SimD S (hSif c a b) (dSif c' a' b') :=
  { st := fun s E e l re => SimS.seqT (hc.ts s E e l re) l re fun s1 x y n1 q => by
      cases q
      split
      · exact ha.st s1 E e n1.lk (re.nx n1)
      · exact hb.st s1 E e n1.lk (re.nx n1) }
theorem d_swh {c b : HD} {c' b' : Den} (hc : SimD S c c') (hb : SimD S b b') : SimD S (hSwh c b) (dSwh c' b') :=
  { st := fun s E e l re => sim_wh hc.ts hb.st WHN s E e (.refl l) re }
theorem d_sfor {t i b : HD} {t' i' b' : Den} (ht : SimD S t t') (hi : SimD S i i') (hb : SimD S b b') : SimD S (hSfor t i b) (dSfor t' i' b') :=
  { st := fun s E e l re => SimS.seqT (hi.it s E e l re) l re fun s1 q p n1 rq => sim_for ht.tg hb.st n1.lk (re.nx n1) rq.1 }
theorem d_nx : SimD S hSpass dSpass := { st := fun s E e l re => SimS.ret (.refl l) (f := .nx) (f' := .nx) trivial re }
theorem d_ct : SimD S hScont dScont := { st := fun s E e l re => SimS.ret (.refl l) (f := .ct) (f' := .ct) trivial re }
theorem d_bk : SimD S hSbrk dSbrk := { st := fun s E e l re => SimS.ret (.refl l) (f := .bk) (f' := .bk) trivial re }
theorem d_raise {c : Nat} : SimD S (hSraise c) (dSraise c) := { st := fun s E e l re => ⟨e, s, rfl, rfl, .refl l, re⟩ }
theorem d_try {T : Tb} {c : Nat} {a b : HD} {a' b' : Den} (ha : SimD S a a') (hb : SimD S b b') : SimD S (hStry T a c b) (dStry T a' c b') :=
  { st := fun s E e l re => by
      have h := ha.st s E e l re
      show SimS S s (match a.st E s.h with
        | .ok f e h => .ok f e h
        | .ex k e h => (match T.clss[k]? with | some t => if t.mro.contains c then b.st e h else .ex k e h | none => .no)
        | .no => .no) (match a'.st e s.H with
        | .ok f e h => .ok f e h
        | .ex k e h => (match T.clss[k]? with | some t => if t.mro.contains c then b'.st e h else .ex k e h | none => .no)
        | .no => .no)
      cases q : a.st E s.h with
      | ok f E1 h1 =>
        rw [q] at h
        obtain ⟨f', e', s', e1, e2, n, r⟩ := h
        rw [e1]
        exact ⟨f', e', s', rfl, e2, n, r⟩
      | ex k E1 h1 =>
        rw [q] at h
        obtain ⟨e', s', e1, rfl, n, r⟩ := h
        rw [e1]
        dsimp only
        split
        · split
          · exact (hb.st s' E1 e' n.lk r).lift n
          · exact ⟨e', s', rfl, rfl, n, r⟩
        · trivial
      | no => trivial }
theorem d_scons {a b : HD} {a' b' : Den} (ha : SimD S a a') (hb : SimD S b b') : SimD S (hScons a b) (dScons a' b') :=
  { st := fun s E e l re => (ha.st s E e l re).bind (.refl l) fun s1 f f' E1 e1 n1 rf re1 => by
      cases f <;> cases f' <;> first | exact (hb.st s1 E1 e1 n1.lk re1).lift n1 | exact rf.elim | exact SimS.ret n1 rf re1 }
theorem d_mu {a : HD} {a' : Den} (ha : SimD S a a') : SimD S (hMut a) a' := { ex := ha.mx }
theorem d_pu {a : HD} {a' : Den} (ha : SimD S a a') : SimD S (hPur a) a' := { ex := ha.px, ts := ha.pt }
section
variable {T : Tb} {call : HC} {cl : Nat → List OV → OH → R OV}
theorem hden_sim (hc : CallS S call cl) (a : A) : SimD S (hden T call a) (den T cl a) := by
  induction a with
  | non => exact d_non
  | bl b => exact d_bl
  | int i => exact d_int
  | str x => exact d_str
  | var i => exact d_var
  | gc x v => exact d_gc
  | bin op a b ia ib => exact d_bin ia ib
  | neg a ia => exact d_neg ia
  | not a ia => exact d_not ia
  | cmp op a b ia ib => exact d_cmp ia ib
  | chain o1 o2 a b c ia ib ic => exact d_chain ia ib ic
  | and a b ia ib => exact d_and ia ib
  | or a b ia ib => exact d_or ia ib
  | ife t a b it ia ib => exact d_ife it ia ib
  | lst es i => exact d_lst i
  | tup es i => exact d_tup i
  | dct ks es i => exact d_dct i
  | ix a b ia ib => exact d_ix ia ib
  | sl a lo hi ia il ih => exact d_sl ia il ih
  | rev a ia => exact d_rev ia
  | fld a f ia => exact d_fld ia
  | call f es i => exact d_call hc i
  | make c es i => exact d_make hc i
  | meth a ms m es ia i => exact d_meth hc ia i
  | bf b es i => exact d_bf i
  | bm a m es ia i => exact d_bm ia i
  | isi a c ia => exact d_isi ia
  | sset a ia => exact d_sset ia
  | lset a ia => exact d_lset ia
  | comp e t it c own ie it' ii ic => exact d_comp ie it' ii ic
  | nil => exact d_nil
  | cons a b ia ib => exact d_cons ia ib
  | iex a ia => exact d_iex ia
  | ikv i => exact d_ikv
  | ir1 a ia => exact d_ir1 ia
  | ir2 a b ia ib => exact d_ir2 ia ib
  | ien a ia => exact d_ien ia
  | izp a b ia ib => exact d_izp ia ib
  | tn i => exact d_tn
  | tt n ts i => exact d_tt i
  | tf a f ia => exact d_tf ia
  | ts a i ia ii => exact d_ts ia ii
  | sex e i => exact d_sex i
  | sas t e it ie => exact d_sas it ie
  | spar is es i => exact d_spar i
  | aug i e ie => exact d_aug ie
  | ret e i => exact d_ret i
  | retn => exact d_retn
  | sif c a b ic ia ib => exact d_sif ic ia ib
  | swh c b ic ib => exact d_swh ic ib
  | sfor t it b it' ii ib => exact d_sfor it' ii ib
  | spass => exact d_nx
  | scont => exact d_ct
  | sbrk => exact d_bk
  | sraise c => exact d_raise
  | stry b c s ib is => exact d_try ib is
  | sno => exact simD_no
  | snil => exact d_nx
  | scons a b ia ib => exact d_scons ia ib
  | mu a ia => exact d_mu ia
  | pu a ia => exact d_pu ia
end
theorem start_re {s : Sg} {F : FT} {xs : List HV} {vs : List OV} (r : RVs S s xs vs) : RE S s (startH F xs) (startE F vs) := by
  unfold startH startE
  rw [r.len]
  refine All2.app (All2.mp (fun x v h a ea => ?_) r) (All2.repl (fun a ea => ?_) _)
  · cases ea; exact ⟨v, rfl, h⟩
  · cases ea
theorem out_sim {s : Sg} {x : HS} {y : RS} (o : SimS S s x y) : SimR S s (outH x) (outR y) (RVP S) := by
  cases x with
  | ok f E h' =>
    obtain ⟨f', e', s', rfl, rfl, n, rf, re⟩ := o
    cases f with
    | nx => cases f' <;> first | exact .ret n (RV.non.mpr rfl) | exact rf.elim
    | rt v =>
      cases f' with
      | rt w => exact .ret n rf
      | _ => exact rf.elim
    | bk => trivial
    | ct => trivial
  | ex c E h' =>
    obtain ⟨e', s', rfl, rfl, n, re⟩ := o
    exact ⟨s', rfl, rfl, n⟩
  | no => trivial
theorem call_sim {T : Tb} : ∀ k, CallS S (hcall T k) (callN T k)
  | 0 => fun _ _ _ _ _ _ => trivial
  | k + 1 => fun s f xs vs l r => by
    show SimR S s (match T.funs[f]? with | some F => if xs.length = F.np then outH ((hden T (hcall T k) F.body).st (startH F xs) s.h) else .no | none => .no)
      (match T.funs[f]? with | some F => if vs.length = F.np then outR ((den T (callN T k) F.body).st (startE F vs) s.H) else .no | none => .no) _
    cases T.funs[f]? with
    | none => trivial
    | some F =>
      dsimp only
      rw [r.len]
      split
      · exact out_sim ((hden_sim (call_sim k) F.body).st s _ _ l (start_re r))
      · trivial
/-- the law's run in the first semantics, from its run in the second -/
theorem law_sim {T : Tb} {k f : Nat} {ns : List Int} {hh : HH} (e : hcall T k f [.sc ns] [] = .ok (.bl true) hh) : ∃ h, callN T k f [.scr] (h0 ns) = .ok (.bl true) h := by
  have l : Lk ns ⟨fun i => i, fun _ => none, [], h0 ns⟩ := ⟨rfl, fun a o e => (by cases e), fun i o e => (by simp at e), fun i j h => absurd h (Nat.not_lt_zero _), fun a _ => rfl⟩
  have := call_sim (S := ns) (T := T) k ⟨fun i => i, fun _ => none, [], h0 ns⟩ f [.sc ns] [.scr] l ⟨RV.sc.mpr ⟨rfl, rfl⟩, trivial⟩
  dsimp only at this
  rw [e] at this
  obtain ⟨b, s', e1, _, _, r⟩ := this
  rw [RV.bl.mp r] at e1
  exact ⟨_, e1⟩
end
end MH

end
section
set_option linter.all false
set_option maxRecDepth 100000
/-! MHEq: the second semantics, a rewriting rule a construct. -/
namespace MH
open MP PySem
/-- not by computation (the kernel is not to compare what stands around) -/
theorem nr {α : Type} {a b : α} (h : a = b) : a = b := h
def seqS (x : HS) (k : HE → HH → HS) : HS := x.bind fun f e h => match f with | .nx => k e h | _ => .ok f e h
section
variable {T : Tb} {c : HC} {e : HE} {h : HH} {a b d t es : A} {i : Nat} {x : Str}
/-! expressions -/
theorem ex_non : (hden T c .non).ex e h = .ok .non h := nr rfl
theorem ex_bl {v : Bool} : (hden T c (.bl v)).ex e h = .ok (.bl v) h := nr rfl
theorem ex_int {v : Int} : (hden T c (.int v)).ex e h = .ok (.int v) h := nr rfl
theorem ex_str {v : Str} : (hden T c (.str v)).ex e h = .ok (.str v) h := nr rfl
theorem ex_var : (hden T c (.var i)).ex e h = HR.of (getH e i) h := nr rfl
theorem ex_gc {v : OV} : (hden T c (.gc x v)).ex e h = HR.of (cvH v) h := nr rfl
theorem ex_bin {op : BOp} : (hden T c (.bin op a b)).ex e h = ((hden T c a).ex e h).bind fun x h => ((hden T c b).ex e h).bind fun y h => nxH (binH false op x y h) := nr rfl
theorem mx_bin {op : BOp} : (hden T c (.bin op a b)).mx e h = ((hden T c a).ex e h).bind fun x h => ((hden T c b).ex e h).bind fun y h => nxH (binH true op x y h) := nr rfl
theorem ex_neg : (hden T c (.neg a)).ex e h = ((hden T c a).ex e h).bind fun x h => nxH (negH x h) := nr rfl
theorem ex_not : (hden T c (.not a)).ex e h = boolH ((hden T c a).ex e h) fun b h => .ok (.bl (!b)) h := nr rfl
theorem ts_not : (hden T c (.not a)).ts e h = ((hden T c a).ts e h).bind fun b h => .ok (!b) h := nr rfl
theorem ex_cmp {op : COp} : (hden T c (.cmp op a b)).ex e h = ((hden T c a).ex e h).bind fun x h => ((hden T c b).ex e h).bind fun y h => nxH (cmpR op x y h) := nr rfl
theorem ex_chain {o1 o2 : COp} : (hden T c (.chain o1 o2 a b d)).ex e h = ((hden T c a).ex e h).bind fun x h => ((hden T c b).ex e h).bind fun y h => boolH (nxH (cmpR o1 x y h)) fun k h => if k = true then ((hden T c d).ex e h).bind fun z h => nxH (cmpR o2 y z h) else .ok (.bl false) h := nr rfl
theorem ex_and : (hden T c (.and a b)).ex e h = boolH ((hden T c a).ex e h) fun k h => if k = true then (hden T c b).ex e h else .ok (.bl false) h := nr rfl
theorem ts_and : (hden T c (.and a b)).ts e h = ((hden T c a).ts e h).bind fun k h => if k = true then (hden T c b).ts e h else .ok false h := nr rfl
theorem ex_or : (hden T c (.or a b)).ex e h = boolH ((hden T c a).ex e h) fun k h => if k = true then .ok (.bl true) h else (hden T c b).ex e h := nr rfl
theorem ts_or : (hden T c (.or a b)).ts e h = ((hden T c a).ts e h).bind fun k h => if k = true then .ok true h else (hden T c b).ts e h := nr rfl
theorem ex_ife : (hden T c (.ife t a b)).ex e h = ((hden T c t).ts e h).bind fun k h => if k = true then (hden T c a).ex e h else (hden T c b).ex e h := nr rfl
theorem mx_ife : (hden T c (.ife t a b)).mx e h = ((hden T c t).ts e h).bind fun k h => if k = true then (hden T c a).mx e h else (hden T c b).mx e h := nr rfl
theorem ex_lst : (hden T c (.lst es)).ex e h = ((hden T c es).xs e h).bind fun xs h => nxH (mkLsH false xs h) := nr rfl
theorem mx_lst : (hden T c (.lst es)).mx e h = ((hden T c es).xs e h).bind fun xs h => nxH (mkLsH true xs h) := nr rfl
theorem ex_tup : (hden T c (.tup es)).ex e h = ((hden T c es).xs e h).bind fun xs h => nxH (mkTupH xs h) := nr rfl
theorem ex_dct {ks : List Str} : (hden T c (.dct ks es)).ex e h = if ks.length ≤ 15 then ((hden T c es).xs e h).bind fun xs h => nxH (dctR false ks xs h) else .no := nr rfl
theorem mx_dct {ks : List Str} : (hden T c (.dct ks es)).mx e h = if ks.length ≤ 15 then ((hden T c es).xs e h).bind fun xs h => nxH (dctR true ks xs h) else .no := nr rfl
theorem ex_ix : (hden T c (.ix a b)).ex e h = ((hden T c a).ex e h).bind fun x h => ((hden T c b).ex e h).bind fun y h => nxH (ixH x y h) := nr rfl
theorem ex_sl : (hden T c (.sl a b d)).ex e h = ((hden T c a).ex e h).bind fun x h => ((hden T c b).op e h).bind fun i h => ((hden T c d).op e h).bind fun j h => nxH (slH false x i j h) := nr rfl
theorem mx_sl : (hden T c (.sl a b d)).mx e h = ((hden T c a).ex e h).bind fun x h => ((hden T c b).op e h).bind fun i h => ((hden T c d).op e h).bind fun j h => nxH (slH true x i j h) := nr rfl
theorem ex_rev : (hden T c (.rev a)).ex e h = ((hden T c a).ex e h).bind fun x h => nxH (revH false x h) := nr rfl
theorem ex_fld : (hden T c (.fld a x)).ex e h = ((hden T c a).ex e h).bind fun v h => nxH (fldH T v x h) := nr rfl
theorem ex_call {f : Nat} : (hden T c (.call f es)).ex e h = ((hden T c es).xs e h).bind fun xs h => c f xs h := nr rfl
theorem ex_pcall {f : Nat} : (hden T c (.pu (.call f es))).ex e h = ((hden T c es).xs e h).bind fun xs h => pcH c f xs h := nr rfl
theorem ts_pcall {f : Nat} : (hden T c (.pu (.call f es))).ts e h = tsR (((hden T c es).xs e h).bind fun xs h => pcH c f xs h) := nr rfl
theorem ex_make {f : Nat} : (hden T c (.make f es)).ex e h = ((hden T c es).xs e h).bind fun xs h => nxH (mkInsH T c f xs h) := nr rfl
theorem ex_meth {ms : List (Nat × Nat)} : (hden T c (.meth a ms x es)).ex e h = ((hden T c a).ex e h).bind fun v h => match pickH h x v ms with
    | some f => ((hden T c es).xs e h).bind fun xs h => c f (v :: xs) h
    | none => .no := nr rfl
theorem ex_pmeth {ms : List (Nat × Nat)} : (hden T c (.pu (.meth a ms x es))).ex e h = ((hden T c a).ex e h).bind fun v h => match pickH h x v ms with
    | some f => ((hden T c es).xs e h).bind fun xs h => pcH c f (v :: xs) h
    | none => .no := nr rfl
theorem ts_pmeth {ms : List (Nat × Nat)} : (hden T c (.pu (.meth a ms x es))).ts e h = tsR (((hden T c a).ex e h).bind fun v h => match pickH h x v ms with
    | some f => ((hden T c es).xs e h).bind fun xs h => pcH c f (v :: xs) h
    | none => .no) := nr rfl
theorem ex_bf {f : BF} : (hden T c (.bf f es)).ex e h = ((hden T c es).xs e h).bind fun xs h => nxH (bfH false f xs h) := nr rfl
theorem mx_bf {f : BF} : (hden T c (.bf f es)).mx e h = ((hden T c es).xs e h).bind fun xs h => nxH (bfH true f xs h) := nr rfl
theorem ex_bm {m : BM} : (hden T c (.bm a m es)).ex e h = ((hden T c a).ex e h).bind fun x h => match rcvH x h with
    | some k => if okKind m k = true then ((hden T c es).xs e h).bind fun xs h => nxH (bmKH k m x xs h) else .no
    | none => .no := nr rfl
theorem ex_isi {k : CI} : (hden T c (.isi a k)).ex e h = ((hden T c a).ex e h).bind fun x h => nxH (isiR T h x k) := nr rfl
theorem ex_sset : (hden T c (.sset a)).ex e h = ((hden T c a).ex e h).bind fun x h => nxH (ssetH false x h) := nr rfl
theorem ex_lset : (hden T c (.lset a)).ex e h = ((hden T c a).ex e h).bind fun x h => nxH (lsetH x h) := nr rfl
theorem ex_comp {own : List Nat} : (hden T c (.comp a t b d own)).ex e h = nxH (((hden T c b).it e h).bind fun s h => (lcH s (hden T c t).tg (hden T c d).ts (hden T c a).ex (wipeH e own) h).bind fun ys h => unlH false s.1 ys h) := nr rfl
theorem mx_comp {own : List Nat} : (hden T c (.comp a t b d own)).mx e h = nxH (((hden T c b).it e h).bind fun s h => (lcH s (hden T c t).tg (hden T c d).ts (hden T c a).ex (wipeH e own) h).bind fun ys h => unlH true s.1 ys h) := nr rfl
theorem ex_mu : (hden T c (.mu a)).ex e h = (hden T c a).mx e h := nr rfl
/-! tests -/
theorem ts_bl {v : Bool} : (hden T c (.bl v)).ts e h = tsR ((hden T c (.bl v)).ex e h) := nr rfl
theorem ts_var : (hden T c (.var i)).ts e h = tsR ((hden T c (.var i)).ex e h) := nr rfl
theorem ts_cmp {op : COp} : (hden T c (.cmp op a b)).ts e h = tsR ((hden T c (.cmp op a b)).ex e h) := nr rfl
theorem ts_chain {o1 o2 : COp} : (hden T c (.chain o1 o2 a b d)).ts e h = tsR ((hden T c (.chain o1 o2 a b d)).ex e h) := nr rfl
theorem ts_ix : (hden T c (.ix a b)).ts e h = tsR ((hden T c (.ix a b)).ex e h) := nr rfl
theorem ts_fld : (hden T c (.fld a x)).ts e h = tsR ((hden T c (.fld a x)).ex e h) := nr rfl
theorem ts_bf {f : BF} : (hden T c (.bf f es)).ts e h = tsR ((hden T c (.bf f es)).ex e h) := nr rfl
theorem ts_bm {m : BM} : (hden T c (.bm a m es)).ts e h = tsR ((hden T c (.bm a m es)).ex e h) := nr rfl
theorem ts_isi {k : CI} : (hden T c (.isi a k)).ts e h = tsR ((hden T c (.isi a k)).ex e h) := nr rfl
theorem ts_nil : (hden T c .nil).ts e h = .ok true h := nr rfl
/-! ends of slices -/
theorem op_nil : (hden T c .nil).op e h = .ok none h := nr rfl
theorem op_int {v : Int} : (hden T c (.int v)).op e h = opR ((hden T c (.int v)).ex e h) := nr rfl
theorem op_var : (hden T c (.var i)).op e h = opR ((hden T c (.var i)).ex e h) := nr rfl
theorem op_neg : (hden T c (.neg a)).op e h = opR ((hden T c (.neg a)).ex e h) := nr rfl
theorem op_bin {op : BOp} : (hden T c (.bin op a b)).op e h = opR ((hden T c (.bin op a b)).ex e h) := nr rfl
/-! lists of expressions, targets, what is walked -/
theorem xs_nil : (hden T c .nil).xs e h = .ok [] h := nr rfl
theorem xs_cons : (hden T c (.cons a b)).xs e h = ((hden T c a).ex e h).bind fun x h => ((hden T c b).xs e h).bind fun xs h => .ok (x :: xs) h := nr rfl
theorem it_iex : (hden T c (.iex a)).it e h = ((hden T c a).ex e h).bind fun x h => nxH (srcH x h) := nr rfl
theorem it_ikv : (hden T c (.ikv i)).it e h = (HR.of (getH e i) h).bind fun x h => nxH (srcKH x h) := nr rfl
theorem it_ir1 : (hden T c (.ir1 a)).it e h = ((hden T c a).ex e h).bind fun x h => nxH (ir1H x h) := nr rfl
theorem it_ir2 : (hden T c (.ir2 a b)).it e h = ((hden T c a).ex e h).bind fun x h => ((hden T c b).ex e h).bind fun y h => nxH (ir2H x y h) := nr rfl
theorem it_ien : (hden T c (.ien a)).it e h = ((hden T c a).ex e h).bind fun x h => nxH (ienH x h) := nr rfl
theorem it_izp : (hden T c (.izp a b)).it e h = ((hden T c a).ex e h).bind fun x h => ((hden T c b).ex e h).bind fun y h => nxH (izpH x y h) := nr rfl
theorem tg_tn {v : HV} : (hden T c (.tn i)).tg v e h = .ok (e.set i (some v)) h := nr rfl
theorem tg_tt {n : Nat} {xs : List HV} : (hden T c (.tt n a)).tg (.ft xs) e h = if xs.length = n then nxH ((hden T c a).tgs xs e h) else .no := nr rfl
theorem tg_tf {v : HV} : (hden T c (.tf a x)).tg v e h = ((hden T c a).ex e h).bind fun y h => (nxH (setFH T y x v h)).bind fun _ h => .ok e h := nr rfl
theorem tg_ts {v : HV} : (hden T c (.ts a b)).tg v e h = ((hden T c a).ex e h).bind fun x h => ((hden T c b).ex e h).bind fun y h => (nxH (setH x y v h)).bind fun _ h => .ok e h := nr rfl
theorem tgs_nil : (hden T c .nil).tgs [] e h = .ok e h := nr rfl
theorem tgs_cons {v : HV} {vs : List HV} : (hden T c (.cons a b)).tgs (v :: vs) e h = ((hden T c a).tg v e h).bind fun e h => (hden T c b).tgs vs e h := nr rfl
/-! statements -/
theorem st_sex : (hden T c (.sex a)).st e h = ((hden T c a).ex e h).thenS e fun _ h => .ok .nx e h := nr rfl
theorem st_sas : (hden T c (.sas t a)).st e h = ((hden T c a).ex e h).thenS e fun x h => ((hden T c t).tg x e h).thenS e fun e h => .ok .nx e h := nr rfl
theorem st_spar {is : List Nat} : (hden T c (.spar is a)).st e h = ((hden T c a).xs e h).thenS e fun vs h => match setAllH e is vs with | some e => .ok .nx e h | none => .no := nr rfl
def augS (e : HE) (i : Nat) (o : Option HV) (r : HR HV) : HS := match o with
      | some (.int x) => r.thenS e fun y h => (match y with | .int y => .ok .nx (e.set i (some (.int (x + y)))) h | _ => .no)
      | _ => .no
theorem st_aug : (hden T c (.aug i a)).st e h = augS e i (getH e i) ((hden T c a).ex e h) := nr rfl
theorem st_ret : (hden T c (.ret a)).st e h = ((hden T c a).ex e h).thenS e fun x h => .ok (.rt x) e h := nr rfl
theorem st_retn : (hden T c .retn).st e h = .ok (.rt .non) e h := nr rfl
theorem st_sif : (hden T c (.sif t a b)).st e h = ((hden T c t).ts e h).thenS e fun k h => if k = true then (hden T c a).st e h else (hden T c b).st e h := nr rfl
theorem st_swh : (hden T c (.swh t a)).st e h = whH WHN (hden T c t).ts (hden T c a).st e h := nr rfl
theorem st_sfor : (hden T c (.sfor t a b)).st e h = ((hden T c a).it e h).thenS e fun s h => forH s (hden T c t).tg (hden T c b).st e h := nr rfl
theorem st_spass : (hden T c .spass).st e h = .ok .nx e h := nr rfl
theorem st_snil : (hden T c .snil).st e h = .ok .nx e h := nr rfl
theorem st_scont : (hden T c .scont).st e h = .ok .ct e h := nr rfl
theorem st_sbrk : (hden T c .sbrk).st e h = .ok .bk e h := nr rfl
theorem st_sno : (hden T c .sno).st e h = .no := nr rfl
theorem st_sraise {k : Nat} : (hden T c (.sraise k)).st e h = .ex k e h := nr rfl
theorem st_scons : (hden T c (.scons a b)).st e h = seqS ((hden T c a).st e h) fun e h => (hden T c b).st e h := nr rfl
end
/-! steps -/
section
variable {α β : Type} {v : α} {h : HH} {e : HE} {f : α → HH → HR β} {k : Nat}
theorem bind_ok : (HR.ok v h).bind f = f v h := nr rfl
theorem bind_no : (HR.no : HR α).bind f = .no := nr rfl
theorem bind_ex : (HR.ex k h : HR α).bind f = .ex k h := nr rfl
theorem nx_ok : nxH (HR.ok v h) = .ok v h := nr rfl
theorem then_ok {f : α → HH → HS} : (HR.ok v h).thenS e f = f v h := nr rfl
theorem then_ex {f : α → HH → HS} : (HR.ex k h : HR α).thenS e f = .ex k e h := nr rfl
theorem of_some : HR.of (some v) h = .ok v h := nr rfl
theorem seq_nx {k : HE → HH → HS} : seqS (.ok .nx e h) k = k e h := nr rfl
theorem seq_rt {k : HE → HH → HS} {v : HV} : seqS (.ok (.rt v) e h) k = .ok (.rt v) e h := nr rfl
theorem seq_ct {k : HE → HH → HS} : seqS (.ok .ct e h) k = .ok .ct e h := nr rfl
theorem seq_bk {k : HE → HH → HS} : seqS (.ok .bk e h) k = .ok .bk e h := nr rfl
theorem seq_ex {k : HE → HH → HS} {c : Nat} : seqS (.ex c e h) k = .ex c e h := nr rfl
theorem seq_no {k : HE → HH → HS} : seqS .no k = .no := nr rfl
theorem out_rt {v : HV} : outH (.ok (.rt v) e h) = .ok v h := nr rfl
theorem out_nx : outH (.ok .nx e h) = .ok .non h := nr rfl
theorem out_ex {c : Nat} : outH (.ex c e h) = .ex c h := nr rfl
theorem bool_ok {b : Bool} {f : Bool → HH → HR HV} : boolH (.ok (.bl b) h) f = f b h := nr rfl
theorem ts_ok {v : HV} : tsR (.ok v h) = HR.of (truH h v) h := nr rfl
theorem op_ok {i : Int} : opR (.ok (.int i) h) = .ok (some i) h := nr rfl
theorem cmpR_is {op : COp} {x y : HV} : cmpR op x y h = HR.of ((cmpH op x y h).map .bl) h := nr rfl
theorem isiR_is {T : Tb} {v : HV} {c : CI} : isiR T h v c = HR.of ((isiH T h v c).map .bl) h := nr rfl
theorem get_0 {v : HV} {e : HE} : getH (some v :: e) 0 = some v := nr rfl
theorem get_s {v : Option HV} {e : HE} {i : Nat} : getH (v :: e) (i + 1) = getH e i := nr rfl
theorem set_0 {v w : Option HV} {e : HE} : List.set (v :: e) 0 w = w :: e := nr rfl
theorem set_s {v w : Option HV} {e : HE} {i : Nat} : List.set (v :: e) (i + 1) w = v :: List.set e i w := nr rfl
theorem sets_nil {e : HE} : setAllH e [] [] = some e := nr rfl
theorem sets_cons {e : HE} {i : Nat} {is : List Nat} {v : HV} {vs : List HV} : setAllH e (i :: is) (v :: vs) = setAllH (e.set i (some v)) is vs := nr rfl
theorem wipe_nil {e : HE} : wipeH e [] = e := nr rfl
theorem wipe_cons {e : HE} {i : Nat} {is : List Nat} : wipeH e (i :: is) = (wipeH e is).set i none := nr rfl
theorem tru_bl {b : Bool} : truH h (.bl b) = some b := nr rfl
theorem aug_ok {x y : Int} {i : Nat} : augS e i (some (.int x)) (.ok (.int y) h) = .ok .nx (e.set i (some (.int (x + y)))) h := nr rfl
end
/-! operations -/
section
variable {h : HH} {i j : Int} {mu : Bool} {xs ys : List HV} {x y : Str} {k : Str}
theorem bin_addi : binH mu .add (.int i) (.int j) h = .ok (.int (i + j)) h := nr rfl
theorem bin_subi : binH mu .sub (.int i) (.int j) h = .ok (.int (i - j)) h := nr rfl
theorem bin_muli (q : mulOk i j = true) : binH mu .mul (.int i) (.int j) h = .ok (.int (i * j)) h := if_pos q
theorem bin_modi (q : 0 < j) : binH mu .mod (.int i) (.int j) h = .ok (.int (i % j)) h := if_pos q
theorem bin_divi (q : 0 < j ∧ j < 1073741824) : binH mu .fdiv (.int i) (.int j) h = .ok (.int (i / j)) h := if_pos q
theorem bin_adds (q : x.length + y.length ≤ LIM) : binH mu .add (.str x) (.str y) h = .ok (.str (x ++ y)) h := if_pos q
theorem bin_addl (q : xs.length + ys.length ≤ LIM) : binH false .add (.fl xs) (.fl ys) h = .ok (.fl (xs ++ ys)) h := if_pos q
theorem lst_fl : lstH h (.fl xs) = some xs := nr rfl
theorem seq_fl : seqH h (.fl xs) = some xs := nr rfl
theorem seq_ft : seqH h (.ft xs) = some xs := nr rfl
theorem cmp_lti : cmpH .lt (.int i) (.int j) h = some (decide (i < j)) := nr rfl
theorem cmp_lei : cmpH .le (.int i) (.int j) h = some (decide (i ≤ j)) := nr rfl
theorem cmp_gti : cmpH .gt (.int i) (.int j) h = some (decide (j < i)) := nr rfl
theorem cmp_gei : cmpH .ge (.int i) (.int j) h = some (decide (j ≤ i)) := nr rfl
theorem cmp_lts : cmpH .lt (.str x) (.str y) h = some (strLt x y) := nr rfl
theorem cmp_eq {v w : HV} : cmpH .eq v w h = eqH h v w := nr rfl
theorem cmp_ne {v w : HV} : cmpH .ne v w h = (eqH h v w).map (!·) := nr rfl
theorem cmp_in {v w : HV} : cmpH .isin v w h = inH h v w := nr rfl
theorem cmp_nin {v w : HV} : cmpH .nin v w h = (inH h v w).map (!·) := nr rfl
theorem cmp_is {v w : HV} : cmpH .is v w h = isH v w := nr rfl
theorem cmp_isn {v w : HV} : cmpH .isn v w h = (isH v w).map (!·) := nr rfl
theorem omap_some {α β : Type} {f : α → β} {v : α} : Option.map f (some v) = some (f v) := nr rfl
theorem ix_ft : ixH (.ft xs) (.int i) h = HR.of (L2.atI xs i) h := nr rfl
theorem ix_fl : ixH (.fl xs) (.int i) h = HR.of (L2.atI xs i) h := nr rfl
theorem ix_fd {b : Bool} {kvs : List (Str × HV)} : ixH (.fd b kvs) (.str k) h = HR.of (lookK kvs k) h := nr rfl
theorem len_fl : bfH mu .len [.fl xs] h = .ok (.int xs.length) h := nr rfl
theorem len_ft : bfH mu .len [.ft xs] h = .ok (.int xs.length) h := nr rfl
theorem len_ft2 {a b : HV} : bfH mu .len [.ft [a, b]] h = .ok (.int 2) h := nr rfl
theorem len_ft3 {a b c : HV} : bfH mu .len [.ft [a, b, c]] h = .ok (.int 3) h := nr rfl
theorem len_str (q : x.length ≤ LIM) : bfH mu .len [.str x] h = .ok (.int x.length) h := if_pos q
theorem len_sc {ns : List Int} : bfH mu .len [.sc ns] h = .ok (.int ns.length) h := nr rfl
theorem mkLs_f (q : xs.length ≤ LIM) : mkLsH false xs h = .ok (.fl xs) h := if_pos q
theorem mkLs_m (q : xs.length ≤ LIM) : mkLsH true xs h = .ok (.ref h.length) (h ++ [.lst xs]) := if_pos q
theorem mkTup_is (q : xs.length ≤ LIM) : mkTupH xs h = .ok (.ft xs) h := if_pos q
theorem src_fl : srcH (.fl xs) h = .ok (.its xs, xs.length) h := nr rfl
theorem src_ft : srcH (.ft xs) h = .ok (.its xs, xs.length) h := nr rfl
theorem srck_fl : srcKH (.fl xs) h = .ok (.its xs, xs.length) h := nr rfl
theorem srck_str : srcKH (.str x) h = .ok (.its (x.cps.toList.map fun c => .str ⟨#[c]⟩), x.cps.toList.length) h := nr rfl
theorem lc_its {n : Nat} {tg : HV → HE → HH → HR HE} {c : HE → HH → HR Bool} {m : HE → HH → HR HV} {e : HE} : lcH (.its xs, n) tg c m e h = lcI tg c m e xs h := nr rfl
theorem for_its {n : Nat} {tg : HV → HE → HH → HR HE} {b : HE → HH → HS} {e : HE} : forH (.its xs, n) tg b e h = forI tg b xs e h := nr rfl
theorem unl_its (q : ys.length ≤ LIM) : unlH false (.its xs) ys h = .ok (.fl ys) h := if_pos q
theorem ite_tt {α : Type} {a b : α} : (if true = true then a else b) = a := nr rfl
theorem ite_ff {α : Type} {a b : α} : (if false = true then a else b) = b := nr rfl
theorem ite_and {b c : Bool} : (if b = true then HR.ok (HV.bl c) h else .ok (.bl false) h) = .ok (.bl (b && c)) h := by cases b <;> rfl
theorem ite_or {b c : Bool} : (if b = true then HR.ok (HV.bl true) h else .ok (.bl c) h) = .ok (.bl (b || c)) h := by cases b <;> rfl
theorem ite_andt {b c : Bool} : (if b = true then HR.ok c h else .ok false h) = .ok (b && c) h := by cases b <;> rfl
theorem ite_ort {b c : Bool} : (if b = true then HR.ok true h else .ok c h) = .ok (b || c) h := by cases b <;> rfl
theorem isi_ss {T : Tb} : isiH T h (.str x) .str = some true := nr rfl
theorem isi_ll {T : Tb} : isiH T h (.fl xs) .lst = some true := nr rfl
theorem isi_tt {T : Tb} : isiH T h (.ft xs) .tup = some true := nr rfl
theorem isi_ii {T : Tb} : isiH T h (.int i) .int = some true := nr rfl
theorem isi_ib {T : Tb} : isiH T h (.int i) .bool = some false := nr rfl
theorem isi_bb {T : Tb} {b : Bool} : isiH T h (.bl b) .bool = some true := nr rfl
theorem cv_int : cvH (.int i) = some (.int i) := nr rfl
theorem cv_str : cvH (.str x) = some (.str x) := nr rfl
theorem eq_strs (hx : okS x = true) (hy : okS y = true) : eqH h (.str x) (.str y) = some (strEq x y) := by
  show (if okS x && okS y then some (strEq x y) else none) = _
  rw [hx, hy]; rfl
theorem atI_nat {α : Type} (l : List α) (n : Nat) : L2.atI l (n : Int) = l[n]? := by
  unfold L2.atI L2.ixN
  rw [if_pos (Int.natCast_nonneg n)]
  by_cases q : n < l.length
  · rw [if_pos (by omega)]; simp
  · rw [if_neg (by omega), List.getElem?_eq_none (by omega)]; rfl
theorem atI_0 {α : Type} {a : α} {l : List α} : L2.atI (a :: l) 0 = some a := atI_nat (a :: l) 0
theorem atI_1 {α : Type} {a b : α} {l : List α} : L2.atI (a :: b :: l) 1 = some b := atI_nat (a :: b :: l) 1
theorem atI_2 {α : Type} {a b c : α} {l : List α} : L2.atI (a :: b :: c :: l) 2 = some c := atI_nat (a :: b :: c :: l) 2
end
end MH

end
section
set_option linter.all false
set_option maxRecDepth 100000
/-! MW1: pure calls, comprehensions and loops that change nothing; words, entries, books as trees. -/
namespace MH
open MP PySem
/-- a call for itself: of these trees this tree comes, in whatever heap -/
def PV (T : Tb) (n f : Nat) (args : List HV) (v : HV) : Prop := ∀ k, n ≤ k → ∃ r h1, hcall T k f args [] = .ok r h1 ∧ vw VD h1 r = some v
theorem vw_rf {k : Nat} {h : HH} {x : HV} (f : rf x = true) : vw k h x = some x := by
  cases k <;> (unfold vw; rw [f]; rfl)
theorem PV.mono {T : Tb} {n m f : Nat} {args : List HV} {v : HV} (p : PV T n f args v) (l : n ≤ m) : PV T m f args v := fun k hk => p k (Nat.le_trans l hk)
theorem PV.mk {T : Tb} {n f : Nat} {args : List HV} {v : HV} {g : Nat → HH} (r : rf v = true) (p : ∀ k, n ≤ k → hcall T (k + 1) f args [] = .ok v (g k)) : PV T (n + 1) f args v := fun k hk => by
  obtain ⟨j, rfl⟩ : ∃ j, k = j + 1 := ⟨k - 1, by omega⟩
  exact ⟨v, _, p j (by omega), vw_rf r⟩
theorem PV.mk2 {T : Tb} {n f : Nat} {args : List HV} {v : HV} (p : ∀ k, n ≤ k → ∃ r h1, hcall T (k + 1) f args [] = .ok r h1 ∧ vw VD h1 r = some v) : PV T (n + 1) f args v := fun k hk => by
  obtain ⟨j, rfl⟩ : ∃ j, k = j + 1 := ⟨k - 1, by omega⟩
  exact p j (by omega)
theorem pc_of {T : Tb} {n k f : Nat} {xs ys : List HV} {v : HV} {h : HH} (p : PV T n f ys v) (l : n ≤ k) (a : allV h xs = some ys) (q : (xs.all rf || flatH v) = true) : pcH (hcall T k) f xs h = .ok v h := by
  obtain ⟨r, h1, e1, e2⟩ := p k l
  unfold pcH
  rw [a]
  dsimp only
  rw [e1]
  dsimp only
  rw [e2]
  dsimp only
  rw [q]; rfl
theorem allV_is {h : HH} : ∀ {xs : List HV}, xs.all rf = true → allV h xs = some xs
  | [], _ => rfl
  | x :: xs, f => by
    rw [List.all_cons, Bool.and_eq_true] at f
    unfold allV
    simp only [mapO]
    rw [vw_rf f.1]
    have := allV_is (h := h) f.2
    unfold allV at this
    rw [this]
/-- of trees -/
theorem pc_t {T : Tb} {n k f : Nat} {xs : List HV} {v : HV} {h : HH} (p : PV T n f xs v) (l : n ≤ k) (r : xs.all rf = true) : pcH (hcall T k) f xs h = .ok v h :=
  pc_of p l (allV_is r) (by rw [r]; rfl)

/-! ### comprehensions and loops that leave the heap as it is -/
section
variable {α : Type} {tg : HV → HE → HH → HR HE} {c : HE → HH → HR Bool} {m : HE → HH → HR HV} {e : HE} {h : HH}
theorem lcI_map (f : α → HV) (p : α → Bool) (g : α → HV) : ∀ (l : List α), (∀ a ∈ l, ∃ e1, tg (f a) e h = .ok e1 h ∧ c e1 h = .ok (p a) h ∧ (p a = true → m e1 h = .ok (g a) h)) → lcI tg c m e (l.map f) h = .ok ((l.filter p).map g) h
  | [], _ => rfl
  | a :: l, k => by
    obtain ⟨e1, h1, h2, h3⟩ := k a (List.mem_cons_self ..)
    have ih := lcI_map f p g l fun b hb => k b (List.mem_cons_of_mem _ hb)
    simp only [List.map_cons, lcI, h1, h2, bind_ok]
    cases q : p a with
    | true => simp only [if_true, h3 q, bind_ok, ih, List.filter_cons, q, List.map_cons]
    | false => simp only [Bool.false_eq_true, if_false, ih, List.filter_cons, q]
theorem lcI_all (f : α → HV) (g : α → HV) (l : List α) (k : ∀ a ∈ l, ∃ e1, tg (f a) e h = .ok e1 h ∧ c e1 h = .ok true h ∧ m e1 h = .ok (g a) h) : lcI tg c m e (l.map f) h = .ok (l.map g) h := by
  have := lcI_map f (fun _ => true) g l fun a ha => let ⟨e1, h1, h2, h3⟩ := k a ha; ⟨e1, h1, h2, fun _ => h3⟩
  rw [this, List.filter_eq_self.mpr fun _ _ => rfl]
theorem lcI_pure (g : HV → HV) (l : List HV) (k : ∀ a ∈ l, ∃ e1, tg a e h = .ok e1 h ∧ c e1 h = .ok true h ∧ m e1 h = .ok (g a) h) : lcI tg c m e l h = .ok (l.map g) h := by
  have := lcI_all (tg := tg) (c := c) (m := m) (e := e) (h := h) (fun a => a) g l k
  rwa [List.map_id'] at this
/-- a loop by an invariant of the environment and the heap -/
theorem forI_inv {b : HE → HH → HS} (P : Nat → HE → HH → Prop) : ∀ (l : List HV) (i : Nat) (e : HE) (h : HH), P i e h →
    (∀ j x e h, l[j]? = some x → P (i + j) e h → ∃ e1 h1 e2 h2, tg x e h = .ok e1 h1 ∧ b e1 h1 = .ok .nx e2 h2 ∧ P (i + j + 1) e2 h2) → ∃ e' h', forI tg b l e h = .ok .nx e' h' ∧ P (i + l.length) e' h'
  | [], i, e, h, p, _ => ⟨e, h, rfl, p⟩
  | x :: l, i, e, h, p, k => by
    obtain ⟨e1, h1, e2, h2, a1, a2, p2⟩ := k 0 x e h rfl p
    obtain ⟨e', h', r, p'⟩ := forI_inv P l (i + 1) e2 h2 p2 fun j y e h hj pj => by
      have := k (j + 1) y e h hj (by rw [show i + (j + 1) = i + 1 + j by omega]; exact pj)
      rw [show i + (j + 1) + 1 = i + 1 + j + 1 by omega] at this
      exact this
    refine ⟨e', h', ?_, by rw [List.length_cons, show i + (l.length + 1) = i + 1 + l.length by omega]; exact p'⟩
    simp only [forI, a1, then_ok, a2, HS.bind]
    exact r
end
/-! ### plain lists -/
theorem strsH_map (l : List Str) : strsH (l.map HV.str) = some l := by
  induction l with
  | nil => rfl
  | cons x l ih => simp [strsH, ih]
theorem boolsH_map {α : Type} (g : α → Bool) (l : List α) : boolsH (l.map fun a => HV.bl (g a)) = some (l.map g) := by
  induction l with
  | nil => rfl
  | cons x l ih => simp [boolsH, ih]
theorem flat_strs (l : List Str) : (l.map HV.str).all flatH = true := by
  induction l with
  | nil => rfl
  | cons x l ih => simp [flatH]
theorem any_strs (x : Str) (l : List Str) : (l.map HV.str).any (fun y => eqFH y (.str x)) = l.any (fun y => strEq y x) := by
  induction l with
  | nil => rfl
  | cons y l ih => rw [List.map_cons, List.any_cons, List.any_cons, ih]; rfl
theorem in_strs {h : HH} (x : Str) (l : List Str) : inH h (.str x) (.fl (l.map .str)) = some (l.any fun y => strEq y x) := by
  show (if flatH (.str x) && (l.map HV.str).all flatH then some ((l.map HV.str).any fun y => eqFH y (.str x)) else none) = _
  rw [flat_strs, any_strs]; rfl
theorem any_strEq (x : Str) (l : List Str) : (l.any fun y => strEq y x) = decide (x ∈ l) := by
  induction l with
  | nil => rfl
  | cons y l ih =>
    rw [List.any_cons, ih, strEq_eq]
    by_cases e : y = x
    · subst e; simp
    · have : ¬ x = y := fun q => e q.symm
      simp [e, this]
theorem rf_strs (l : List Str) : rf (.fl (l.map .str)) = true := by
  rw [rf]; exact rfs_all fun y hy => by
    obtain ⟨x, _, rfl⟩ := List.mem_map.mp hy; rfl
theorem all_bools {h : HH} {mu : Bool} {α : Type} (g : α → Bool) (l : List α) : bfH mu .all [.fl (l.map fun a => HV.bl (g a))] h = .ok (HV.bl (l.all g)) h := by
  show (match (some (l.map fun a => HV.bl (g a))).bind boolsH with | some bs => HR.ok (HV.bl (bs.all id)) h | none => .no) = _
  rw [Option.bind_some, boolsH_map]
  simp [List.all_map]
theorem any_bools {h : HH} {mu : Bool} {α : Type} (g : α → Bool) (l : List α) : bfH mu .any [.fl (l.map fun a => HV.bl (g a))] h = .ok (HV.bl (l.any g)) h := by
  show (match (some (l.map fun a => HV.bl (g a))).bind boolsH with | some bs => HR.ok (HV.bl (bs.any id)) h | none => .no) = _
  rw [Option.bind_some, boolsH_map]
  simp [List.any_map]

/-! ### words, entries, books -/
def lettersS : Str := ⟨#[97, 98, 99, 100, 101, 102, 103, 104, 105, 106, 107, 108, 109, 110, 111, 112, 113, 114, 115, 116, 117, 118, 119, 120, 121, 122]⟩
def isLet (c : Nat) : Bool := lettersS.cps.toList.any (Nat.beq c)
def isTx (x : Str) (lo hi : Int) : Bool := decide (lo ≤ x.length) && decide ((x.length : Int) ≤ hi) && x.cps.toList.all isLet
def isW (x : Str) : Bool := isTx x 1 4
inductive Ent where
  | to (w o : Str)
  | is (w : Str) (ss : List (List Str))
  deriving DecidableEq
def Ent.w : Ent → Str
  | .to w _ => w
  | .is w _ => w
abbrev sTo : Str := ⟨#[116, 111]⟩
abbrev sIs : Str := ⟨#[105, 115]⟩
abbrev encS (s : List Str) : HV := .fl (s.map .str)
def encE : Ent → HV
  | .to w o => .ft [.str w, .str sTo, .str o]
  | .is w ss => .ft [.str w, .str sIs, .fl (ss.map encS)]
abbrev Book := List Ent
def encB (b : Book) : HV := .fl (b.map encE)
theorem rf_encE (x : Ent) : rf (encE x) = true := by
  cases x with
  | to w o => rfl
  | is w ss =>
    have : rf (.fl (ss.map encS)) = true := by
      rw [rf]; exact rfs_all fun y hy => by
        obtain ⟨x, _, rfl⟩ := List.mem_map.mp hy; exact rf_strs x
    simp [encE, rf, rf.rfs, this]
    simpa [rf] using this
theorem rf_encB (b : Book) : rf (encB b) = true := by
  unfold encB
  rw [rf]; exact rfs_all fun y hy => by
    obtain ⟨x, _, rfl⟩ := List.mem_map.mp hy; exact rf_encE x
def okE : Ent → Bool
  | .to w o => isW w && isW o
  | .is w ss => isW w && decide (1 ≤ ss.length) && decide (ss.length ≤ 2) && ss.all fun s => decide (s.length ≤ 3) && s.all isW
def ws (b : Book) : List Str := b.map Ent.w
def rising (l : List Str) : Bool := (l.zip l.tail).all fun p => strLt p.1 p.2
def okB (b : Book) : Bool := decide (b.length ≤ 40) && b.all okE && rising (ws b)
theorem isLet_lt {c : Nat} (h : isLet c = true) : c < 128 := by
  unfold isLet at h
  obtain ⟨y, hy, e⟩ := List.any_eq_true.mp h
  have : c = y := Nat.eq_of_beq_eq_true e
  subst this
  have : ∀ z ∈ lettersS.cps.toList, z < 128 := by decide
  exact this c hy
theorem isW_len {x : Str} (h : isW x = true) : 1 ≤ x.length ∧ x.length ≤ 4 := by
  unfold isW isTx at h
  simp only [Bool.and_eq_true, decide_eq_true_eq] at h
  omega
theorem isW_lim {x : Str} (h : isW x = true) : x.length ≤ LIM := by
  have := isW_len h
  unfold LIM; omega
theorem isW_all {x : Str} (h : isW x = true) : ∀ c ∈ x.cps.toList, isLet c = true := by
  unfold isW isTx at h
  simp only [Bool.and_eq_true, List.all_eq_true] at h
  exact h.2
theorem isW_ok {x : Str} (h : isW x = true) : okS x = true := by
  unfold okS
  rw [List.all_eq_true]
  intro c hc
  have := isLet_lt (isW_all h c hc)
  exact Nat.blt_eq.mpr (by omega)
theorem eq_ints {h : HH} {i j : Int} : eqH h (.int i) (.int j) = some (i == j) := nr rfl
theorem eq_sTT {h : HH} : eqH h (.str sTo) (.str sTo) = some true := nr rfl
theorem eq_sTI {h : HH} : eqH h (.str sTo) (.str sIs) = some false := nr rfl
theorem eq_sIT {h : HH} : eqH h (.str sIs) (.str sTo) = some false := nr rfl
theorem eq_sII {h : HH} : eqH h (.str sIs) (.str sIs) = some true := nr rfl
theorem eq_wws {h : HH} {x y : Str} (hx : isW x = true) (hy : isW y = true) : eqH h (.str x) (.str y) = some (decide (x = y)) := by
  rw [eq_strs (isW_ok hx) (isW_ok hy), strEq_eq]
theorem okE_w {x : Ent} (h : okE x = true) : isW x.w = true := by
  cases x with
  | to w o => simp only [okE, Bool.and_eq_true] at h; exact h.1
  | is w ss => simp only [okE, Bool.and_eq_true] at h; exact h.1.1.1
end MH

end
section
set_option linter.all false
set_option maxRecDepth 100000
/-! MW2: the plain law of lookups: ways. -/
namespace MH
open MP PySem
def lookE (b : Book) (w : Str) : Option Ent := b.find? fun e => strEq e.w w
inductive Way where
  | head (way : List Str) | lost (way : List Str) | ring (way : List Str) (i : Nat) | out
def idxS (x : Str) : List Str → Nat
  | [] => 0
  | y :: r => if y = x then 0 else idxS x r + 1
theorem idxS_mem {x : Str} : ∀ {l : List Str}, x ∈ l → l[idxS x l]? = some x
  | y :: r, h => by
    unfold idxS
    by_cases e : y = x
    · rw [if_pos e, e]; rfl
    · rw [if_neg e]
      rcases List.mem_cons.mp h with q | q
      · exact absurd q.symm e
      · simpa using idxS_mem q
theorem idxS_of {x : Str} : ∀ {l : List Str} {i : Nat}, l.Nodup → l[i]? = some x → idxS x l = i
  | y :: r, 0, _, h => by
    simp at h; subst h; simp [idxS]
  | y :: r, i + 1, n, h => by
    have h' : r[i]? = some x := by simpa using h
    have hx : x ∈ r := List.mem_of_getElem? h'
    have e : ¬ y = x := fun q => by subst q; exact (List.nodup_cons.mp n).1 hx
    unfold idxS
    rw [if_neg e, idxS_of (List.nodup_cons.mp n).2 h']
def wayF : Nat → Book → List Str → Str → Way
  | 0, _, _, _ => .out
  | n + 1, b, pre, here => match lookE b here with
    | none => .lost pre
    | some (.is _ _) => .head pre
    | some (.to _ o) => if o ∈ pre then .ring pre (idxS o pre) else wayF n b (pre ++ [o]) o
def isTo (b : Book) (x y : Str) : Bool := match lookE b x with | some (.to _ o) => decide (o = y) | _ => false
def chain (b : Book) : List Str → Bool
  | x :: y :: r => isTo b x y && chain b (y :: r)
  | _ => true
def lastD (x : Str) : List Str → Str
  | [] => x
  | y :: r => lastD y r
theorem isTo_is {b : Book} {x y : Str} (h : isTo b x y = true) : ∃ w, lookE b x = some (.to w y) := by
  unfold isTo at h
  split at h
  · rename_i w o e
    have := of_decide_eq_true h
    subst this
    exact ⟨w, e⟩
  · cases h
theorem lookE_mem {b : Book} {w : Str} {x : Ent} (h : lookE b w = some x) : x ∈ b ∧ x.w = w := by
  unfold lookE at h
  have h2 := List.find?_some (p := fun e : Ent => strEq e.w w) h
  exact ⟨List.mem_of_find?_eq_some h, strEq_iff.mp h2⟩
theorem chain_way {b : Book} : ∀ (r pre : List Str) (here : Str) (n : Nat), chain b (here :: r) = true → (pre ++ r).Nodup → wayF (n + r.length) b pre here = wayF n b (pre ++ r) (lastD here r)
  | [], pre, here, n, _, _ => by simp [lastD]
  | o :: r, pre, here, n, hc, hn => by
    simp only [chain, Bool.and_eq_true] at hc
    obtain ⟨w, e⟩ := isTo_is hc.1
    have ho : ¬ o ∈ pre := fun q => by
      rw [List.nodup_append] at hn
      exact hn.2.2 o q o (List.mem_cons_self ..) rfl
    rw [List.length_cons, show n + (r.length + 1) = (n + r.length) + 1 by omega]
    show (match lookE b here with | none => _ | some (.is _ _) => _ | some (.to _ o) => _) = _
    rw [e]
    dsimp only
    rw [if_neg ho, chain_way r (pre ++ [o]) o n hc.2 (by rw [List.append_assoc]; exact hn), List.append_assoc]
    rfl
def WayOk (b : Book) (pre : List Str) (here : Str) : Way → Prop
  | .head w => ∃ r, w = pre ++ r ∧ chain b (here :: r) = true ∧ w.Nodup ∧ ∃ x ss, lookE b (lastD here r) = some (.is x ss)
  | .lost w => ∃ r, w = pre ++ r ∧ chain b (here :: r) = true ∧ w.Nodup ∧ lookE b (lastD here r) = none
  | .ring w i => ∃ r, w = pre ++ r ∧ chain b (here :: r) = true ∧ w.Nodup ∧ ∃ x o, lookE b (lastD here r) = some (.to x o) ∧ o ∈ w ∧ i = idxS o w
  | .out => True
theorem wayF_ok {b : Book} : ∀ (n : Nat) (pre : List Str) (here : Str), pre.Nodup → WayOk b pre here (wayF n b pre here)
  | 0, _, _, _ => trivial
  | n + 1, pre, here, hn => by
    unfold wayF
    split
    · rename_i e; exact ⟨[], by simp, rfl, hn, e⟩
    · rename_i x ss e; exact ⟨[], by simp, rfl, hn, x, ss, e⟩
    · rename_i x o e
      split
      · rename_i ho; exact ⟨[], by simp, rfl, hn, x, o, e, ho, rfl⟩
      · rename_i ho
        have hn' : (pre ++ [o]).Nodup := by
          rw [List.nodup_append]
          exact ⟨hn, by simp, fun a ha c hc q => by rw [List.mem_singleton] at hc; subst hc; subst q; exact ho ha⟩
        have ih := wayF_ok (b := b) n (pre ++ [o]) o hn'
        have hc : ∀ r, chain b (o :: r) = true → chain b (here :: o :: r) = true := fun r h => by
          simp only [chain, Bool.and_eq_true]
          exact ⟨by unfold isTo; rw [e]; simp, h⟩
        revert ih
        cases wayF n b (pre ++ [o]) o with
        | head w => rintro ⟨r, h1, h2, h3, h4⟩; exact ⟨o :: r, by rw [h1, List.append_assoc]; rfl, hc r h2, h3, h4⟩
        | lost w => rintro ⟨r, h1, h2, h3, h4⟩; exact ⟨o :: r, by rw [h1, List.append_assoc]; rfl, hc r h2, h3, h4⟩
        | ring w i => rintro ⟨r, h1, h2, h3, h4⟩; exact ⟨o :: r, by rw [h1, List.append_assoc]; rfl, hc r h2, h3, h4⟩
        | out => exact id
theorem nodup_sub {α : Type} [DecidableEq α] : ∀ {l m : List α}, l.Nodup → (∀ x ∈ l, x ∈ m) → l.length ≤ m.length
  | [], m, _, _ => Nat.zero_le _
  | x :: l, m, n, h => by
    have hx : x ∈ m := h x (List.mem_cons_self ..)
    have ih := nodup_sub (l := l) (m := m.erase x) (List.nodup_cons.mp n).2 fun y hy => by
      have ne : y ≠ x := fun q => by subst q; exact (List.nodup_cons.mp n).1 hy
      exact (List.mem_erase_of_ne ne).mpr (h y (List.mem_cons_of_mem _ hy))
    rw [List.length_erase_of_mem hx] at ih
    have : 0 < m.length := List.length_pos_of_mem hx
    rw [List.length_cons]; omega
theorem wayF_fuel {b : Book} : ∀ (n : Nat) (p0 : List Str) (here : Str), (p0 ++ [here]).Nodup → (∀ x ∈ p0, x ∈ ws b) → b.length + 1 ≤ n + p0.length → wayF n b (p0 ++ [here]) here ≠ .out
  | 0, p0, here, hn, hs, hl => by
    have := nodup_sub (List.nodup_append.mp hn).1 hs
    unfold ws at this
    rw [List.length_map] at this
    omega
  | n + 1, p0, here, hn, hs, hl => by
    unfold wayF
    split
    · exact fun q => nomatch q
    · exact fun q => nomatch q
    · rename_i x o e
      split
      · exact fun q => nomatch q
      · rename_i ho
        have hn' : (p0 ++ [here] ++ [o]).Nodup := by
          rw [List.nodup_append]
          exact ⟨hn, by simp, fun a ha c hc q => by rw [List.mem_singleton] at hc; subst hc; subst q; exact ho ha⟩
        refine wayF_fuel n (p0 ++ [here]) o hn' (fun y hy => ?_) (by simp; omega)
        rcases List.mem_append.mp hy with q | q
        · exact hs y q
        · rw [List.mem_singleton] at q
          obtain ⟨h1, h2⟩ := lookE_mem e
          exact List.mem_map.mpr ⟨_, h1, by rw [h2, q]⟩
def way (b : Book) (w : Str) : Way := wayF (b.length + 1) b [w] w
theorem way_out (b : Book) (w : Str) : way b w ≠ .out := wayF_fuel (b.length + 1) [] w (by simp) (fun _ h => by cases h) (by simp)
/-- more than enough steps change nothing -/
theorem wayF_more {b : Book} : ∀ (n k : Nat) (pre : List Str) (here : Str), wayF n b pre here ≠ .out → wayF (n + k) b pre here = wayF n b pre here
  | 0, _, _, _, h => absurd rfl h
  | n + 1, k, pre, here, h => by
    rw [show n + 1 + k = (n + k) + 1 by omega]
    unfold wayF at h ⊢
    split
    · rfl
    · rfl
    · rename_i x o e
      rw [e] at h
      dsimp only at h
      split
      · rfl
      · rename_i ho
        rw [if_neg ho] at h
        exact wayF_more n k _ _ h
/-- whether a way begins with a word, its words unlike, each but the last led to the next -/
def isLed (b : Book) (w : Str) (l : List Str) : Bool := decide (l.head? = some w) && decide l.Nodup && chain b l
theorem chain_in {b : Book} : ∀ {x : Str} {r : List Str}, chain b (x :: r) = true → ∀ y ∈ (x :: r).dropLast, y ∈ ws b
  | x, [], _, y, hy => by simp at hy
  | x, o :: r, h, y, hy => by
    simp only [chain, Bool.and_eq_true] at h
    rw [List.dropLast_cons_of_ne_nil (by simp)] at hy
    rcases List.mem_cons.mp hy with q | q
    · obtain ⟨w, e⟩ := isTo_is h.1
      obtain ⟨h1, h2⟩ := lookE_mem e
      exact List.mem_map.mpr ⟨_, h1, by rw [q]; exact h2⟩
    · exact chain_in h.2 y q
theorem led_way {b : Book} {w : Str} {l : List Str} (h : isLed b w l = true) : ∃ r m, l = w :: r ∧ way b w = wayF (m + 1) b l (lastD w r) ∧ l.Nodup := by
  unfold isLed at h
  simp only [Bool.and_eq_true, decide_eq_true_eq] at h
  obtain ⟨⟨h1, h2⟩, h3⟩ := h
  cases l with
  | nil => cases h1
  | cons x r =>
    simp at h1
    subst h1
    have hl : r.length ≤ b.length := by
      have := nodup_sub (l := (x :: r).dropLast) (m := ws b) (List.Sublist.nodup (List.dropLast_sublist _) h2) (chain_in h3)
      unfold ws at this
      rw [List.length_map, List.length_dropLast, List.length_cons] at this
      omega
    refine ⟨r, b.length - r.length, rfl, ?_, h2⟩
    unfold way
    rw [show b.length + 1 = (b.length - r.length + 1) + r.length by omega]
    exact chain_way r [x] x _ h3 h2
theorem last_lastD : ∀ (x : Str) (r : List Str), (x :: r).getLast? = some (lastD x r)
  | x, [] => rfl
  | x, o :: r => by rw [List.getLast?_cons_cons]; exact last_lastD o r
/-- as the answers' own words tell it -/
def headSh (b : Book) (w : Str) (l : List Str) : Bool := isLed b w l && (match l.getLast? with | some x => (match lookE b x with | some (.is _ _) => true | _ => false) | none => false)
def lostSh (b : Book) (w : Str) (l : List Str) : Bool := isLed b w l && (match l.getLast? with | some x => (lookE b x).isNone | none => false)
def ringSh (b : Book) (w : Str) (l : List Str) (i : Nat) : Bool := isLed b w l && (match l.getLast? with | some x => (match lookE b x with | some (.to _ o) => decide (l[i]? = some o) | _ => false) | none => false)
theorem head_iff {b : Book} {w : Str} {l : List Str} : headSh b w l = true ↔ way b w = .head l := by
  unfold headSh
  constructor
  · intro h
    rw [Bool.and_eq_true] at h
    obtain ⟨r, m, rfl, e, hn⟩ := led_way h.1
    have h2 := h.2
    rw [last_lastD] at h2
    rw [e]
    unfold wayF
    dsimp only at h2
    split at h2
    · rename_i q; rw [q]
    · cases h2
  · intro h
    have := wayF_ok (b := b) (b.length + 1) [w] w (by simp)
    unfold way at h
    rw [h] at this
    obtain ⟨r, rfl, h2, h3, x, ss, h4⟩ := this
    have h2' : chain b (w :: r) = true := h2
    have h3' : (w :: r).Nodup := h3
    have : ([w] ++ r).getLast? = some (lastD w r) := last_lastD w r
    rw [this]
    simp only [h4, isLed]
    simp [h2', h3']
theorem lost_iff {b : Book} {w : Str} {l : List Str} : lostSh b w l = true ↔ way b w = .lost l := by
  unfold lostSh
  constructor
  · intro h
    rw [Bool.and_eq_true] at h
    obtain ⟨r, m, rfl, e, hn⟩ := led_way h.1
    have h2 := h.2
    rw [last_lastD] at h2
    rw [e]
    unfold wayF
    dsimp only at h2
    rw [Option.isNone_iff_eq_none.mp h2]
  · intro h
    have := wayF_ok (b := b) (b.length + 1) [w] w (by simp)
    unfold way at h
    rw [h] at this
    obtain ⟨r, rfl, h2, h3, h4⟩ := this
    have h2' : chain b (w :: r) = true := h2
    have h3' : (w :: r).Nodup := h3
    have : ([w] ++ r).getLast? = some (lastD w r) := last_lastD w r
    rw [this]
    simp only [h4, isLed]
    simp [h2', h3']
theorem ring_iff {b : Book} {w : Str} {l : List Str} {i : Nat} : ringSh b w l i = true ↔ way b w = .ring l i := by
  unfold ringSh
  constructor
  · intro h
    rw [Bool.and_eq_true] at h
    obtain ⟨r, m, rfl, e, hn⟩ := led_way h.1
    have h2 := h.2
    rw [last_lastD] at h2
    rw [e]
    unfold wayF
    dsimp only at h2
    split at h2
    · rename_i x o q
      rw [q]
      dsimp only
      have hi := of_decide_eq_true h2
      rw [if_pos (List.mem_of_getElem? hi), idxS_of hn hi]
    · cases h2
  · intro h
    have := wayF_ok (b := b) (b.length + 1) [w] w (by simp)
    unfold way at h
    rw [h] at this
    obtain ⟨r, rfl, h2, h3, x, o, h4, h5, h6⟩ := this
    have h2' : chain b (w :: r) = true := h2
    have h3' : (w :: r).Nodup := h3
    have e : ([w] ++ r).getLast? = some (lastD w r) := last_lastD w r
    have hi : ([w] ++ r)[i]? = some o := by rw [h6]; exact idxS_mem h5
    rw [e]
    simp only [h4, isLed, hi]
    simp [h2', h3']
end MH

end
section
set_option linter.all false
set_option maxRecDepth 100000
/-! MW3: books in the second semantics: looks, places, pairs. -/
namespace MH
open MP PySem
def Ent.k : Ent → Str
  | .to _ _ => sTo
  | .is _ _ => sIs
/-- what an entry tells -/
def Ent.v : Ent → HV
  | .to _ o => .str o
  | .is _ ss => .fl (ss.map encS)
theorem encE_is (x : Ent) : encE x = .ft [.str x.w, .str x.k, x.v] := by cases x <;> rfl
theorem ix_e0 {h : HH} {x : Ent} : ixH (encE x) (.int 0) h = .ok (.str x.w) h := by rw [encE_is, ix_ft, atI_0]; rfl
theorem ix_e1 {h : HH} {x : Ent} : ixH (encE x) (.int 1) h = .ok (.str x.k) h := by rw [encE_is, ix_ft, atI_1]; rfl
theorem ix_e2 {h : HH} {x : Ent} : ixH (encE x) (.int 2) h = .ok x.v h := by rw [encE_is, ix_ft, atI_2]; rfl
theorem sIx_nat (n d k : Nat) : HT.sIx n d (some (k : Int)) = min k n := by
  unfold HT.sIx
  split
  · rename_i q; cases q
  · rename_i i q
    cases q
    rw [if_neg (by omega)]; rfl
theorem cut_from {α : Type} (xs : List α) (k : Nat) : cut xs (some (k : Int)) none = xs.drop k := by
  unfold cut
  rw [sIx_nat]
  have e : HT.sIx xs.length xs.length none = xs.length := rfl
  rw [e]
  rcases Nat.lt_or_ge k xs.length with q | q
  · rw [Nat.min_eq_left (by omega), List.take_of_length_le (by simp)]
  · rw [Nat.min_eq_right q, List.drop_of_length_le (Nat.le_refl _), List.drop_of_length_le q]; simp
theorem cut_to {α : Type} (xs : List α) (k : Nat) : cut xs none (some (k : Int)) = xs.take k := by
  unfold cut
  rw [sIx_nat]
  have e : HT.sIx xs.length 0 none = 0 := rfl
  rw [e, List.drop_zero, Nat.sub_zero]
  rcases Nat.lt_or_ge k xs.length with q | q
  · rw [Nat.min_eq_left (by omega)]
  · rw [Nat.min_eq_right q, List.take_of_length_le (Nat.le_refl _), List.take_of_length_le q]
theorem cut_1 {α : Type} (xs : List α) : cut xs (some 1) none = xs.drop 1 := cut_from xs 1
theorem sl_from1 {h : HH} {xs : List HV} : slH false (.fl xs) (some 1) none h = .ok (.fl (xs.drop 1)) h := by
  show mkL false (cut xs (some 1) none) h = _
  rw [cut_1]; rfl
theorem zipL_map {α β : Type} (f : α → HV) (g : β → HV) : ∀ (l : List α) (m : List β), zipL (l.map f) (m.map g) = (l.zip m).map fun p => .ft [f p.1, g p.2]
  | [], _ => by simp [zipL]
  | _ :: _, [] => by simp [zipL]
  | x :: l, y :: m => by simp [zipL, zipL_map f g l m]
theorem pairsH_map {α : Type} (f : α → Str) (g : α → HV) (l : List α) : pairsH (l.map fun x => .ft [.str (f x), g x]) = some (l.map fun x => (f x, g x)) := by
  induction l with
  | nil => rfl
  | cons x l ih => simp [pairsH, ih]
theorem hasK_iff {β : Type} (kvs : List (Str × β)) (k : Str) : hasK kvs k = true ↔ k ∈ kvs.map (·.1) := by
  induction kvs with
  | nil => simp [hasK]
  | cons p kvs ih =>
    obtain ⟨j, v⟩ := p
    simp only [hasK, List.map_cons, List.mem_cons]
    cases e : strEq j k with
    | true => simp [strEq_iff.mp e]
    | false =>
      have : ¬ k = j := fun q => by subst q; rw [strEq_refl] at e; cases e
      simp [ih, this]
theorem merge_nodup {β : Type} : ∀ (ps kvs : List (Str × β)), ((kvs ++ ps).map (·.1)).Nodup → mergeP kvs ps = kvs ++ ps
  | [], kvs, _ => by simp [mergeP]
  | (k, v) :: ps, kvs, h => by
    have hk : hasK kvs k = false := by
      rw [Bool.eq_false_iff]
      intro q
      rw [hasK_iff] at q
      rw [List.map_append, List.nodup_append] at h
      exact h.2.2 k q k (by simp) rfl
    show mergeP (putK kvs k v) ps = _
    unfold putK
    rw [hk, cond_false, merge_nodup ps (kvs ++ [(k, v)]) (by rw [List.append_assoc]; exact h), List.append_assoc]
    rfl
theorem lookK_map {α : Type} (f : α → Str) (g : α → HV) (k : Str) (l : List α) : lookK (l.map fun x => (f x, g x)) k = (l.find? fun x => strEq (f x) k).map g := by
  induction l with
  | nil => rfl
  | cons x l ih =>
    simp only [List.map_cons, lookK, List.find?_cons]
    cases strEq (f x) k with
    | true => rfl
    | false => simpa using ih
/-- a book by its words -/
def dictB (b : Book) : HV := .fd false (b.map fun e => (e.w, encE e))
theorem look_dictB (b : Book) (w : Str) : lookK (b.map fun e => (e.w, encE e)) w = (lookE b w).map encE := lookK_map Ent.w encE w b
theorem in_dictB {h : HH} {b : Book} {w : Str} : inH h (.str w) (dictB b) = some (lookE b w).isSome := by
  show some (lookK (b.map fun e => (e.w, encE e)) w).isSome = _
  rw [look_dictB]; simp
theorem ix_dictB {h : HH} {b : Book} {w : Str} {x : Ent} (e : lookE b w = some x) : ixH (dictB b) (.str w) h = .ok (encE x) h := by
  show HR.of (lookK (b.map fun e => (e.w, encE e)) w) h = _
  rw [look_dictB, e]; rfl
theorem eq_kTo {h : HH} {x : Ent} : eqH h (.str x.k) (.str sTo) = some (match x with | .to _ _ => true | .is _ _ => false) := by cases x <;> rfl
theorem eq_kIs {h : HH} {x : Ent} : eqH h (.str x.k) (.str sIs) = some (match x with | .to _ _ => false | .is _ _ => true) := by cases x <;> rfl
theorem strLt_trans {a b c : Str} (h1 : strLt a b = true) (h2 : strLt b c = true) : strLt a c = true := by
  rw [strLt_eq, decide_eq_true_eq] at *
  exact List.lt_trans h1 h2
theorem strLt_irr (a : Str) : strLt a a = false := by
  rw [strLt_eq]
  exact decide_eq_false (List.lt_irrefl _)
theorem rising_cons {x y : Str} {l : List Str} : rising (x :: y :: l) = (strLt x y && rising (y :: l)) := by
  unfold rising
  rfl
theorem rising_lt : ∀ {x : Str} {l : List Str}, rising (x :: l) = true → ∀ y ∈ l, strLt x y = true
  | x, y :: l, h, z, hz => by
    rw [rising_cons, Bool.and_eq_true] at h
    rcases List.mem_cons.mp hz with q | q
    · rw [q]; exact h.1
    · exact strLt_trans h.1 (rising_lt h.2 z q)
theorem rising_tail : ∀ {x : Str} {l : List Str}, rising (x :: l) = true → rising l = true
  | x, [], _ => rfl
  | x, y :: l, h => by rw [rising_cons, Bool.and_eq_true] at h; exact h.2
theorem rising_nodup : ∀ {l : List Str}, rising l = true → l.Nodup
  | [], _ => List.nodup_nil
  | x :: l, h => List.nodup_cons.mpr ⟨fun q => (by have := rising_lt h x q; rw [strLt_irr] at this; cases this), rising_nodup (rising_tail h)⟩
theorem okB_all {b : Book} (h : okB b = true) : b.length ≤ 40 ∧ (∀ x ∈ b, okE x = true) ∧ rising (ws b) = true ∧ (ws b).Nodup := by
  unfold okB at h
  simp only [Bool.and_eq_true, decide_eq_true_eq, List.all_eq_true] at h
  exact ⟨h.1.1, h.1.2, h.2, rising_nodup h.2⟩
theorem rf1 {x : HV} (a : rf x = true) : [x].all rf = true := by simp [a]
theorem rf2 {x y : HV} (a : rf x = true) (b : rf y = true) : [x, y].all rf = true := by simp [a, b]
theorem rf3 {x y z : HV} (a : rf x = true) (b : rf y = true) (c : rf z = true) : [x, y, z].all rf = true := by simp [a, b, c]
theorem rf4 {x y z u : HV} (a : rf x = true) (b : rf y = true) (c : rf z = true) (d : rf u = true) : [x, y, z, u].all rf = true := by simp [a, b, c, d]
theorem rf_encS (s : List Str) : rf (encS s) = true := rf_strs s
theorem rf_s (x : Str) : rf (.str x) = true := rfl
theorem forI_chk {α : Type} (f : α → HV) {tg : HV → HE → HH → HR HE} {b : HE → HH → HS} {h : HH} (P : HE → Prop) (bad : α → Bool) (v : HV) : ∀ (l : List α) (e : HE), P e →
    (∀ x ∈ l, ∀ e, P e → ∃ e1, tg (f x) e h = .ok e1 h ∧ (bad x = true → ∃ e2, b e1 h = .ok (.rt v) e2 h) ∧ (bad x = false → ∃ e2, b e1 h = .ok .nx e2 h ∧ P e2)) →
    ∃ e', P e' ∧ l.any bad = false ∧ forI tg b (l.map f) e h = .ok .nx e' h ∨ l.any bad = true ∧ forI tg b (l.map f) e h = .ok (.rt v) e' h
  | [], e, p, _ => ⟨e, .inl ⟨p, rfl, rfl⟩⟩
  | x :: l, e, p, k => by
    obtain ⟨e1, h1, h2, h3⟩ := k x (List.mem_cons_self ..) e p
    cases q : bad x with
    | true =>
      obtain ⟨e2, h4⟩ := h2 q
      refine ⟨e2, .inr ⟨by rw [List.any_cons, q]; rfl, ?_⟩⟩
      simp only [List.map_cons, forI, h1, then_ok, h4, HS.bind]
    | false =>
      obtain ⟨e2, h4, p2⟩ := h3 q
      obtain ⟨e', r⟩ := forI_chk f P bad v l e2 p2 fun y hy => k y (List.mem_cons_of_mem _ hy)
      refine ⟨e', ?_⟩
      have ef : forI tg b ((x :: l).map f) e h = forI tg b (l.map f) e2 h := by simp only [List.map_cons, forI, h1, then_ok, h4, HS.bind]
      rw [ef, List.any_cons, q, Bool.false_or]
      exact r
theorem dedup_len (lt : Str → Str → Bool) : ∀ l : List Str, (dedup lt l).length ≤ l.length
  | [] => Nat.le_refl _
  | x :: l => by
    have := dedup_len lt l
    unfold dedup
    split
    · rw [List.length_cons]; omega
    · rw [List.length_cons, List.length_cons]; omega
theorem any_strEq' (x : Str) (l : List Str) : l.any (strEq x) = decide (x ∈ l) := by
  induction l with
  | nil => rfl
  | cons y l ih =>
    rw [List.any_cons, ih, strEq_eq]
    by_cases e : x = y
    · subst e; simp
    · simp [e]
theorem dedup_lt (lt : Str → Str → Bool) : ∀ l : List Str, decide (((dedup lt l).length : Int) < (l.length : Int)) = !decide l.Nodup
  | [] => by simp [dedup]
  | x :: l => by
    have ih := dedup_lt lt l
    have hl := dedup_len lt l
    unfold dedup
    rw [any_strEq']
    by_cases hx : x ∈ l
    · simp [hx]; omega
    · simp only [hx, decide_false, Bool.false_eq_true, if_false, List.length_cons, List.nodup_cons, not_false_eq_true, true_and]
      rw [← ih]
      congr 1
      apply propext
      omega
end MH

end
section
set_option linter.all false
set_option maxRecDepth 100000
/-! MW4: equality of trees. -/
namespace MH
open MP PySem
structure EqOk {α : Type} [DecidableEq α] (k : Nat) (f : α → HV) (P : α → Prop) : Prop where
  ok : ∀ x, P x → okT k (f x) = true
  eq : ∀ x y, P x → P y → eqT k (f x) (f y) = decide (x = y)
section
variable {α β : Type} [DecidableEq α] [DecidableEq β] {k : Nat} {f : α → HV} {g : β → HV} {P : α → Prop} {Q : β → Prop}
theorem all2_map (h : ∀ x y, P x → P y → eqT k (f x) (f y) = decide (x = y)) : ∀ l m : List α, (∀ x ∈ l, P x) → (∀ x ∈ m, P x) → eqT.all2 (eqT k) (l.map f) (m.map f) = decide (l = m)
  | [], [], _, _ => by simp [eqT.all2]
  | [], y :: m, _, _ => by simp [eqT.all2]
  | x :: l, [], _, _ => by simp [eqT.all2]
  | x :: l, y :: m, hl, hm => by
    simp only [List.map_cons, eqT.all2]
    rw [h x y (hl x (List.mem_cons_self ..)) (hm y (List.mem_cons_self ..)), all2_map h l m (fun z hz => hl z (List.mem_cons_of_mem _ hz)) fun z hz => hm z (List.mem_cons_of_mem _ hz)]
    by_cases e : x = y
    · subst e; simp
    · simp [e]
theorem EqOk.lst (h : EqOk k f P) : EqOk (k + 1) (fun l : List α => .fl (l.map f)) (fun l => ∀ x ∈ l, P x) :=
  ⟨fun l hl => by
    show (l.map f).all (okT k) = true
    rw [List.all_map, List.all_eq_true]
    exact fun x hx => h.ok x (hl x hx), fun l m hl hm => by
    show eqT.all2 (eqT k) (l.map f) (m.map f) = _
    exact all2_map h.eq l m hl hm⟩
theorem EqOk.str : EqOk k HV.str (fun x => okS x = true) := ⟨fun x h => by cases k <;> exact h, fun x y _ _ => by cases k <;> exact strEq_eq x y⟩
theorem EqOk.int : EqOk k HV.int (fun _ => True) := ⟨fun x _ => by cases k <;> rfl, fun x y _ _ => by cases k <;> (show (x == y) = _; rw [Bool.beq_eq_decide_eq])⟩
theorem EqOk.pair (h1 : EqOk k f P) (h2 : EqOk k g Q) : EqOk (k + 1) (fun p : α × β => .ft [f p.1, g p.2]) (fun p => P p.1 ∧ Q p.2) :=
  ⟨fun p hp => by
    show [f p.1, g p.2].all (okT k) = true
    simp [h1.ok p.1 hp.1, h2.ok p.2 hp.2], fun p q hp hq => by
    show eqT.all2 (eqT k) [f p.1, g p.2] [f q.1, g q.2] = _
    simp only [eqT.all2, h1.eq p.1 q.1 hp.1 hq.1, h2.eq p.2 q.2 hp.2 hq.2]
    obtain ⟨a, b⟩ := p
    obtain ⟨c, d⟩ := q
    by_cases e : a = c <;> by_cases e2 : b = d <;> simp [e, e2]⟩
theorem EqOk.H (h : EqOk 20 f P) {hh : HH} {x y : α} (hx : P x) (hy : P y) (rx : rf (f x) = true) (ry : rf (f y) = true) : eqH hh (f x) (f y) = some (decide (x = y)) := by
  unfold eqH
  rw [vw_rf rx, vw_rf ry]
  dsimp only
  rw [h.ok x hx, h.ok y hy, h.eq x y hx hy]
  rfl
/-- .. whose views they are -/
theorem EqOk.V (h : EqOk 20 f P) {hh : HH} {x y : α} {v w : HV} (hx : P x) (hy : P y) (rx : vw VD hh v = some (f x)) (ry : vw VD hh w = some (f y)) : eqH hh v w = some (decide (x = y)) := by
  unfold eqH
  rw [rx, ry]
  dsimp only
  rw [h.ok x hx, h.ok y hy, h.eq x y hx hy]
  rfl
end
def okEs : Ent → Prop
  | .to w o => okS w = true ∧ okS o = true
  | .is w ss => okS w = true ∧ ∀ s ∈ ss, ∀ x ∈ s, okS x = true
theorem okE_s {x : Ent} (h : okE x = true) : okEs x := by
  cases x with
  | to w o => simp only [okE, Bool.and_eq_true] at h; exact ⟨isW_ok h.1, isW_ok h.2⟩
  | is w ss =>
    simp only [okE, Bool.and_eq_true, List.all_eq_true] at h
    exact ⟨isW_ok h.1.1.1, fun s hs x hx => isW_ok ((h.2 s hs).2 x hx)⟩
theorem eqOk_ent {k : Nat} : EqOk (k + 3) encE okEs := by
  have hs : EqOk (k + 2) (fun ss : List (List Str) => HV.fl (ss.map encS)) (fun ss => ∀ s ∈ ss, ∀ x ∈ s, okS x = true) := EqOk.lst (EqOk.lst EqOk.str)
  refine ⟨fun x h => ?_, fun x y hx hy => ?_⟩
  · cases x with
    | to w o =>
      show ([HV.str w, .str sTo, .str o].all (okT (k + 2))) = true
      simp only [List.all_cons, List.all_nil]
      rw [show okT (k + 2) (.str w) = true from h.1, show okT (k + 2) (.str o) = true from h.2]
      rfl
    | is w ss =>
      show ([HV.str w, .str sIs, .fl (ss.map encS)].all (okT (k + 2))) = true
      simp only [List.all_cons, List.all_nil]
      rw [show okT (k + 2) (.str w) = true from h.1, hs.ok ss h.2]
      rfl
  · cases x with
    | to w o =>
      cases y with
      | to w2 o2 =>
        show (bif strEq w w2 then (bif strEq sTo sTo then (bif strEq o o2 then true else false) else false) else false) = _
        rw [strEq_refl, strEq_eq, strEq_eq]
        by_cases e : w = w2 <;> by_cases e2 : o = o2 <;> simp [e, e2]
      | is w2 ss =>
        show (bif strEq w w2 then (bif strEq sTo sIs then _ else false) else false) = _
        rw [show strEq sTo sIs = false from rfl]
        simp
    | is w ss =>
      cases y with
      | to w2 o2 =>
        show (bif strEq w w2 then (bif strEq sIs sTo then _ else false) else false) = _
        rw [show strEq sIs sTo = false from rfl]
        simp
      | is w2 ss2 =>
        show (bif strEq w w2 then (bif strEq sIs sIs then (bif eqT (k + 2) (.fl (ss.map encS)) (.fl (ss2.map encS)) then true else false) else false) else false) = _
        rw [strEq_refl, strEq_eq, hs.eq ss ss2 hx.2 hy.2]
        by_cases e : w = w2 <;> by_cases e2 : ss = ss2 <;> simp [e, e2]
theorem eqOk_book : EqOk 20 encB (fun b => ∀ x ∈ b, okEs x) := EqOk.lst eqOk_ent
theorem eqOk_words : EqOk 20 encS (fun l => ∀ x ∈ l, okS x = true) := EqOk.lst EqOk.str
theorem eq_words {h : HH} {l m : List Str} (hl : ∀ x ∈ l, okS x = true) (hm : ∀ x ∈ m, okS x = true) : eqH h (encS l) (encS m) = some (decide (l = m)) := eqOk_words.H hl hm (rf_encS l) (rf_encS m)
theorem eq_wordsN {h : HH} {l : List Str} (hl : ∀ x ∈ l, okS x = true) : eqH h (encS l) (.fl []) = some (decide (l = [])) := eq_words (m := []) hl fun _ h => by cases h
theorem eq_books {h : HH} {l m : Book} (hl : ∀ x ∈ l, okE x = true) (hm : ∀ x ∈ m, okE x = true) : eqH h (encB l) (encB m) = some (decide (l = m)) :=
  eqOk_book.H (fun x hx => okE_s (hl x hx)) (fun x hx => okE_s (hm x hx)) (rf_encB l) (rf_encB m)
theorem lset_words {h : HH} {l : List Str} (hl : l.length ≤ 4000) : lsetH (encS l) h = .ok (.int (dedup strLt l).length) h := by
  show (match (some (l.map HV.str)).bind strsH with | some ss => if ss.length ≤ 4000 then HR.ok (HV.int (dedup strLt ss).length) h else .no | none => .no) = _
  rw [Option.bind_some, strsH_map]
  exact if_pos hl
theorem zip_chain (b : Book) : ∀ l : List Str, ((l.zip l.tail).any fun p => !isTo b p.1 p.2) = !chain b l
  | [] => rfl
  | [x] => rfl
  | x :: y :: r => by
    have ih := zip_chain b (y :: r)
    simp only [List.tail_cons, List.zip_cons_cons, List.any_cons, chain] at ih ⊢
    rw [ih]
    cases isTo b x y <;> simp
theorem atI_last {α : Type} (l : List α) : L2.atI l (-1) = l.getLast? := by
  unfold L2.atI L2.ixN
  rw [if_neg (by omega)]
  cases l with
  | nil => rfl
  | cons x l =>
    rw [if_pos (by simp; omega), Option.bind_some, show ((-1 : Int) + ((x :: l).length : Int)).toNat = (x :: l).length - 1 by simp; omega, List.getLast?_eq_getElem?]
theorem neg_int {h : HH} {i : Int} : negH (.int i) h = .ok (.int (-i)) h := nr rfl
def sWay : Str := ⟨#[119, 97, 121]⟩
def sPlace : Str := ⟨#[112, 108, 97, 99, 101]⟩
theorem get_app {h : HH} {o : HO} {r : List HO} : (h ++ o :: r)[h.length]? = some o := by simp
theorem get_app1 {h : HH} {o o1 : HO} {r : List HO} : (h ++ o :: o1 :: r)[h.length + 1]? = some o1 := by
  rw [List.getElem?_append_right (by omega), show h.length + 1 - h.length = 1 by omega]; rfl
theorem get_app2 {h : HH} {o o1 o2 : HO} {r : List HO} : (h ++ o :: o1 :: o2 :: r)[h.length + 2]? = some o2 := by
  rw [List.getElem?_append_right (by omega), show h.length + 2 - h.length = 2 by omega]; rfl
theorem set_app {h : HH} {o p : HO} {r : List HO} : (h ++ o :: r).set h.length p = h ++ p :: r := by simp
theorem set_app1 {h : HH} {o o1 p : HO} {r : List HO} : (h ++ o :: o1 :: r).set (h.length + 1) p = h ++ o :: p :: r := by
  rw [List.set_append_right _ _ (by omega), show h.length + 1 - h.length = 1 by omega]; rfl
theorem set_app2 {h : HH} {o o1 o2 p : HO} {r : List HO} : (h ++ o :: o1 :: o2 :: r).set (h.length + 2) p = h ++ o :: o1 :: p :: r := by
  rw [List.set_append_right _ _ (by omega), show h.length + 2 - h.length = 2 by omega]; rfl
def wayL : Way → List Str
  | .head w => w | .lost w => w | .ring w _ => w | .out => []
theorem lst_ref {h : HH} {n : Nat} {xs : List HV} (e : h[n]? = some (.lst xs)) : lstH h (.ref n) = some xs := by
  simp only [lstH, e]
theorem in_ref {h : HH} {n : Nat} {x : Str} {l : List Str} (e : h[n]? = some (.lst (l.map .str))) : inH h (.str x) (.ref n) = some (decide (x ∈ l)) := by
  show (match lstH h (.ref n) with
    | some xs => if flatH (.str x) && xs.all flatH then some (xs.any fun y => eqFH y (.str x)) else none
    | none => match dctH h (.ref n) with
      | some kvs => some (lookK kvs x).isSome
      | none => none) = _
  rw [lst_ref e]
  dsimp only
  rw [flat_strs, any_strs, any_strEq]
  rfl
theorem firstH_strs (x : Str) : ∀ (l : List Str) (i : Nat), firstH (.str x) (l.map .str) i = if x ∈ l then some (i + idxS x l) else none
  | [], i => rfl
  | y :: l, i => by
    simp only [List.map_cons, firstH, idxS]
    have ih := firstH_strs x l (i + 1)
    have e1 : eqFH (.str y) (.str x) = strEq y x := rfl
    rw [e1, strEq_eq, ih]
    by_cases e : y = x
    · subst e; simp
    · have e' : ¬ x = y := fun q => e q.symm
      simp only [e, e', decide_false, Bool.false_eq_true, if_false, List.mem_cons, false_or]
      by_cases q : x ∈ l
      · simp only [q, if_true]; congr 1; omega
      · simp only [q, if_false]
theorem idx_ref {h : HH} {n : Nat} {x : Str} {l : List Str} (e : h[n]? = some (.lst (l.map .str))) (hx : x ∈ l) : bmKH .lst .index (.ref n) [.str x] h = .ok (.int (idxS x l)) h := by
  unfold bmKH
  rw [if_pos (by simp only [rcvH, e])]
  show (match lstH h (.ref n) with
    | some xs => if flatH (.str x) && xs.all flatH then (match firstH (.str x) xs 0 with | some i => HR.ok (HV.int i) h | none => .no) else .no
    | none => .no) = _
  rw [lst_ref e]
  dsimp only
  rw [flat_strs, firstH_strs, if_pos hx, Nat.zero_add]
  rfl
theorem app_ref {h : HH} {n : Nat} {x : HV} {l : List HV} (e : h[n]? = some (.lst l)) (hl : l.length < LIM) : bmKH .lst .append (.ref n) [x] h = .ok .non (h.set n (.lst (l ++ [x]))) := by
  unfold bmKH
  rw [if_pos (by simp only [rcvH, e])]
  show (match refL h (.ref n) with
    | some (n, xs) => if xs.length < LIM then HR.ok HV.non (h.set n (.lst (xs ++ [x]))) else .no
    | none => .no) = _
  simp only [refL, e]
  rw [if_pos hl]
theorem rcv_ref {h : HH} {n : Nat} {l : List HV} (e : h[n]? = some (.lst l)) : rcvH (.ref n) h = some .lst := by simp only [rcvH, e]
theorem get_left {h : HH} {r : HH} {n : Nat} {o : HO} (e : h[n]? = some o) : (h ++ r)[n]? = some o := by
  rw [List.getElem?_append_left (lt_of_get e)]; exact e
theorem seq_ref {h : HH} {n : Nat} {xs : List HV} (e : h[n]? = some (.lst xs)) : seqH h (.ref n) = some xs := lst_ref e
theorem list_refm {h : HH} {n : Nat} {xs : List HV} (e : h[n]? = some (.lst xs)) : bfH true .list [.ref n] h = .ok (.ref h.length) (h ++ [.lst xs]) := by
  show (match seqH h (.ref n) with
      | some ys => mkL true ys h
      | none => match dctU h (.ref n) with
        | some kvs => mkL true (kvs.map fun (p : Str × HV) => HV.str p.1) h
        | none => .no) = _
  rw [seq_ref e]; rfl
theorem list_flm {h : HH} {xs : List HV} : bfH true .list [.fl xs] h = .ok (.ref h.length) (h ++ [.lst xs]) := nr rfl
theorem setF_ref {T : Tb} {h : HH} {n c : Nat} {fs : List (Str × HV)} {f : Str} {v : HV} (e : h[n]? = some (.ins c fs)) (q : okC T c = true ∧ fs.length < 900) : setFH T (.ref n) f v h = .ok () (h.set n (.ins c (putF fs f v))) := by
  simp only [setFH, e]
  rw [if_pos q]
theorem app_s {h : HH} {a b : HO} {r : List HO} : (h ++ [a]) ++ (b :: r) = h ++ a :: b :: r := by simp
theorem app_s2 {h : HH} {a b c : HO} {r : List HO} : (h ++ [a, b]) ++ (c :: r) = h ++ a :: b :: c :: r := by simp
theorem len_s {h : HH} {a : HO} : (h ++ [a]).length = h.length + 1 := by simp
theorem len_s2 {h : HH} {a b : HO} : (h ++ [a, b]).length = h.length + 2 := by simp
section
variable {t : HE → HH → HR Bool} {b : HE → HH → HS} {e e1 : HE} {h h1 h2 : HH} {n : Nat}
theorem wh_nx (a : t e h = .ok true h1) (c : b e h1 = .ok .nx e1 h2) : whH (n + 1) t b e h = whH n t b e1 h2 := by
  unfold whH; rw [a]; simp only [then_ok, if_true, c, HS.bind]
  cases n <;> rfl
theorem wh_ff (a : t e h = .ok false h1) : whH (n + 1) t b e h = .ok .nx e h1 := by
  unfold whH; rw [a]; rfl
theorem wh_rt {v : HV} (a : t e h = .ok true h1) (c : b e h1 = .ok (.rt v) e1 h2) : whH (n + 1) t b e h = .ok (.rt v) e1 h2 := by
  unfold whH; rw [a]; simp only [then_ok, if_true, c, HS.bind]
end
end MH

end
section
set_option linter.all false
set_option maxRecDepth 100000
/-! MW5: what the laws draw: numbers, words, senses, books. -/
namespace MH
open MP PySem
def cellF (ns : List Int) (k : Int) : Int := ns.getD k.toNat 0
def primes : List Int := [1000003, 1000033, 1000037, 1000039, 1000081, 1000099, 1000117, 1000121, 1000133, 1000151, 1000159, 1000171, 1000183, 1000187, 1000193, 1000199]
def drawF (c k m : Int) : Int := (c * 48271 + k * 69621) % primes.getD (k % 16).toNat 1 % m
def bigN : Int := 1000811284336359577647248616306026718125307353262274591
def fives (k : Int) : Int := [1, 7, 49, 343, 2401].getD (k % 5).toNat 1
def numF (c k l : Int) : Int :=
  if 1000000000000000000 ≤ c then (c - 1000000000000000000) % (fives k * l) / fives k
  else drawF (((if c < -1000000000000000000 then c % bigN else c) + 977 * k) * ((if c < -1000000000000000000 then c % bigN else c) + 31 * k + 5)) (k % 9 + 1) 999983 % l
theorem fives_is (k : Int) : fives k = 1 ∨ fives k = 7 ∨ fives k = 49 ∨ fives k = 343 ∨ fives k = 2401 := by
  unfold fives
  have h : k % 5 = 0 ∨ k % 5 = 1 ∨ k % 5 = 2 ∨ k % 5 = 3 ∨ k % 5 = 4 := by omega
  rcases h with h | h | h | h | h <;> rw [h] <;> simp
theorem numF_lt {c k l : Int} (hl : 0 < l) : 0 ≤ numF c k l ∧ numF c k l < l := by
  unfold numF
  split
  · have h := fives_is k
    generalize fives k = d at h
    have h1 : 0 < d * l := by rcases h with h | h | h | h | h <;> subst h <;> omega
    have h2 := Int.emod_nonneg (c - 1000000000000000000) (Int.ne_of_gt h1)
    have h3 := Int.emod_lt_of_pos (c - 1000000000000000000) h1
    generalize (c - 1000000000000000000) % (d * l) = x at h2 h3
    rcases h with h | h | h | h | h <;> subst h <;> omega
  · exact ⟨Int.emod_nonneg _ (Int.ne_of_gt hl), Int.emod_lt_of_pos _ hl⟩
/-- a letter -/
def LTR (i : Int) : Nat := lettersS.cps.toList.getD i.toNat 97
theorem LTR_let (i : Int) : isLet (LTR i) = true := by
  unfold LTR
  rw [List.getD_eq_getElem?_getD]
  have all : ∀ z ∈ lettersS.cps.toList, isLet z = true := by decide
  cases e : lettersS.cps.toList[i.toNat]? with
  | none => decide
  | some z => exact all z (List.mem_of_getElem? e)
theorem LTR_inj {i j : Int} (hi : 0 ≤ i ∧ i < 26) (hj : 0 ≤ j ∧ j < 26) (h : LTR i = LTR j) : i = j := by
  have key : ∀ a : Nat, a < 26 → ∀ b : Nat, b < 26 → lettersS.cps.toList.getD a 97 = lettersS.cps.toList.getD b 97 → a = b := by decide
  have := key i.toNat (by omega) j.toNat (by omega) h
  omega
def moreN (n : Int) : Nat := [1, 0, 3, 2].getD ((n / 26) % 4).toNat 0
def wordL (n : Int) : List Nat := LTR (n % 26) :: (List.range (moreN n)).map fun (i : Nat) => LTR ((n * (2 * ((1 : Int) + i) + 1) + n / 26 + ((1 : Int) + i)) % 26)
def wordF (n : Int) : Str := ⟨(wordL n).toArray⟩
theorem moreN_is (n : Int) : (n / 26) % 4 = 0 ∧ moreN n = 1 ∨ (n / 26) % 4 = 1 ∧ moreN n = 0 ∨ (n / 26) % 4 = 2 ∧ moreN n = 3 ∨ (n / 26) % 4 = 3 ∧ moreN n = 2 := by
  unfold moreN
  have h : (n / 26) % 4 = 0 ∨ (n / 26) % 4 = 1 ∨ (n / 26) % 4 = 2 ∨ (n / 26) % 4 = 3 := by omega
  rcases h with h | h | h | h <;> rw [h] <;> simp
theorem wordF_W (n : Int) : isW (wordF n) = true := by
  unfold isW isTx
  have hl : (wordF n).length = 1 + moreN n := by
    show (wordL n).toArray.size = _
    simp [wordL]; omega
  have hm : moreN n ≤ 3 := by have := moreN_is n; omega
  have ha : (wordF n).cps.toList.all isLet = true := by
    show (wordL n).toArray.toList.all isLet = true
    simp only [wordL, List.all_cons, List.all_map, LTR_let, Bool.true_and]
    rw [List.all_eq_true]
    intro x _
    exact LTR_let _
  rw [ha, hl]
  simp only [Bool.and_true, Bool.and_eq_true, decide_eq_true_eq]
  omega
theorem wordF_inj {n m : Int} (h : wordF n = wordF m) : n % 26 = m % 26 := by
  have h2 : wordL n = wordL m := by
    have := congrArg (fun s : Str => s.cps.toList) h
    simpa [wordF] using this
  have h3 : LTR (n % 26) = LTR (m % 26) := (List.cons.inj h2).1
  exact LTR_inj (by omega) (by omega) h3
def wordsF (t : Int) (many : Nat) : List Str := (List.range many).map fun (i : Nat) => wordF (t + 11 * i)
theorem wordsF_len (t : Int) (many : Nat) : (wordsF t many).length = many := by simp [wordsF]
theorem wordsF_W (t : Int) (many : Nat) : ∀ x ∈ wordsF t many, isW x = true := fun x hx => by
  obtain ⟨i, _, rfl⟩ := List.mem_map.mp hx
  exact wordF_W _
theorem wordsF_succ (t : Int) (many : Nat) : wordsF t (many + 1) = wordsF t many ++ [wordF (t + 11 * many)] := by
  unfold wordsF
  rw [List.range_succ, List.map_append]; rfl
theorem wordsF_new {t : Int} {many : Nat} (h : many < 26) : wordF (t + 11 * many) ∉ wordsF t many := fun hx => by
  obtain ⟨i, hi, e⟩ := List.mem_map.mp hx
  have := wordF_inj e
  have hi := List.mem_range.mp hi
  omega
theorem wordsF_nodup (t : Int) : ∀ many : Nat, many ≤ 26 → (wordsF t many).Nodup
  | 0, _ => by simp [wordsF]
  | many + 1, h => by
    rw [wordsF_succ, List.nodup_append]
    exact ⟨wordsF_nodup t many (by omega), by simp, fun a ha b hb q => by
      rw [List.mem_singleton] at hb; subst hb; subst q; exact wordsF_new (by omega) ha⟩
def cnts : List Nat := [1, 2, 0, 3, 1]
def senseF (c at_ : Int) (ws : List Str) (t : Nat) : List Str :=
  (List.range (cnts.getD (numF c (at_ + 3 * t + 2) 5).toNat 0)).map fun (p : Nat) => ws.getD (numF (c + t) (at_ + p + 3) ws.length).toNat Str.empty
def sensesF (c at_ : Int) (ws : List Str) : List (List Str) := (List.range (1 + numF c (at_ + 1) 2).toNat).map (senseF c at_ ws)
theorem getD_W {ws : List Str} (h : ∀ x ∈ ws, isW x = true) {i : Nat} (hi : i < ws.length) : isW (ws.getD i Str.empty) = true := by
  rw [List.getD_eq_getElem?_getD, List.getElem?_eq_getElem hi]
  exact h _ (List.getElem_mem hi)
theorem cnts_le (i : Nat) : cnts.getD i 0 ≤ 3 := by
  rw [List.getD_eq_getElem?_getD]
  cases e : cnts[i]? with
  | none => simp
  | some z =>
    have all : ∀ z ∈ cnts, z ≤ 3 := by decide
    exact all z (List.mem_of_getElem? e)
theorem sensesF_ok {c at_ : Int} {ws : List Str} (h : ∀ x ∈ ws, isW x = true) (hn : 0 < ws.length) : 1 ≤ (sensesF c at_ ws).length ∧ (sensesF c at_ ws).length ≤ 2 ∧ ((sensesF c at_ ws).all fun s => decide (s.length ≤ 3) && s.all isW) = true := by
  have h2 := numF_lt (c := c) (k := at_ + 1) (l := 2) (by decide)
  refine ⟨by simp [sensesF]; omega, by simp [sensesF]; omega, ?_⟩
  rw [List.all_eq_true]
  intro s hs
  obtain ⟨t, _, rfl⟩ := List.mem_map.mp hs
  rw [Bool.and_eq_true, decide_eq_true_eq, List.all_eq_true]
  refine ⟨by simp [senseF]; exact cnts_le _, fun x hx => ?_⟩
  obtain ⟨p, _, rfl⟩ := List.mem_map.mp hx
  have h3 := numF_lt (c := c + t) (k := at_ + p + 3) (l := ws.length) (by omega)
  exact getD_W h (by omega)
/-! ### sorting entries -/
def ltE (a b : Ent) : Bool := strLt a.w b.w
def sortE (l : List Ent) : Book := sortBy ltE l
theorem insBy_mem {α : Type} {lt : α → α → Bool} {x y : α} : ∀ {l : List α}, y ∈ insBy lt x l ↔ y = x ∨ y ∈ l
  | [] => by simp [insBy]
  | z :: l => by
    unfold insBy
    split
    · simp only [List.mem_cons, insBy_mem (l := l)]
      constructor
      · rintro (h | h | h)
        · exact .inr (.inl h)
        · exact .inl h
        · exact .inr (.inr h)
      · rintro (h | h | h)
        · exact .inr (.inl h)
        · exact .inl h
        · exact .inr (.inr h)
    · simp
theorem sortBy_mem {α : Type} {lt : α → α → Bool} {y : α} : ∀ {l : List α}, y ∈ sortBy lt l ↔ y ∈ l
  | [] => by simp [sortBy]
  | x :: l => by
    show y ∈ insBy lt x (sortBy lt l) ↔ _
    rw [insBy_mem, sortBy_mem (l := l), List.mem_cons]
theorem insBy_len {α : Type} {lt : α → α → Bool} {x : α} : ∀ {l : List α}, (insBy lt x l).length = l.length + 1
  | [] => rfl
  | z :: l => by
    unfold insBy
    split
    · simp [insBy_len (l := l)]
    · simp
theorem sortBy_len {α : Type} {lt : α → α → Bool} : ∀ {l : List α}, (sortBy lt l).length = l.length
  | [] => rfl
  | x :: l => by
    show (insBy lt x (sortBy lt l)).length = _
    rw [insBy_len, sortBy_len (l := l)]; rfl
theorem strLt_tot {a b : Str} (h : a ≠ b) (h2 : strLt a b = false) : strLt b a = true := by
  rw [strLt_eq] at h2 ⊢
  rw [decide_eq_true_eq]
  have h2 := of_decide_eq_false h2
  have ne : a.cps.toList ≠ b.cps.toList := fun q => h (by
    obtain ⟨⟨x⟩⟩ := a
    obtain ⟨⟨y⟩⟩ := b
    have q : x = y := q
    rw [q])
  rcases Nat.lt_or_ge 0 1 with _ | _
  · exact Decidable.byContradiction fun q => ne (List.le_antisymm (List.not_lt.mp q) (List.not_lt.mp h2))
  · exact Decidable.byContradiction fun q => ne (List.le_antisymm (List.not_lt.mp q) (List.not_lt.mp h2))
theorem rising_of {x : Str} {l : List Str} (h : ∀ y ∈ l, strLt x y = true) (r : rising l = true) : rising (x :: l) = true := by
  cases l with
  | nil => rfl
  | cons y l => rw [rising_cons, h y (List.mem_cons_self ..), r]; rfl
theorem ins_rising {x : Ent} : ∀ {l : List Ent}, rising (ws l) = true → x.w ∉ ws l → rising (ws (insBy ltE x l)) = true
  | [], _, _ => rfl
  | y :: l, h, hx => by
    unfold insBy
    have ne : y.w ≠ x.w := fun q => hx (by rw [← q]; exact List.mem_cons_self ..)
    have hx' : x.w ∉ ws l := fun q => hx (List.mem_cons_of_mem _ q)
    split
    · rename_i q
      refine rising_of (l := ws (insBy ltE x l)) (fun z hz => ?_) (ins_rising (rising_tail h) hx')
      obtain ⟨u, hu, rfl⟩ := List.mem_map.mp hz
      rcases insBy_mem.mp hu with r | r
      · rw [r]; exact q
      · exact rising_lt h _ (List.mem_map.mpr ⟨u, r, rfl⟩)
    · rename_i q
      have q : strLt y.w x.w = false := Bool.eq_false_iff.mpr q
      have lt := strLt_tot ne q
      refine rising_of (l := ws (y :: l)) (fun z hz => ?_) h
      rcases List.mem_cons.mp hz with r | r
      · rw [r]; exact lt
      · exact strLt_trans lt (rising_lt h z r)
theorem sortE_rising : ∀ {l : List Ent}, (ws l).Nodup → rising (ws (sortE l)) = true
  | [], _ => rfl
  | x :: l, h => by
    have h' := List.nodup_cons.mp (show (x.w :: ws l).Nodup from h)
    refine ins_rising (sortE_rising h'.2) fun q => h'.1 ?_
    obtain ⟨u, hu, e⟩ := List.mem_map.mp q
    exact List.mem_map.mpr ⟨u, sortBy_mem.mp hu, e⟩
theorem sortE_ok {l : List Ent} (h1 : ∀ x ∈ l, okE x = true) (h2 : (ws l).Nodup) (h3 : l.length ≤ 40) : okB (sortE l) = true := by
  unfold okB
  rw [sortE_rising h2, show (sortE l).length = l.length from sortBy_len]
  simp only [Bool.and_true, Bool.and_eq_true, decide_eq_true_eq, List.all_eq_true]
  exact ⟨h3, fun x hx => h1 x (sortBy_mem.mp hx)⟩
theorem sortBy_map {α β : Type} {lt : α → α → Bool} {lt' : β → β → Bool} (f : α → β) (k : ∀ a b, lt' (f a) (f b) = lt a b) : ∀ l : List α, sortBy lt' (l.map f) = (sortBy lt l).map f
  | [] => rfl
  | x :: l => by
    show insBy lt' (f x) (sortBy lt' (l.map f)) = (insBy lt x (sortBy lt l)).map f
    rw [sortBy_map f k l]
    generalize sortBy lt l = m
    induction m with
    | nil => rfl
    | cons y m ih =>
      simp only [List.map_cons, insBy, k]
      split
      · rw [List.map_cons, ih]
      · rfl
theorem sorted_ents {h : HH} {l : List Ent} (h2 : (ws l).Nodup) : sortedH false (l.map encE) h = .ok (encB (sortE l)) h := by
  cases l with
  | nil => rfl
  | cons x l =>
    have e1 : strsH ((x :: l).map encE) = none := by rw [List.map_cons, encE_is]; rfl
    have e2 : intsH ((x :: l).map encE) = none := by rw [List.map_cons, encE_is]; rfl
    have e3 : ∀ m : List Ent, mapO tkeyH (m.map encE) = some (m.map fun e => TKey.s e.w) := fun m => by
      induction m with
      | nil => rfl
      | cons y m ih =>
        have : tkeyH (encE y) = some (.s y.w) := by rw [encE_is]; rfl
        simp only [List.map_cons, mapO, this, ih]
    have e4 : ∀ m : List Ent, (ws m).Nodup → tkeysOk (m.map fun e => TKey.s e.w) = true := fun m => by
      induction m with
      | nil => intro _; rfl
      | cons y m ih =>
        intro hn
        have hn' := List.nodup_cons.mp (show (y.w :: ws m).Nodup from hn)
        simp only [List.map_cons, tkeysOk, ih hn'.2, Bool.and_true]
        rw [List.all_map, List.all_eq_true]
        intro z hz
        have ne : y.w ≠ z.w := fun q => hn'.1 (List.mem_map.mpr ⟨z, hz, q.symm⟩)
        show (TKey.lt (.s y.w) (.s z.w)).isSome = true
        simp only [TKey.lt]
        rw [strEq_eq, decide_eq_false ne]
        rfl
    unfold sortedH
    rw [e1]
    dsimp only
    rw [e2]
    dsimp only
    rw [e3]
    dsimp only
    rw [e4 _ h2]
    have e5 : ((x :: l).map fun e => TKey.s e.w).zip ((x :: l).map encE) = (x :: l).map fun e => (TKey.s e.w, encE e) := by
      rw [List.zip_map', ]
    rw [e5, sortBy_map (lt := ltE) (fun e : Ent => (TKey.s e.w, encE e)) (fun a b => rfl), List.map_map]
    rfl
theorem rngL_map : ∀ (n : Nat) (lo : Int), rngL lo n = (List.range n).map fun (i : Nat) => HV.int (lo + i)
  | 0, _ => rfl
  | n + 1, lo => by
    rw [rngL, rngL_map n (lo + 1), List.range_succ_eq_map, List.map_cons, List.map_map]
    congr 1
    · simp
    · apply List.map_congr_left
      intro i _
      show HV.int (lo + 1 + i) = HV.int (lo + (i + 1 : Nat))
      congr 1
      omega
theorem forI_app {α : Type} (f : α → HV) (g : α → HV) {tg : HV → HE → HH → HR HE} {b : HE → HH → HS} (P : HE → Prop) (h0 : HH) : ∀ (l : List α) (acc : List HV) (e : HE), P e →
    (∀ x ∈ l, ∀ acc e, P e → ∃ e1 e2, tg (f x) e (h0 ++ [.lst acc]) = .ok e1 (h0 ++ [.lst acc]) ∧ (acc.length < LIM → b e1 (h0 ++ [.lst acc]) = .ok .nx e2 (h0 ++ [.lst (acc ++ [g x])])) ∧ P e2) →
    acc.length + l.length ≤ LIM → ∃ e', P e' ∧ forI tg b (l.map f) e (h0 ++ [.lst acc]) = .ok .nx e' (h0 ++ [.lst (acc ++ l.map g)])
  | [], acc, e, p, _, _ => ⟨e, p, by simp [forI]⟩
  | x :: l, acc, e, p, k, hl => by
    obtain ⟨e1, e2, h1, h2, p2⟩ := k x (List.mem_cons_self ..) acc e p
    have h2 := h2 (by simp at hl; omega)
    obtain ⟨e', p', r⟩ := forI_app f g P h0 l (acc ++ [g x]) e2 p2 (fun y hy => k y (List.mem_cons_of_mem _ hy)) (by simp at hl ⊢; omega)
    refine ⟨e', p', ?_⟩
    have ef : forI tg b ((x :: l).map f) e (h0 ++ [.lst acc]) = forI tg b (l.map f) e2 (h0 ++ [.lst (acc ++ [g x])]) := by simp only [List.map_cons, forI, h1, then_ok, h2, HS.bind]
    rw [ef, r, List.append_assoc]; rfl
theorem mulOk_l {i j : Int} (h : -18446744073709551616 < i ∧ i < 18446744073709551616) : mulOk i j = true := by
  unfold mulOk
  rw [Bool.or_eq_true, Bool.or_eq_true]
  exact .inl (.inl (decide_eq_true (by omega)))
theorem mulOk_r {i j : Int} (h : -18446744073709551616 < j ∧ j < 18446744073709551616) : mulOk i j = true := by
  unfold mulOk
  rw [Bool.or_eq_true, Bool.or_eq_true]
  exact .inl (.inr (decide_eq_true (by omega)))
theorem mul_l {mu : Bool} {h : HH} {i j : Int} (q : -18446744073709551616 < i ∧ i < 18446744073709551616) : binH mu .mul (.int i) (.int j) h = .ok (.int (i * j)) h := bin_muli (mulOk_l q)
theorem mul_r {mu : Bool} {h : HH} {i j : Int} (q : -18446744073709551616 < j ∧ j < 18446744073709551616) : binH mu .mul (.int i) (.int j) h = .ok (.int (i * j)) h := bin_muli (mulOk_r q)
theorem mulOk_b {i j : Int} (hi : -10 ^ 60 < i ∧ i < 10 ^ 60) (hj : -10 ^ 60 < j ∧ j < 10 ^ 60) : mulOk i j = true := by
  unfold mulOk
  rw [Bool.or_eq_true, Bool.and_eq_true]
  have h1 : i.natAbs < 10 ^ 60 := by omega
  have h2 : j.natAbs < 10 ^ 60 := by omega
  have h3 : 10 ^ 60 < 2 ^ 1000 := by decide
  exact .inr ⟨decide_eq_true (Nat.lt_trans h1 h3), decide_eq_true (Nat.lt_trans h2 h3)⟩
theorem pow_18 {mu : Bool} {h : HH} : binH mu .pow (.int 10) (.int 18) h = .ok (.int 1000000000000000000) h := by
  show (if (0 : Int) ≤ 18 ∧ (18 : Int) ≤ 1000 ∧ (10 : Int).natAbs < 2 ^ 64 then HR.ok (HV.int ((10 : Int) ^ (18 : Int).toNat)) h else .no) = _
  rw [if_pos (by decide)]
  rfl
theorem atI_nn {α : Type} {l : List α} {i : Int} (h : 0 ≤ i) : L2.atI l i = l[i.toNat]? := by
  obtain ⟨n, rfl⟩ : ∃ n : Nat, i = n := ⟨i.toNat, by omega⟩
  rw [atI_nat]; rfl
theorem ix_sc {h : HH} {ns : List Int} {i : Int} : ixH (.sc ns) (.int i) h = HR.of ((L2.atI ns i).map .int) h := nr rfl
theorem ix_str {h : HH} {z : Str} {i : Int} (q : z.length ≤ LIM) : ixH (.str z) (.int i) h = HR.of ((L2.atI z.cps.toList i).map fun c => .str ⟨#[c]⟩) h := by
  show (if z.length ≤ LIM then HR.of ((L2.atI z.cps.toList i).map fun c => HV.str ⟨#[c]⟩) h else .no) = _
  rw [if_pos q]
theorem ix_let {h : HH} {i : Int} (q : 0 ≤ i ∧ i < 26) : ixH (.str lettersS) (.int i) h = .ok (.str ⟨#[LTR i]⟩) h := by
  rw [ix_str (by show 26 ≤ 100000; decide), atI_nn q.1]
  have hl : i.toNat < lettersS.cps.toList.length := by show i.toNat < 26; omega
  unfold LTR
  rw [List.getD_eq_getElem?_getD, List.getElem?_eq_getElem hl]
  rfl
theorem ir1_is {h : HH} {j : Int} (q : 0 ≤ j ∧ j < 1000000000) : ir1H (.int j) h = .ok (.its ((List.range j.toNat).map fun (i : Nat) => HV.int i), j.toNat) h := by
  show (if rngOk j = true then HR.ok (HSrc.its (rngL 0 j.toNat), j.toNat) h else .no) = _
  rw [if_pos (by unfold rngOk; rw [Bool.and_eq_true]; exact ⟨decide_eq_true (by omega), decide_eq_true (by omega)⟩), rngL_map]
  congr 4
  funext i
  simp
theorem ir2_is {h : HH} {i j : Int} (q : 0 ≤ i ∧ i < 1000000000 ∧ 0 ≤ j ∧ j < 1000000000) : ir2H (.int i) (.int j) h = .ok (.its ((List.range (j - i).toNat).map fun (n : Nat) => HV.int (i + n)), (j - i).toNat) h := by
  show (if rngOk i = true ∧ rngOk j = true then HR.ok (HSrc.its (rngL i (j - i).toNat), (j - i).toNat) h else .no) = _
  rw [if_pos (by unfold rngOk; rw [Bool.and_eq_true, Bool.and_eq_true]; exact ⟨⟨decide_eq_true (by omega), decide_eq_true (by omega)⟩, ⟨decide_eq_true (by omega), decide_eq_true (by omega)⟩⟩), rngL_map]
theorem for_nil {tg : HV → HE → HH → HR HE} {b : HE → HH → HS} {e : HE} {h : HH} : forI tg b [] e h = .ok .nx e h := nr rfl
theorem for_cons {tg : HV → HE → HH → HR HE} {b : HE → HH → HS} {e e1 e2 : HE} {h h1 h2 : HH} {x : HV} {l : List HV} (a : tg x e h = .ok e1 h1) (c : b e1 h1 = .ok .nx e2 h2) : forI tg b (x :: l) e h = forI tg b l e2 h2 := by
  simp only [forI, a, then_ok, c, HS.bind]
theorem str_app {l m : List Nat} : (⟨l.toArray⟩ : Str) ++ ⟨m.toArray⟩ = ⟨(l ++ m).toArray⟩ := by
  show (⟨l.toArray ++ m.toArray⟩ : Str) = _
  rw [List.append_toArray]
end MH

end
section
set_option linter.all false
set_option maxRecDepth 100000
/-! MW6: books drawn by the cells; views of what is told. -/
namespace MH
open MP PySem
theorem mapO_rf {k : Nat} {h : HH} : ∀ {xs : List HV}, (∀ x ∈ xs, rf x = true) → mapO (vw k h) xs = some xs
  | [], _ => rfl
  | x :: xs, f => by
    simp only [mapO, vw_rf (f x (List.mem_cons_self ..)), mapO_rf fun y hy => f y (List.mem_cons_of_mem _ hy)]
theorem vw_ref {k : Nat} {h : HH} {n : Nat} {xs : List HV} (e : h[n]? = some (.lst xs)) (f : ∀ x ∈ xs, rf x = true) : vw (k + 1) h (.ref n) = some (.fl xs) := by
  unfold vw
  rw [show rf (.ref n) = false from rfl, cond_false]
  dsimp only
  rw [e]
  dsimp only
  rw [mapO_rf f]; rfl
theorem rf_strm (l : List Str) : ∀ x ∈ l.map HV.str, rf x = true := fun x hx => by
  obtain ⟨y, _, rfl⟩ := List.mem_map.mp hx; rfl
theorem rf_encm (l : List (List Str)) : ∀ x ∈ l.map encS, rf x = true := fun x hx => by
  obtain ⟨y, _, rfl⟩ := List.mem_map.mp hx; exact rf_encS y
theorem rf_entm (l : List Ent) : ∀ x ∈ l.map encE, rf x = true := fun x hx => by
  obtain ⟨y, _, rfl⟩ := List.mem_map.mp hx; exact rf_encE y
/-- the i-th entry that is drawn -/
def entF (ns : List Int) (i : Int) (many : Nat) (j : Nat) : Ent :=
  let w := wordsF (numF (cellF ns i) (i + 1) 208) (many + 2)
  let more := cellF ns (i + (j : Int) % 7) + 19 * (j : Int)
  if numF more j 4 < [3, 1, 2].getD (numF (cellF ns i) (i + 3) 3).toNat 0 then
    .to (w.getD j Str.empty) (w.getD (numF more (j + 1) (many + 2)).toNat Str.empty)
  else .is (w.getD j Str.empty) (sensesF more j w)
def manyF (ns : List Int) (i most : Int) : Nat := (numF (cellF ns i) (i + 2) (most + 1)).toNat
def entsF (ns : List Int) (i : Int) (many : Nat) : List Ent := (List.range many).map (entF ns i many)
def bookF (ns : List Int) (i most : Int) : Book := sortE (entsF ns i (manyF ns i most))
theorem entF_w {ns : List Int} {i : Int} {many j : Nat} : (entF ns i many j).w = (wordsF (numF (cellF ns i) (i + 1) 208) (many + 2)).getD j Str.empty := by
  unfold entF
  dsimp only
  split <;> rfl
theorem wordsF_getD {t : Int} {many j : Nat} (h : j < many) : (wordsF t many).getD j Str.empty = wordF (t + 11 * j) := by
  unfold wordsF
  rw [List.getD_eq_getElem?_getD, List.getElem?_map, List.getElem?_range h]
  rfl
theorem ents_ws {ns : List Int} {i : Int} {many : Nat} : ws (entsF ns i many) = wordsF (numF (cellF ns i) (i + 1) 208) many := by
  unfold ws entsF
  rw [List.map_map]
  unfold wordsF
  apply List.map_congr_left
  intro j hj
  have hj := List.mem_range.mp hj
  show (entF ns i many j).w = _
  rw [entF_w, wordsF_getD (by omega)]
theorem entF_ok {ns : List Int} {i : Int} {many j : Nat} (h : j < many) : okE (entF ns i many j) = true := by
  have hw := wordsF_W (numF (cellF ns i) (i + 1) 208) (many + 2)
  have hl := wordsF_len (numF (cellF ns i) (i + 1) 208) (many + 2)
  unfold entF
  dsimp only
  generalize wordsF (numF (cellF ns i) (i + 1) 208) (many + 2) = w at hw hl
  split
  · have h3 := numF_lt (c := cellF ns (i + (j : Int) % 7) + 19 * (j : Int)) (k := j + 1) (l := many + 2) (by omega)
    simp only [okE, Bool.and_eq_true]
    exact ⟨getD_W hw (by omega), getD_W hw (by omega)⟩
  · obtain ⟨h1, h2, h3⟩ := sensesF_ok (c := cellF ns (i + (j : Int) % 7) + 19 * (j : Int)) (at_ := j) hw (by omega)
    simp only [okE, h3, Bool.and_eq_true, decide_eq_true_eq]
    exact ⟨⟨⟨getD_W hw (by omega), h1⟩, h2⟩, trivial⟩
theorem manyF_le {ns : List Int} {i most : Int} (h : 0 ≤ most) : (manyF ns i most : Int) ≤ most := by
  have := numF_lt (c := cellF ns i) (k := i + 2) (l := most + 1) (by omega)
  unfold manyF
  omega
theorem bookF_ok {ns : List Int} {i most : Int} (h : 0 ≤ most ∧ most ≤ 24) : okB (bookF ns i most) = true := by
  have hm := manyF_le (ns := ns) (i := i) h.1
  refine sortE_ok (fun x hx => ?_) ?_ ?_
  · obtain ⟨j, hj, rfl⟩ := List.mem_map.mp hx
    exact entF_ok (List.mem_range.mp hj)
  · rw [ents_ws]
    exact wordsF_nodup _ _ (by omega)
  · simp [entsF]; omega
/-! ### names -/
def namesE : Ent → List Str
  | .to w o => [w, o]
  | .is w ss => w :: (ss.headD [] ++ ss.getLastD [])
def namedF (b : Book) : List Str := setSorted (b.flatMap namesE)
theorem namesE_W {x : Ent} (h : okE x = true) : (∀ y ∈ namesE x, isW y = true) ∧ (namesE x).length ≤ 7 := by
  cases x with
  | to w o =>
    simp only [okE, Bool.and_eq_true] at h
    refine ⟨fun y hy => ?_, by simp [namesE]⟩
    simp only [namesE, List.mem_cons, List.not_mem_nil, or_false] at hy
    rcases hy with q | q
    · rw [q]; exact h.1
    · rw [q]; exact h.2
  | is w ss =>
    simp only [okE, Bool.and_eq_true, decide_eq_true_eq, List.all_eq_true] at h
    obtain ⟨⟨⟨h1, h2⟩, h3⟩, h4⟩ := h
    have hh : ss.headD [] ∈ ss := by cases ss with
      | nil => simp at h2
      | cons a l => simp
    have hl : ss.getLastD [] ∈ ss := by
      rw [List.getLastD_eq_getLast?]
      cases e : ss.getLast? with
      | none => rw [List.getLast?_eq_none_iff] at e; subst e; simp at h2
      | some a => exact List.mem_of_getLast? e
    have a1 := h4 _ hh
    have a2 := h4 _ hl
    refine ⟨fun y hy => ?_, by simp only [namesE, List.length_cons, List.length_append]; omega⟩
    simp only [namesE, List.mem_cons, List.mem_append] at hy
    rcases hy with q | q | q
    · rw [q]; exact h1
    · exact a1.2 y q
    · exact a2.2 y q
theorem dedup_mem {lt : Str → Str → Bool} {y : Str} : ∀ {l : List Str}, y ∈ dedup lt l ↔ y ∈ l
  | [] => by simp [dedup]
  | x :: l => by
    have ih := dedup_mem (lt := lt) (y := y) (l := l)
    unfold dedup
    rw [any_strEq']
    by_cases h : x ∈ l
    · simp only [h, decide_true, if_true, ih, List.mem_cons]
      constructor
      · exact .inr
      · rintro (q | q)
        · rw [q]; exact h
        · exact q
    · simp only [h, decide_false, Bool.false_eq_true, if_false, List.mem_cons, ih]
theorem setSorted_mem {y : Str} {l : List Str} : y ∈ setSorted l ↔ y ∈ l := by
  unfold setSorted
  rw [sortBy_mem, dedup_mem]
theorem namedF_W {b : Book} (hb : okB b = true) : ∀ y ∈ namedF b, isW y = true := fun y hy => by
  obtain ⟨x, hx, hy⟩ := List.mem_flatMap.mp (setSorted_mem.mp hy)
  exact (namesE_W ((okB_all hb).2.1 x hx)).1 y hy
theorem names_len : ∀ {b : Book}, (∀ x ∈ b, okE x = true) → (b.flatMap namesE).length ≤ 7 * b.length
  | [], _ => Nat.zero_le _
  | x :: b, h => by
    have h1 := (namesE_W (h x (List.mem_cons_self ..))).2
    have h2 := names_len fun y hy => h y (List.mem_cons_of_mem _ hy)
    simp only [List.flatMap_cons, List.length_append, List.length_cons]
    omega
theorem namedF_len {b : Book} (hb : okB b = true) : (namedF b).length ≤ 280 := by
  have h1 := names_len (okB_all hb).2.1
  have h2 := (okB_all hb).1
  have : (namedF b).length ≤ (b.flatMap namesE).length := by
    unfold namedF setSorted
    rw [sortBy_len]
    exact dedup_len _ _
  omega
def encO : Option Ent → HV
  | none => .non
  | some x => encE x
theorem rf_encO (o : Option Ent) : rf (encO o) = true := by cases o <;> first | rfl | exact rf_encE _
theorem is_encE (x : Ent) : isH (encE x) .non = some false := by cases x <;> rfl
def endI : Way → Int
  | .head _ => -1
  | .lost _ => -2
  | .ring _ i => i
  | .out => 0
theorem sset_words {h : HH} {l : List Str} (hl : l.length ≤ 4000) : ssetH false (encS l) h = .ok (encS (setSorted l)) h := by
  show (match (some (l.map HV.str)).bind strsH with | some ss => if ss.length ≤ 4000 then mkL false ((setSorted ss).map HV.str) h else .no | none => .no) = _
  rw [Option.bind_some, strsH_map]
  dsimp only
  rw [if_pos hl]; rfl
theorem list_fl {h : HH} {xs : List HV} : bfH false .list [.fl xs] h = .ok (.fl xs) h := nr rfl
theorem sorted_ref {h : HH} {n : Nat} {xs : List HV} (e : h[n]? = some (.lst xs)) : bfH false .sorted [.ref n] h = sortedH false xs h := by
  show (match lstH h (.ref n) with | some ys => sortedH false ys h | none => .no) = _
  rw [lst_ref e]
theorem eq_bools {h : HH} {a b : Bool} : eqH h (.bl a) (.bl b) = some (a == b) := nr rfl
theorem cnt_at {n : Int} (h : 0 ≤ n ∧ n < 5) : L2.atI [HV.int 1, .int 2, .int 0, .int 3, .int 1] n = some (.int ((cnts.getD n.toNat 0 : Nat) : Int)) := by
  have e : n = 0 ∨ n = 1 ∨ n = 2 ∨ n = 3 ∨ n = 4 := by omega
  rcases e with e | e | e | e | e <;> subst e <;> rfl
theorem kind_at {n : Int} (h : 0 ≤ n ∧ n < 3) : L2.atI [HV.int 3, .int 1, .int 2] n = some (.int (([3, 1, 2] : List Int).getD n.toNat 0)) := by
  have e : n = 0 ∨ n = 1 ∨ n = 2 := by omega
  rcases e with e | e | e <;> subst e <;> rfl
theorem word_at {w : List Str} {n : Int} (h : 0 ≤ n ∧ n < w.length) : L2.atI (w.map HV.str) n = some (.str (w.getD n.toNat Str.empty)) := by
  have hi : n.toNat < w.length := by omega
  rw [atI_nn h.1, List.getElem?_map, List.getElem?_eq_getElem hi, List.getD_eq_getElem?_getD, List.getElem?_eq_getElem hi]
  rfl
section
variable {T : Tb} {h : HH} {n c : Nat} {fs : List (Str × HV)}
theorem isi_ref {d : CI} (e : h[n]? = some (.ins c fs)) (q : okC T c = true) : isiH T h (.ref n) d = some (isOwn T c d) := by simp only [isiH, e, if_pos q]
theorem ins_ref (e : h[n]? = some (.ins c fs)) : insH h (.ref n) = some (c, fs) := by simp only [insH, e]
theorem fld_ref {f : Str} {v : HV} (e : h[n]? = some (.ins c fs)) (q : okC T c = true) (lk : lookK fs f = some v) : fldH T (.ref n) f h = .ok v h := by
  unfold fldH
  rw [ins_ref e]
  dsimp only
  rw [if_pos q, lk]; rfl
theorem pick_cons {m : Str} {d f : Nat} {r : List (Nat × Nat)} (e : h[n]? = some (.ins c fs)) : pickH h m (.ref n) ((d, f) :: r) = bif Nat.beq c d && (lookK fs m).isNone then some f else pickH h m (.ref n) r := by
  show (bif hasMH h d m (.ref n) then some f else pickH h m (.ref n) r) = _
  unfold hasMH
  rw [ins_ref e]
theorem isi_lstr {xs : List HV} (e : h[n]? = some (.lst xs)) : isiH T h (.ref n) .lst = some true := by simp only [isiH, e]; rfl
theorem is_bb {a b : Bool} : isH (.bl a) (.bl b) = some (decide (a = b)) := nr rfl
end
theorem enumL_map {α : Type} (f : α → HV) : ∀ (l : List α) (i : Nat), enumL i (l.map f) = (l.zipIdx i).map fun p => .ft [.int (p.2 : Nat), f p.1]
  | [], _ => rfl
  | x :: l, i => by
    rw [List.map_cons, enumL, enumL_map f l (i + 1), List.zipIdx_cons, List.map_cons]
theorem atI_prev {α : Type} (f : α → HV) {l : List α} (hn : l ≠ []) {a : Nat} (ha : a ≤ l.length) : ∃ x ∈ l, L2.atI (l.map f) ((a : Int) - 1) = some (f x) := by
  cases a with
  | zero =>
    refine ⟨l.getLast hn, List.getLast_mem hn, ?_⟩
    rw [show ((0 : Nat) : Int) - 1 = -1 from rfl, atI_last, List.getLast?_map, List.getLast?_eq_some_getLast hn]
    rfl
  | succ a =>
    have hl : a < l.length := by omega
    refine ⟨l[a], List.getElem_mem hl, ?_⟩
    rw [show ((a + 1 : Nat) : Int) - 1 = (a : Int) by omega, atI_nat, List.getElem?_map, List.getElem?_eq_getElem hl]
    rfl
def isTT : HS → Bool
  | .ok (.rt (.bl b)) _ _ => b
  | _ => false
theorem isTT_is {x : HS} (h : isTT x = true) : ∃ e hh, x = .ok (.rt (.bl true)) e hh := by
  unfold isTT at h
  split at h
  · subst h; exact ⟨_, _, rfl⟩
  · cases h
def tailOf : A → A
  | .scons _ b => b
  | a => a
end MH

end
namespace K01
open PySem MP MH
def b_is_text : A :=
    (.scons (.ret (.and (.isi (.var 0) (.str)) (.and (.chain .le .le (.var 1) (.bf .len (.cons (.var 0) .nil)) (.var 2)) (.bf .all (.cons (.comp (.cmp .isin (.var 3) (.gc ⟨#[76, 69, 84, 84, 69, 82, 83]⟩ (.str ⟨#[97, 98, 99, 100, 101, 102, 103, 104, 105, 106, 107, 108, 109, 110, 111, 112, 113, 114, 115, 116, 117, 118, 119, 120, 121, 122]⟩))) (.tn 3) (.ikv 0) .nil [3]) .nil)))))
    .snil)
def f_is_text : FT := ⟨3, 4, b_is_text⟩
def b_is_word : A :=
    (.scons (.ret (.pu (.call 0 (.cons (.var 0) (.cons (.int 1) (.cons (.gc ⟨#[76, 79, 78, 71, 69, 83, 84]⟩ (.int 4)) .nil))))))
    .snil)
def f_is_word : FT := ⟨1, 1, b_is_word⟩
def b_is_sense : A :=
    (.scons (.ret (.and (.isi (.var 0) (.lst)) (.and (.cmp .le (.bf .len (.cons (.var 0) .nil)) (.gc ⟨#[77, 79, 83, 84, 95, 87, 79, 82, 68, 83]⟩ (.int 3))) (.bf .all (.cons (.comp (.pu (.call 1 (.cons (.var 1) .nil))) (.tn 1) (.ikv 0) .nil [1]) .nil)))))
    .snil)
def f_is_sense : FT := ⟨1, 2, b_is_sense⟩
def b_is_entry : A :=
    (.scons (.sif (.or (.not (.isi (.var 0) (.tup))) (.or (.cmp .ne (.bf .len (.cons (.var 0) .nil)) (.int 3)) (.or (.not (.pu (.call 1 (.cons (.ix (.var 0) (.int 0)) .nil)))) (.not (.isi (.ix (.var 0) (.int 1)) (.str))))))
    (.scons (.ret (.bl false))
    .snil)
    .snil)
    (.scons (.sif (.cmp .eq (.ix (.var 0) (.int 1)) (.str ⟨#[116, 111]⟩))
    (.scons (.ret (.pu (.call 1 (.cons (.ix (.var 0) (.int 2)) .nil))))
    .snil)
    .snil)
    (.scons (.sif (.or (.cmp .ne (.ix (.var 0) (.int 1)) (.str ⟨#[105, 115]⟩)) (.or (.not (.isi (.ix (.var 0) (.int 2)) (.lst))) (.not (.chain .le .le (.int 1) (.bf .len (.cons (.ix (.var 0) (.int 2)) .nil)) (.gc ⟨#[77, 79, 83, 84, 95, 83, 69, 78, 83, 69, 83]⟩ (.int 2))))))
    (.scons (.ret (.bl false))
    .snil)
    .snil)
    (.scons (.ret (.bf .all (.cons (.comp (.pu (.call 2 (.cons (.var 1) .nil))) (.tn 1) (.iex (.ix (.var 0) (.int 2))) .nil [1]) .nil)))
    .snil))))
def f_is_entry : FT := ⟨1, 2, b_is_entry⟩
def b_are_rising : A :=
    (.scons (.ret (.bf .all (.cons (.comp (.cmp .lt (.var 1) (.var 2)) (.tt 2 (.cons (.tn 1) (.cons (.tn 2) .nil))) (.izp (.var 0) (.sl (.var 0) (.int 1) .nil)) .nil [1, 2]) .nil)))
    .snil)
def f_are_rising : FT := ⟨1, 3, b_are_rising⟩
def b_check_book : A :=
    (.scons (.sif (.or (.not (.isi (.var 0) (.lst))) (.or (.cmp .gt (.bf .len (.cons (.var 0) .nil)) (.gc ⟨#[77, 79, 83, 84, 95, 69, 78, 84, 82, 73, 69, 83]⟩ (.int 40))) (.not (.bf .all (.cons (.comp (.pu (.call 3 (.cons (.var 1) .nil))) (.tn 1) (.ikv 0) .nil [1]) .nil)))))
    (.scons .sno
    .snil)
    .snil)
    (.scons (.sif (.not (.pu (.call 4 (.cons (.comp (.ix (.var 1) (.int 0)) (.tn 1) (.ikv 0) .nil [1]) .nil))))
    (.scons .sno
    .snil)
    .snil)
    .snil))
def f_check_book : FT := ⟨1, 2, b_check_book⟩
def b_check_word : A :=
    (.scons (.sif (.not (.pu (.call 1 (.cons (.var 0) .nil))))
    (.scons .sno
    .snil)
    .snil)
    .snil)
def f_check_word : FT := ⟨1, 1, b_check_word⟩
def b_known_by : A :=
    (.scons (.ret (.bf .dict (.cons (.comp (.tup (.cons (.ix (.var 1) (.int 0)) (.cons (.var 1) .nil))) (.tn 1) (.ikv 0) .nil [1]) .nil)))
    .snil)
def f_known_by : FT := ⟨1, 2, b_known_by⟩
def b0_is_led : A :=
    (.scons (.sif (.or (.cmp .nin (.var 4) (.var 3)) (.or (.cmp .ne (.ix (.ix (.var 3) (.var 4)) (.int 1)) (.str ⟨#[116, 111]⟩)) (.cmp .ne (.ix (.ix (.var 3) (.var 4)) (.int 2)) (.var 5))))
    (.scons (.ret (.bl false))
    .snil)
    .snil)
    .snil)
def b_is_led : A :=
    (.scons (.sas (.tn 3) (.call 7 (.cons (.var 0) .nil)))
    (.scons (.sif (.or (.cmp .eq (.var 2) (.lst .nil)) (.or (.cmp .ne (.ix (.var 2) (.int 0)) (.var 1)) (.cmp .lt (.lset (.var 2)) (.bf .len (.cons (.var 2) .nil)))))
    (.scons (.ret (.bl false))
    .snil)
    .snil)
    (.scons (.sfor (.tt 2 (.cons (.tn 4) (.cons (.tn 5) .nil))) (.izp (.var 2) (.sl (.var 2) (.int 1) .nil)) b0_is_led)
    (.scons (.ret (.bl true))
    .snil))))
def f_is_led : FT := ⟨3, 6, b_is_led⟩
def b_Head___init__ : A :=
    (.scons (.sas (.tf (.var 0) ⟨#[119, 97, 121]⟩) (.mu (.bf .list (.cons (.var 1) .nil))))
    .snil)
def f_Head___init__ : FT := ⟨2, 2, b_Head___init__⟩
def b_Head_shows : A :=
    (.scons (.sas (.tn 3) (.call 7 (.cons (.var 1) .nil)))
    (.scons (.sif (.not (.pu (.call 8 (.cons (.var 1) (.cons (.var 2) (.cons (.fld (.var 0) ⟨#[119, 97, 121]⟩) .nil))))))
    (.scons (.ret (.bl false))
    .snil)
    .snil)
    (.scons (.ret (.and (.cmp .isin (.ix (.fld (.var 0) ⟨#[119, 97, 121]⟩) (.neg (.int 1))) (.var 3)) (.cmp .eq (.ix (.ix (.var 3) (.ix (.fld (.var 0) ⟨#[119, 97, 121]⟩) (.neg (.int 1)))) (.int 1)) (.str ⟨#[105, 115]⟩))))
    .snil)))
def f_Head_shows : FT := ⟨3, 4, b_Head_shows⟩
def b_Lost___init__ : A :=
    (.scons (.sas (.tf (.var 0) ⟨#[119, 97, 121]⟩) (.mu (.bf .list (.cons (.var 1) .nil))))
    .snil)
def f_Lost___init__ : FT := ⟨2, 2, b_Lost___init__⟩
def b_Lost_shows : A :=
    (.scons (.ret (.and (.pu (.call 8 (.cons (.var 1) (.cons (.var 2) (.cons (.fld (.var 0) ⟨#[119, 97, 121]⟩) .nil))))) (.cmp .nin (.ix (.fld (.var 0) ⟨#[119, 97, 121]⟩) (.neg (.int 1))) (.call 7 (.cons (.var 1) .nil)))))
    .snil)
def f_Lost_shows : FT := ⟨3, 3, b_Lost_shows⟩
def b_Ring___init__ : A :=
    (.scons (.sas (.tf (.var 0) ⟨#[119, 97, 121]⟩) (.mu (.bf .list (.cons (.var 1) .nil))))
    (.scons (.sas (.tf (.var 0) ⟨#[112, 108, 97, 99, 101]⟩) (.var 2))
    .snil))
def f_Ring___init__ : FT := ⟨3, 3, b_Ring___init__⟩
def b_Ring_shows : A :=
    (.scons (.sas (.tn 3) (.call 7 (.cons (.var 1) .nil)))
    (.scons (.sif (.or (.not (.pu (.call 8 (.cons (.var 1) (.cons (.var 2) (.cons (.fld (.var 0) ⟨#[119, 97, 121]⟩) .nil)))))) (.or (.cmp .nin (.ix (.fld (.var 0) ⟨#[119, 97, 121]⟩) (.neg (.int 1))) (.var 3)) (.not (.chain .le .lt (.int 0) (.fld (.var 0) ⟨#[112, 108, 97, 99, 101]⟩) (.bf .len (.cons (.fld (.var 0) ⟨#[119, 97, 121]⟩) .nil))))))
    (.scons (.ret (.bl false))
    .snil)
    .snil)
    (.scons (.sas (.tn 4) (.ix (.var 3) (.ix (.fld (.var 0) ⟨#[119, 97, 121]⟩) (.neg (.int 1)))))
    (.scons (.ret (.and (.cmp .eq (.ix (.var 4) (.int 1)) (.str ⟨#[116, 111]⟩)) (.cmp .eq (.ix (.var 4) (.int 2)) (.ix (.fld (.var 0) ⟨#[119, 97, 121]⟩) (.fld (.var 0) ⟨#[112, 108, 97, 99, 101]⟩)))))
    .snil))))
def f_Ring_shows : FT := ⟨3, 5, b_Ring_shows⟩
def b_is_told_by : A :=
    (.scons (.sif (.cmp .nin (.var 1) (.var 0))
    (.scons (.ret (.bl false))
    .snil)
    .snil)
    (.scons (.sas (.tn 3) (.ix (.var 0) (.var 1)))
    (.scons (.sif (.cmp .eq (.ix (.var 3) (.int 1)) (.str ⟨#[116, 111]⟩))
    (.scons (.ret (.cmp .isin (.ix (.var 3) (.int 2)) (.var 2)))
    .snil)
    .snil)
    (.scons (.ret (.bf .any (.cons (.comp (.bf .all (.cons (.comp (.cmp .isin (.var 4) (.var 2)) (.tn 4) (.ikv 5) .nil [4]) .nil)) (.tn 5) (.iex (.ix (.var 3) (.int 2))) .nil [5]) .nil)))
    .snil))))
def f_is_told_by : FT := ⟨3, 6, b_is_told_by⟩
def b_Grasped___init__ : A :=
    (.scons (.sas (.tf (.var 0) ⟨#[111, 114, 100, 101, 114]⟩) (.mu (.bf .list (.cons (.var 1) .nil))))
    .snil)
def f_Grasped___init__ : FT := ⟨2, 2, b_Grasped___init__⟩
def b0_Grasped_shows : A :=
    (.scons (.sif (.and (.cmp .nin (.var 6) (.var 2)) (.not (.pu (.call 15 (.cons (.var 4) (.cons (.var 6) (.cons (.sl (.fld (.var 0) ⟨#[111, 114, 100, 101, 114]⟩) .nil (.var 5)) .nil)))))))
    (.scons (.ret (.bl false))
    .snil)
    .snil)
    .snil)
def b_Grasped_shows : A :=
    (.scons (.sas (.tn 4) (.call 7 (.cons (.var 1) .nil)))
    (.scons (.sif (.or (.cmp .lt (.lset (.fld (.var 0) ⟨#[111, 114, 100, 101, 114]⟩)) (.bf .len (.cons (.fld (.var 0) ⟨#[111, 114, 100, 101, 114]⟩) .nil))) (.cmp .ne (.sl (.fld (.var 0) ⟨#[111, 114, 100, 101, 114]⟩) (.neg (.int 1)) .nil) (.lst (.cons (.var 3) .nil))))
    (.scons (.ret (.bl false))
    .snil)
    .snil)
    (.scons (.sfor (.tt 2 (.cons (.tn 5) (.cons (.tn 6) .nil))) (.ien (.fld (.var 0) ⟨#[111, 114, 100, 101, 114]⟩)) b0_Grasped_shows)
    (.scons (.ret (.bl true))
    .snil))))
def f_Grasped_shows : FT := ⟨4, 7, b_Grasped_shows⟩
def b_Dark___init__ : A :=
    (.scons (.sas (.tf (.var 0) ⟨#[119, 111, 114, 100, 115]⟩) (.mu (.bf .list (.cons (.var 1) .nil))))
    .snil)
def f_Dark___init__ : FT := ⟨2, 2, b_Dark___init__⟩
def b0_Dark_shows : A :=
    (.scons (.sif (.cmp .isin (.var 5) (.var 2))
    (.scons (.ret (.bl false))
    .snil)
    .snil)
    (.scons (.sif (.and (.cmp .isin (.var 5) (.var 4)) (.and (.cmp .eq (.ix (.ix (.var 4) (.var 5)) (.int 1)) (.str ⟨#[116, 111]⟩)) (.cmp .nin (.ix (.ix (.var 4) (.var 5)) (.int 2)) (.fld (.var 0) ⟨#[119, 111, 114, 100, 115]⟩))))
    (.scons (.ret (.bl false))
    .snil)
    .snil)
    (.scons (.sif (.and (.cmp .isin (.var 5) (.var 4)) (.cmp .eq (.ix (.ix (.var 4) (.var 5)) (.int 1)) (.str ⟨#[105, 115]⟩)))
    (.scons (.sif (.not (.bf .all (.cons (.comp (.bf .any (.cons (.comp (.cmp .isin (.var 6) (.fld (.var 0) ⟨#[119, 111, 114, 100, 115]⟩)) (.tn 6) (.ikv 7) .nil [6]) .nil)) (.tn 7) (.iex (.ix (.ix (.var 4) (.var 5)) (.int 2))) .nil [7]) .nil)))
    (.scons (.ret (.bl false))
    .snil)
    .snil)
    .snil)
    .snil)
    .snil)))
def b_Dark_shows : A :=
    (.scons (.sif (.or (.cmp .nin (.var 3) (.fld (.var 0) ⟨#[119, 111, 114, 100, 115]⟩)) (.cmp .ne (.fld (.var 0) ⟨#[119, 111, 114, 100, 115]⟩) (.sset (.fld (.var 0) ⟨#[119, 111, 114, 100, 115]⟩))))
    (.scons (.ret (.bl false))
    .snil)
    .snil)
    (.scons (.sas (.tn 4) (.call 7 (.cons (.var 1) .nil)))
    (.scons (.sfor (.tn 5) (.iex (.fld (.var 0) ⟨#[119, 111, 114, 100, 115]⟩)) b0_Dark_shows)
    (.scons (.ret (.bl true))
    .snil))))
def f_Dark_shows : FT := ⟨4, 8, b_Dark_shows⟩
def c0_looked_of : A :=
    (.and (.cmp .isin (.var 4) (.var 2)) (.cmp .eq (.ix (.ix (.var 2) (.var 4)) (.int 1)) (.str ⟨#[116, 111]⟩)))
def b0_looked_of : A :=
    (.scons (.sas (.tn 4) (.ix (.ix (.var 2) (.var 4)) (.int 2)))
    (.scons (.sif (.cmp .isin (.var 4) (.var 3))
    (.scons (.ret (.make 6 (.cons (.var 3) (.cons (.bm (.var 3) .index (.cons (.var 4) .nil)) .nil))))
    .snil)
    .snil)
    (.scons (.sex (.bm (.var 3) .append (.cons (.var 4) .nil)))
    .snil)))
def b_looked_of : A :=
    (.scons (.spar [2, 3, 4] (.cons (.call 7 (.cons (.var 0) .nil)) (.cons (.mu (.lst (.cons (.var 1) .nil))) (.cons (.var 1) .nil))))
    (.scons (.swh c0_looked_of b0_looked_of)
    (.scons (.ret (.ife (.cmp .isin (.var 4) (.var 2)) (.make 4 (.cons (.var 3) .nil)) (.make 5 (.cons (.var 3) .nil))))
    .snil)))
def f_looked_of : FT := ⟨2, 5, b_looked_of⟩
def b_looked : A :=
    (.scons (.sex (.pu (.call 5 (.cons (.var 0) .nil))))
    (.scons (.sex (.pu (.call 6 (.cons (.var 1) .nil))))
    (.scons (.ret (.call 20 (.cons (.var 0) (.cons (.var 1) .nil))))
    .snil)))
def f_looked : FT := ⟨2, 2, b_looked⟩
def b__law_cell_at : A :=
    (.scons (.sif (.cmp .lt (.var 1) (.bf .len (.cons (.var 0) .nil)))
    (.scons (.ret (.ix (.var 0) (.var 1)))
    .snil)
    .snil)
    (.scons (.ret (.int 0))
    .snil))
def f__law_cell_at : FT := ⟨2, 2, b__law_cell_at⟩
def b__law_draw : A :=
    (.scons (.sas (.tn 3) (.tup (.cons (.int 1000003) (.cons (.int 1000033) (.cons (.int 1000037) (.cons (.int 1000039) (.cons (.int 1000081) (.cons (.int 1000099) (.cons (.int 1000117) (.cons (.int 1000121) (.cons (.int 1000133) (.cons (.int 1000151) (.cons (.int 1000159) (.cons (.int 1000171) (.cons (.int 1000183) (.cons (.int 1000187) (.cons (.int 1000193) (.cons (.int 1000199) .nil))))))))))))))))))
    (.scons (.ret (.bin .mod (.bin .mod (.bin .add (.bin .mul (.var 0) (.int 48271)) (.bin .mul (.var 1) (.int 69621))) (.ix (.var 3) (.bin .mod (.var 1) (.int 16)))) (.var 2)))
    .snil))
def f__law_draw : FT := ⟨3, 4, b__law_draw⟩
def b__law_number : A :=
    (.scons (.sif (.cmp .ge (.var 0) (.bin .pow (.int 10) (.int 18)))
    (.scons (.sas (.tn 3) (.ix (.tup (.cons (.int 1) (.cons (.int 7) (.cons (.int 49) (.cons (.int 343) (.cons (.int 2401) .nil)))))) (.bin .mod (.var 1) (.int 5))))
    (.scons (.ret (.bin .fdiv (.bin .mod (.bin .sub (.var 0) (.bin .pow (.int 10) (.int 18))) (.bin .mul (.var 3) (.var 2))) (.var 3)))
    .snil))
    .snil)
    (.scons (.sif (.cmp .lt (.var 0) (.neg (.bin .pow (.int 10) (.int 18))))
    (.scons (.sas (.tn 0) (.bin .mod (.var 0) (.int 1000811284336359577647248616306026718125307353262274591)))
    .snil)
    .snil)
    (.scons (.ret (.bin .mod (.pu (.call 23 (.cons (.bin .mul (.bin .add (.var 0) (.bin .mul (.int 977) (.var 1))) (.bin .add (.bin .add (.var 0) (.bin .mul (.int 31) (.var 1))) (.int 5))) (.cons (.bin .add (.bin .mod (.var 1) (.int 9)) (.int 1)) (.cons (.int 999983) .nil))))) (.var 2)))
    .snil)))
def f__law_number : FT := ⟨3, 4, b__law_number⟩
def b0__law_word : A :=
    (.scons (.sas (.tn 2) (.bin .add (.var 2) (.ix (.var 1) (.bin .mod (.bin .add (.bin .add (.bin .mul (.var 0) (.bin .add (.bin .mul (.int 2) (.var 4)) (.int 1))) (.var 3)) (.var 4)) (.int 26)))))
    .snil)
def b__law_word : A :=
    (.scons (.sas (.tn 1) (.str ⟨#[97, 98, 99, 100, 101, 102, 103, 104, 105, 106, 107, 108, 109, 110, 111, 112, 113, 114, 115, 116, 117, 118, 119, 120, 121, 122]⟩))
    (.scons (.spar [2, 3] (.cons (.ix (.var 1) (.bin .mod (.var 0) (.int 26))) (.cons (.bin .fdiv (.var 0) (.int 26)) .nil)))
    (.scons (.sfor (.tn 4) (.ir2 (.int 1) (.ix (.tup (.cons (.int 2) (.cons (.int 1) (.cons (.int 4) (.cons (.int 3) .nil))))) (.bin .mod (.var 3) (.int 4)))) b0__law_word)
    (.scons (.ret (.var 2))
    .snil))))
def f__law_word : FT := ⟨1, 5, b__law_word⟩
def c0__law_words : A :=
    (.cmp .lt (.bf .len (.cons (.var 4) .nil)) (.var 2))
def b0__law_words : A :=
    (.scons (.sas (.tn 6) (.pu (.call 25 (.cons (.bin .add (.var 3) (.bin .mul (.int 11) (.var 5))) .nil))))
    (.scons (.sas (.tn 4) (.ife (.cmp .isin (.var 6) (.var 4)) (.var 4) (.bin .add (.var 4) (.lst (.cons (.var 6) .nil)))))
    (.scons (.sas (.tn 5) (.bin .add (.var 5) (.int 1)))
    .snil)))
def b__law_words : A :=
    (.scons (.spar [3, 4, 5] (.cons (.pu (.call 24 (.cons (.pu (.call 22 (.cons (.var 0) (.cons (.var 1) .nil)))) (.cons (.bin .add (.var 1) (.int 1)) (.cons (.int 208) .nil))))) (.cons (.lst .nil) (.cons (.int 0) .nil))))
    (.scons (.swh c0__law_words b0__law_words)
    (.scons (.ret (.var 4))
    .snil)))
def f__law_words : FT := ⟨3, 7, b__law_words⟩
def b0__law_senses : A :=
    (.scons (.sas (.tn 5) (.ix (.tup (.cons (.int 1) (.cons (.int 2) (.cons (.int 0) (.cons (.int 3) (.cons (.int 1) .nil)))))) (.pu (.call 24 (.cons (.var 0) (.cons (.bin .add (.bin .add (.var 1) (.bin .mul (.int 3) (.var 4))) (.int 2)) (.cons (.int 5) .nil)))))))
    (.scons (.sex (.bm (.var 3) .append (.cons (.comp (.ix (.var 2) (.pu (.call 24 (.cons (.bin .add (.var 0) (.var 4)) (.cons (.bin .add (.bin .add (.var 1) (.var 6)) (.int 3)) (.cons (.bf .len (.cons (.var 2) .nil)) .nil)))))) (.tn 6) (.ir1 (.var 5)) .nil [6]) .nil)))
    .snil))
def b__law_senses : A :=
    (.scons (.sas (.tn 3) (.mu (.lst .nil)))
    (.scons (.sfor (.tn 4) (.ir1 (.bin .add (.int 1) (.pu (.call 24 (.cons (.var 0) (.cons (.bin .add (.var 1) (.int 1)) (.cons (.int 2) .nil))))))) b0__law_senses)
    (.scons (.ret (.var 3))
    .snil)))
def f__law_senses : FT := ⟨3, 7, b__law_senses⟩
def b0__law_book : A :=
    (.scons (.sas (.tn 9) (.bin .add (.pu (.call 22 (.cons (.var 0) (.cons (.bin .add (.var 1) (.bin .mod (.var 8) (.int 7))) .nil)))) (.bin .mul (.int 19) (.var 8))))
    (.scons (.sif (.cmp .lt (.pu (.call 24 (.cons (.var 9) (.cons (.var 8) (.cons (.int 4) .nil))))) (.ix (.tup (.cons (.int 3) (.cons (.int 1) (.cons (.int 2) .nil)))) (.var 6)))
    (.scons (.sex (.bm (.var 7) .append (.cons (.tup (.cons (.ix (.var 5) (.var 8)) (.cons (.str ⟨#[116, 111]⟩) (.cons (.ix (.var 5) (.pu (.call 24 (.cons (.var 9) (.cons (.bin .add (.var 8) (.int 1)) (.cons (.bin .add (.var 4) (.int 2)) .nil)))))) .nil)))) .nil)))
    .snil)
    (.scons (.sex (.bm (.var 7) .append (.cons (.tup (.cons (.ix (.var 5) (.var 8)) (.cons (.str ⟨#[105, 115]⟩) (.cons (.pu (.call 27 (.cons (.var 9) (.cons (.var 8) (.cons (.var 5) .nil))))) .nil)))) .nil)))
    .snil))
    .snil))
def b__law_book : A :=
    (.scons (.sas (.tn 3) (.pu (.call 22 (.cons (.var 0) (.cons (.var 1) .nil)))))
    (.scons (.sas (.tn 4) (.pu (.call 24 (.cons (.var 3) (.cons (.bin .add (.var 1) (.int 2)) (.cons (.bin .add (.var 2) (.int 1)) .nil))))))
    (.scons (.spar [5, 6, 7] (.cons (.pu (.call 26 (.cons (.var 0) (.cons (.var 1) (.cons (.bin .add (.var 4) (.int 2)) .nil))))) (.cons (.pu (.call 24 (.cons (.var 3) (.cons (.bin .add (.var 1) (.int 3)) (.cons (.int 3) .nil))))) (.cons (.mu (.lst .nil)) .nil))))
    (.scons (.sfor (.tn 8) (.ir1 (.var 4)) b0__law_book)
    (.scons (.ret (.bf .sorted (.cons (.var 7) .nil)))
    .snil)))))
def f__law_book : FT := ⟨3, 10, b__law_book⟩
def b0__law_named : A :=
    (.scons (.sas (.tn 1) (.bin .add (.bin .add (.var 1) (.lst (.cons (.var 2) .nil))) (.ife (.cmp .eq (.var 3) (.str ⟨#[116, 111]⟩)) (.lst (.cons (.var 4) .nil)) (.comp (.var 5) (.tn 5) (.iex (.bin .add (.ix (.var 4) (.int 0)) (.ix (.var 4) (.neg (.int 1))))) .nil [5]))))
    .snil)
def b__law_named : A :=
    (.scons (.sas (.tn 1) (.lst .nil))
    (.scons (.sfor (.tt 3 (.cons (.tn 2) (.cons (.tn 3) (.cons (.tn 4) .nil)))) (.iex (.var 0)) b0__law_named)
    (.scons (.ret (.sset (.var 1)))
    .snil)))
def f__law_named : FT := ⟨1, 6, b__law_named⟩
def b__law_entry : A :=
    (.scons (.sas (.tn 2) (.comp (.var 3) (.tn 3) (.ikv 0) (.cmp .eq (.ix (.var 3) (.int 0)) (.var 1)) [3]))
    (.scons (.ret (.ife (.cmp .ne (.var 2) (.lst .nil)) (.ix (.var 2) (.int 0)) .non))
    .snil))
def f__law_entry : FT := ⟨2, 4, b__law_entry⟩
def b__law_copied : A :=
    (.scons (.ret (.comp (.tup (.cons (.var 2) (.cons (.var 3) (.cons (.ife (.cmp .eq (.var 3) (.str ⟨#[116, 111]⟩)) (.var 4) (.comp (.bf .list (.cons (.var 1) .nil)) (.tn 1) (.ikv 4) .nil [1])) .nil)))) (.tt 3 (.cons (.tn 2) (.cons (.tn 3) (.cons (.tn 4) .nil)))) (.ikv 0) .nil [2, 3, 4]))
    .snil)
def f__law_copied : FT := ⟨1, 5, b__law_copied⟩
def c0__law_way : A :=
    (.and (.cmp .isn (.var 3) .non) (.and (.cmp .eq (.ix (.var 3) (.int 1)) (.str ⟨#[116, 111]⟩)) (.cmp .nin (.ix (.var 3) (.int 2)) (.var 2))))
def b0__law_way : A :=
    (.scons (.sex (.bm (.var 2) .append (.cons (.ix (.var 3) (.int 2)) .nil)))
    (.scons (.sas (.tn 3) (.pu (.call 30 (.cons (.var 0) (.cons (.ix (.var 3) (.int 2)) .nil)))))
    .snil))
def b__law_way : A :=
    (.scons (.spar [2, 3] (.cons (.mu (.lst (.cons (.var 1) .nil))) (.cons (.pu (.call 30 (.cons (.var 0) (.cons (.var 1) .nil)))) .nil)))
    (.scons (.swh c0__law_way b0__law_way)
    (.scons (.sif (.or (.cmp .is (.var 3) .non) (.cmp .eq (.ix (.var 3) (.int 1)) (.str ⟨#[105, 115]⟩)))
    (.scons (.ret (.tup (.cons (.var 2) (.cons (.ife (.cmp .is (.var 3) .non) (.neg (.int 2)) (.neg (.int 1))) .nil))))
    .snil)
    .snil)
    (.scons (.ret (.tup (.cons (.var 2) (.cons (.bm (.var 2) .index (.cons (.ix (.var 3) (.int 2)) .nil)) .nil))))
    .snil))))
def f__law_way : FT := ⟨2, 4, b__law_way⟩
def b__law_whole : A :=
    (.scons (.ret (.and (.isi (.var 0) (.int)) (.not (.isi (.var 0) (.bool)))))
    .snil)
def f__law_whole : FT := ⟨1, 1, b__law_whole⟩
def b__law_says : A :=
    (.scons (.ret (.and (.isi (.var 0) (.bool)) (.cmp .eq (.var 0) (.var 1))))
    .snil)
def f__law_says : FT := ⟨2, 2, b__law_says⟩
def b__law_due : A :=
    (.scons (.sas (.tt 2 (.cons (.tn 3) (.cons (.tn 4) .nil))) (.pu (.call 32 (.cons (.var 0) (.cons (.var 1) .nil)))))
    (.scons (.sif (.isi (.var 2) (.own 6))
    (.scons (.ret (.and (.cmp .eq (.tup (.cons (.fld (.var 2) ⟨#[119, 97, 121]⟩) (.cons (.fld (.var 2) ⟨#[112, 108, 97, 99, 101]⟩) .nil))) (.tup (.cons (.var 3) (.cons (.var 4) .nil)))) (.cmp .ge (.var 4) (.int 0))))
    .snil)
    .snil)
    (.scons (.ret (.and (.cmp .eq (.fld (.var 2) ⟨#[119, 97, 121]⟩) (.var 3)) (.cmp .eq (.var 4) (.ife (.isi (.var 2) (.own 4)) (.neg (.int 1)) (.neg (.int 2))))))
    .snil)))
def f__law_due : FT := ⟨3, 5, b__law_due⟩
def b0__law_right : A :=
    (.scons (.sif (.not (.pu (.call 34 (.cons (.pu (.meth (.var 7) [(4, 10), (5, 12), (6, 14), (7, 17), (8, 19)] ⟨#[115, 104, 111, 119, 115]⟩ (.cons (.var 9) (.cons (.var 10) .nil)))) (.cons (.pu (.call 35 (.cons (.var 9) (.cons (.var 10) (.cons (.var 7) .nil))))) .nil)))))
    (.scons (.ret (.bl false))
    .snil)
    .snil)
    .snil)
def b1__law_right : A :=
    (.scons (.sas (.tn 7) (.call 21 (.cons (.var 3) (.cons (.var 1) .nil))))
    (.scons (.sas (.tn 8) (.lst (.cons (.isi (.var 7) (.own 4)) (.cons (.isi (.var 7) (.own 5)) (.cons (.isi (.var 7) (.own 6)) .nil)))))
    (.scons (.sif (.or (.not (.isi (.var 7) (.own 3))) (.or (.cmp .ne (.var 8) (.lst (.cons (.cmp .eq (.var 5) (.neg (.int 1))) (.cons (.cmp .eq (.var 5) (.neg (.int 2))) (.cons (.cmp .ge (.var 5) (.int 0)) .nil))))) (.cmp .ne (.var 3) (.var 0))))
    (.scons (.ret (.bl false))
    .snil)
    .snil)
    (.scons (.sif (.or (.isi (.var 7) (.own 7)) (.or (.isi (.var 7) (.own 8)) (.not (.isi (.fld (.var 7) ⟨#[119, 97, 121]⟩) (.lst)))))
    (.scons (.ret (.bl false))
    .snil)
    .snil)
    (.scons (.sif (.or (.not (.pu (.call 35 (.cons (.var 0) (.cons (.var 1) (.cons (.var 7) .nil)))))) (.not (.pu (.call 34 (.cons (.pu (.meth (.var 7) [(4, 10), (5, 12), (6, 14), (7, 17), (8, 19)] ⟨#[115, 104, 111, 119, 115]⟩ (.cons (.var 0) (.cons (.var 1) .nil)))) (.cons (.bl true) .nil))))))
    (.scons (.ret (.bl false))
    .snil)
    .snil)
    (.scons (.sif (.and (.cmp .ge (.var 5) (.int 0)) (.not (.pu (.call 33 (.cons (.fld (.var 7) ⟨#[112, 108, 97, 99, 101]⟩) .nil)))))
    (.scons (.ret (.bl false))
    .snil)
    .snil)
    (.scons (.sfor (.tt 2 (.cons (.tn 9) (.cons (.tn 10) .nil))) (.iex (.var 2)) b0__law_right)
    (.scons (.sex (.bm (.fld (.var 7) ⟨#[119, 97, 121]⟩) .append (.cons (.var 1) .nil)))
    (.scons (.sif (.cmp .isn (.pu (.meth (.var 7) [(4, 10), (5, 12), (6, 14), (7, 17), (8, 19)] ⟨#[115, 104, 111, 119, 115]⟩ (.cons (.var 0) (.cons (.var 1) .nil)))) (.bl false))
    (.scons (.ret (.bl false))
    .snil)
    .snil)
    .snil)))))))))
def b__law_right : A :=
    (.scons (.sas (.tt 2 (.cons (.tn 3) (.cons (.tt 2 (.cons (.tn 4) (.cons (.tn 5) .nil))) .nil))) (.tup (.cons (.pu (.call 31 (.cons (.var 0) .nil))) (.cons (.pu (.call 32 (.cons (.var 0) (.cons (.var 1) .nil)))) .nil))))
    (.scons (.sfor (.tn 6) (.ir1 (.int 2)) b1__law_right)
    (.scons (.ret (.bl true))
    .snil)))
def f__law_right : FT := ⟨3, 11, b__law_right⟩
def b0_law : A :=
    (.scons (.sas (.ts (.fld (.var 9) ⟨#[119, 97, 121]⟩) (.int 1)) (.var 6))
    (.scons (.sex (.bm (.var 10) .append (.cons (.pu (.meth (.var 9) [(4, 10), (5, 12), (6, 14), (7, 17), (8, 19)] ⟨#[115, 104, 111, 119, 115]⟩ (.cons (.var 8) (.cons (.str ⟨#[97]⟩) .nil)))) .nil)))
    .snil))
def b1_law : A :=
    (.scons (.sas (.tn 7) (.lst (.cons (.tup (.cons (.var 3) (.cons (.var 6) .nil))) (.cons (.tup (.cons (.var 2) (.cons (.ife (.cmp .ne (.var 4) (.lst .nil)) (.ix (.var 4) (.bin .sub (.var 5) (.int 1))) (.str ⟨#[97]⟩)) .nil))) .nil))))
    (.scons (.sif (.not (.pu (.call 36 (.cons (.var 2) (.cons (.var 6) (.cons (.var 7) .nil))))))
    (.scons (.ret (.bl false))
    .snil)
    .snil)
    .snil))
def b2_law : A :=
    (.scons (.spar [2, 3] (.cons (.pu (.call 28 (.cons (.var 0) (.cons (.var 1) (.cons (.int 12) .nil))))) (.cons (.pu (.call 28 (.cons (.var 0) (.cons (.bin .add (.var 1) (.int 1)) (.cons (.int 12) .nil))))) .nil)))
    (.scons (.sas (.tn 4) (.pu (.call 29 (.cons (.var 2) .nil))))
    (.scons (.sfor (.tt 2 (.cons (.tn 5) (.cons (.tn 6) .nil))) (.ien (.bin .add (.var 4) (.lst (.cons (.str ⟨#[122, 122, 122, 122]⟩) .nil)))) b1_law)
    .snil)))
def b_law : A :=
    (.scons (.sfor (.tn 1) (.ir1 (.int 2)) b2_law)
    (.scons (.sas (.tn 8) (.mu (.lst (.cons (.tup (.cons (.str ⟨#[97]⟩) (.cons (.str ⟨#[116, 111]⟩) (.cons (.str ⟨#[98]⟩) .nil)))) (.cons (.tup (.cons (.str ⟨#[98]⟩) (.cons (.str ⟨#[116, 111]⟩) (.cons (.str ⟨#[99]⟩) .nil)))) (.cons (.tup (.cons (.str ⟨#[99]⟩) (.cons (.str ⟨#[116, 111]⟩) (.cons (.str ⟨#[98]⟩) .nil)))) (.cons (.tup (.cons (.str ⟨#[100]⟩) (.cons (.str ⟨#[105, 115]⟩) (.cons (.lst (.cons (.lst .nil) .nil)) .nil)))) (.cons (.tup (.cons (.str ⟨#[101]⟩) (.cons (.str ⟨#[116, 111]⟩) (.cons (.str ⟨#[101]⟩) .nil)))) .nil))))))))
    (.scons (.sif (.or (.cmp .ne (.tup (.cons (.fld (.call 21 (.cons (.var 8) (.cons (.str ⟨#[97]⟩) .nil))) ⟨#[119, 97, 121]⟩) (.cons (.fld (.call 21 (.cons (.var 8) (.cons (.str ⟨#[97]⟩) .nil))) ⟨#[112, 108, 97, 99, 101]⟩) .nil))) (.tup (.cons (.lst (.cons (.str ⟨#[97]⟩) (.cons (.str ⟨#[98]⟩) (.cons (.str ⟨#[99]⟩) .nil)))) (.cons (.int 1) .nil)))) (.cmp .ne (.fld (.call 21 (.cons (.var 8) (.cons (.str ⟨#[101]⟩) .nil))) ⟨#[112, 108, 97, 99, 101]⟩) (.int 0)))
    (.scons (.ret (.bl false))
    .snil)
    .snil)
    (.scons (.spar [9, 10] (.cons (.call 21 (.cons (.var 8) (.cons (.str ⟨#[97]⟩) .nil))) (.cons (.mu (.lst .nil)) .nil)))
    (.scons (.sfor (.tn 6) (.iex (.tup (.cons (.str ⟨#[99]⟩) (.cons (.str ⟨#[98]⟩) .nil)))) b0_law)
    (.scons (.sex (.bm (.fld (.var 9) ⟨#[119, 97, 121]⟩) .pop0 .nil))
    (.scons (.sex (.bm (.var 10) .append (.cons (.pu (.meth (.var 9) [(4, 10), (5, 12), (6, 14), (7, 17), (8, 19)] ⟨#[115, 104, 111, 119, 115]⟩ (.cons (.var 8) (.cons (.str ⟨#[97]⟩) .nil)))) .nil)))
    (.scons (.sex (.bm (.fld (.var 9) ⟨#[119, 97, 121]⟩) .append (.cons (.str ⟨#[99]⟩) .nil)))
    (.scons (.sif (.or (.cmp .ne (.var 10) (.lst (.cons (.bl false) (.cons (.bl true) (.cons (.bl false) .nil))))) (.cmp .isn (.pu (.meth (.var 9) [(4, 10), (5, 12), (6, 14), (7, 17), (8, 19)] ⟨#[115, 104, 111, 119, 115]⟩ (.cons (.var 8) (.cons (.str ⟨#[97]⟩) .nil)))) (.bl true)))
    (.scons (.ret (.bl false))
    .snil)
    .snil)
    (.scons (.sas (.ts (.var 8) (.int 1)) (.tup (.cons (.str ⟨#[98]⟩) (.cons (.str ⟨#[116, 111]⟩) (.cons (.str ⟨#[100]⟩) .nil)))))
    (.scons (.sif (.or (.cmp .ne (.fld (.call 21 (.cons (.var 8) (.cons (.str ⟨#[97]⟩) .nil))) ⟨#[119, 97, 121]⟩) (.lst (.cons (.str ⟨#[97]⟩) (.cons (.str ⟨#[98]⟩) (.cons (.str ⟨#[100]⟩) .nil))))) (.cmp .isn (.pu (.meth (.var 9) [(4, 10), (5, 12), (6, 14), (7, 17), (8, 19)] ⟨#[115, 104, 111, 119, 115]⟩ (.cons (.var 8) (.cons (.str ⟨#[97]⟩) .nil)))) (.bl false)))
    (.scons (.ret (.bl false))
    .snil)
    .snil)
    (.scons (.ret (.and (.cmp .eq (.fld (.call 21 (.cons (.var 8) (.cons (.str ⟨#[100]⟩) .nil))) ⟨#[119, 97, 121]⟩) (.lst (.cons (.str ⟨#[100]⟩) .nil))) (.isi (.call 21 (.cons (.var 8) (.cons (.str ⟨#[102]⟩) .nil))) (.own 5))))
    .snil))))))))))))
def f_law : FT := ⟨1, 11, b_law⟩
def T : Tb := ⟨[f_is_text, f_is_word, f_is_sense, f_is_entry, f_are_rising, f_check_book, f_check_word, f_known_by, f_is_led, f_Head___init__, f_Head_shows, f_Lost___init__, f_Lost_shows, f_Ring___init__, f_Ring_shows, f_is_told_by, f_Grasped___init__, f_Grasped_shows, f_Dark___init__, f_Dark_shows, f_looked_of, f_looked, f__law_cell_at, f__law_draw, f__law_number, f__law_word, f__law_words, f__law_senses, f__law_book, f__law_named, f__law_entry, f__law_copied, f__law_way, f__law_whole, f__law_says, f__law_due, f__law_right, f_law],
  [⟨none, [], [0]⟩,
   ⟨none, [], [1, 0]⟩,
   ⟨none, [], [2, 0]⟩,
   ⟨none, [], [3]⟩,
   ⟨some 9, [(⟨#[115, 104, 111, 119, 115]⟩, 10)], [4, 3]⟩,
   ⟨some 11, [(⟨#[115, 104, 111, 119, 115]⟩, 12)], [5, 3]⟩,
   ⟨some 13, [(⟨#[115, 104, 111, 119, 115]⟩, 14)], [6, 3]⟩,
   ⟨some 16, [(⟨#[115, 104, 111, 119, 115]⟩, 17)], [7, 3]⟩,
   ⟨some 18, [(⟨#[115, 104, 111, 119, 115]⟩, 19)], [8, 3]⟩]⟩
abbrev F_is_text : Nat := 0
abbrev F_is_word : Nat := 1
abbrev F_is_sense : Nat := 2
abbrev F_is_entry : Nat := 3
abbrev F_are_rising : Nat := 4
abbrev F_check_book : Nat := 5
abbrev F_check_word : Nat := 6
abbrev F_known_by : Nat := 7
abbrev F_is_led : Nat := 8
abbrev F_Head___init__ : Nat := 9
abbrev F_Head_shows : Nat := 10
abbrev F_Lost___init__ : Nat := 11
abbrev F_Lost_shows : Nat := 12
abbrev F_Ring___init__ : Nat := 13
abbrev F_Ring_shows : Nat := 14
abbrev F_is_told_by : Nat := 15
abbrev F_Grasped___init__ : Nat := 16
abbrev F_Grasped_shows : Nat := 17
abbrev F_Dark___init__ : Nat := 18
abbrev F_Dark_shows : Nat := 19
abbrev F_looked_of : Nat := 20
abbrev F_looked : Nat := 21
abbrev F__law_cell_at : Nat := 22
abbrev F__law_draw : Nat := 23
abbrev F__law_number : Nat := 24
abbrev F__law_word : Nat := 25
abbrev F__law_words : Nat := 26
abbrev F__law_senses : Nat := 27
abbrev F__law_book : Nat := 28
abbrev F__law_named : Nat := 29
abbrev F__law_entry : Nat := 30
abbrev F__law_copied : Nat := 31
abbrev F__law_way : Nat := 32
abbrev F__law_whole : Nat := 33
abbrev F__law_says : Nat := 34
abbrev F__law_due : Nat := 35
abbrev F__law_right : Nat := 36
abbrev F_law : Nat := 37
abbrev C_WordError : Nat := 0
abbrev C_BadWord : Nat := 1
abbrev C_BadBook : Nat := 2
abbrev C_Answer : Nat := 3
abbrev C_Head : Nat := 4
abbrev C_Lost : Nat := 5
abbrev C_Ring : Nat := 6
abbrev C_Grasped : Nat := 7
abbrev C_Dark : Nat := 8
def G : Gc :=
  ⟨[⟨#[105, 115, 95, 116, 101, 120, 116]⟩, ⟨#[105, 115, 95, 119, 111, 114, 100]⟩, ⟨#[105, 115, 95, 115, 101, 110, 115, 101]⟩, ⟨#[105, 115, 95, 101, 110, 116, 114, 121]⟩, ⟨#[97, 114, 101, 95, 114, 105, 115, 105, 110, 103]⟩, ⟨#[99, 104, 101, 99, 107, 95, 98, 111, 111, 107]⟩, ⟨#[99, 104, 101, 99, 107, 95, 119, 111, 114, 100]⟩, ⟨#[107, 110, 111, 119, 110, 95, 98, 121]⟩, ⟨#[105, 115, 95, 108, 101, 100]⟩, ⟨#[]⟩, ⟨#[]⟩, ⟨#[]⟩, ⟨#[]⟩, ⟨#[]⟩, ⟨#[]⟩, ⟨#[105, 115, 95, 116, 111, 108, 100, 95, 98, 121]⟩, ⟨#[]⟩, ⟨#[]⟩, ⟨#[]⟩, ⟨#[]⟩, ⟨#[108, 111, 111, 107, 101, 100, 95, 111, 102]⟩, ⟨#[108, 111, 111, 107, 101, 100]⟩, ⟨#[95, 108, 97, 119, 95, 99, 101, 108, 108, 95, 97, 116]⟩, ⟨#[95, 108, 97, 119, 95, 100, 114, 97, 119]⟩, ⟨#[95, 108, 97, 119, 95, 110, 117, 109, 98, 101, 114]⟩, ⟨#[95, 108, 97, 119, 95, 119, 111, 114, 100]⟩, ⟨#[95, 108, 97, 119, 95, 119, 111, 114, 100, 115]⟩, ⟨#[95, 108, 97, 119, 95, 115, 101, 110, 115, 101, 115]⟩, ⟨#[95, 108, 97, 119, 95, 98, 111, 111, 107]⟩, ⟨#[95, 108, 97, 119, 95, 110, 97, 109, 101, 100]⟩, ⟨#[95, 108, 97, 119, 95, 101, 110, 116, 114, 121]⟩, ⟨#[95, 108, 97, 119, 95, 99, 111, 112, 105, 101, 100]⟩, ⟨#[95, 108, 97, 119, 95, 119, 97, 121]⟩, ⟨#[95, 108, 97, 119, 95, 119, 104, 111, 108, 101]⟩, ⟨#[95, 108, 97, 119, 95, 115, 97, 121, 115]⟩, ⟨#[95, 108, 97, 119, 95, 100, 117, 101]⟩, ⟨#[95, 108, 97, 119, 95, 114, 105, 103, 104, 116]⟩, ⟨#[108, 97, 119]⟩],
   [⟨#[87, 111, 114, 100, 69, 114, 114, 111, 114]⟩, ⟨#[66, 97, 100, 87, 111, 114, 100]⟩, ⟨#[66, 97, 100, 66, 111, 111, 107]⟩, ⟨#[65, 110, 115, 119, 101, 114]⟩, ⟨#[72, 101, 97, 100]⟩, ⟨#[76, 111, 115, 116]⟩, ⟨#[82, 105, 110, 103]⟩, ⟨#[71, 114, 97, 115, 112, 101, 100]⟩, ⟨#[68, 97, 114, 107]⟩],
   [(⟨#[76, 69, 84, 84, 69, 82, 83]⟩, .str ⟨#[97, 98, 99, 100, 101, 102, 103, 104, 105, 106, 107, 108, 109, 110, 111, 112, 113, 114, 115, 116, 117, 118, 119, 120, 121, 122]⟩), (⟨#[76, 79, 78, 71, 69, 83, 84]⟩, .int 4), (⟨#[77, 79, 83, 84, 95, 83, 69, 78, 83, 69, 83]⟩, .int 2), (⟨#[77, 79, 83, 84, 95, 87, 79, 82, 68, 83]⟩, .int 3), (⟨#[77, 79, 83, 84, 95, 69, 78, 84, 82, 73, 69, 83]⟩, .int 40)],
   [⟨#[119, 97, 121]⟩, ⟨#[112, 108, 97, 99, 101]⟩, ⟨#[111, 114, 100, 101, 114]⟩, ⟨#[119, 111, 114, 100, 115]⟩],
   [.own 6, .str, .lst, .int, .bool, .own 5, .tup, .own 4, .own 7, .own 8, .own 3],
   [(4, 10, ⟨#[115, 104, 111, 119, 115]⟩), (5, 12, ⟨#[115, 104, 111, 119, 115]⟩), (6, 14, ⟨#[115, 104, 111, 119, 115]⟩), (7, 17, ⟨#[115, 104, 111, 119, 115]⟩), (8, 19, ⟨#[115, 104, 111, 119, 115]⟩)]⟩
def top (i : Nat) : Stmt := PySem.Challenge.pw_wordmeanings_k01_whole_lookups.main.body.getD i (.Pass ⟨0, 0, 0, 0⟩)
def n_is_text : List Str := [⟨#[116, 104, 105, 110, 103]⟩, ⟨#[108, 101, 97, 115, 116]⟩, ⟨#[109, 111, 115, 116]⟩, ⟨#[115, 105, 103, 110]⟩]
abbrev s_is_text : Stmt := top 10
theorem hc_is_text {k : Nat} {a0 a1 a2 : HV} {h : HH} : hcall T (k + 1) 0 [a0, a1, a2] h = outH ((hden T (hcall T k) b_is_text).st [some a0, some a1, some a2, none] h) := rfl
theorem c_is_text : chk T G b_is_text ⟨n_is_text, L2.defScope s_is_text, none⟩ (.ss (L2.defBody s_is_text)) = true := by decide +kernel
def n_is_word : List Str := [⟨#[116, 104, 105, 110, 103]⟩]
abbrev s_is_word : Stmt := top 11
theorem hc_is_word {k : Nat} {a0 : HV} {h : HH} : hcall T (k + 1) 1 [a0] h = outH ((hden T (hcall T k) b_is_word).st [some a0] h) := rfl
theorem c_is_word : chk T G b_is_word ⟨n_is_word, L2.defScope s_is_word, none⟩ (.ss (L2.defBody s_is_word)) = true := by decide +kernel
def n_is_sense : List Str := [⟨#[116, 104, 105, 110, 103]⟩, ⟨#[119, 111, 114, 100]⟩]
abbrev s_is_sense : Stmt := top 12
theorem hc_is_sense {k : Nat} {a0 : HV} {h : HH} : hcall T (k + 1) 2 [a0] h = outH ((hden T (hcall T k) b_is_sense).st [some a0, none] h) := rfl
theorem c_is_sense : chk T G b_is_sense ⟨n_is_sense, L2.defScope s_is_sense, none⟩ (.ss (L2.defBody s_is_sense)) = true := by decide +kernel
def n_is_entry : List Str := [⟨#[116, 104, 105, 110, 103]⟩, ⟨#[115, 101, 110, 115, 101]⟩]
abbrev s_is_entry : Stmt := top 13
theorem hc_is_entry {k : Nat} {a0 : HV} {h : HH} : hcall T (k + 1) 3 [a0] h = outH ((hden T (hcall T k) b_is_entry).st [some a0, none] h) := rfl
theorem c_is_entry : chk T G b_is_entry ⟨n_is_entry, L2.defScope s_is_entry, none⟩ (.ss (L2.defBody s_is_entry)) = true := by decide +kernel
def n_are_rising : List Str := [⟨#[108, 105, 110, 101]⟩, ⟨#[111, 110, 101]⟩, ⟨#[111, 116, 104, 101, 114]⟩]
abbrev s_are_rising : Stmt := top 14
theorem hc_are_rising {k : Nat} {a0 : HV} {h : HH} : hcall T (k + 1) 4 [a0] h = outH ((hden T (hcall T k) b_are_rising).st [some a0, none, none] h) := rfl
theorem c_are_rising : chk T G b_are_rising ⟨n_are_rising, L2.defScope s_are_rising, none⟩ (.ss (L2.defBody s_are_rising)) = true := by decide +kernel
def n_check_book : List Str := [⟨#[98, 111, 111, 107]⟩, ⟨#[101, 110, 116, 114, 121]⟩]
abbrev s_check_book : Stmt := top 15
theorem hc_check_book {k : Nat} {a0 : HV} {h : HH} : hcall T (k + 1) 5 [a0] h = outH ((hden T (hcall T k) b_check_book).st [some a0, none] h) := rfl
theorem c_check_book : chk T G b_check_book ⟨n_check_book, L2.defScope s_check_book, none⟩ (.ss (L2.defBody s_check_book)) = true := by decide +kernel
def n_check_word : List Str := [⟨#[119, 111, 114, 100]⟩]
abbrev s_check_word : Stmt := top 16
theorem hc_check_word {k : Nat} {a0 : HV} {h : HH} : hcall T (k + 1) 6 [a0] h = outH ((hden T (hcall T k) b_check_word).st [some a0] h) := rfl
theorem c_check_word : chk T G b_check_word ⟨n_check_word, L2.defScope s_check_word, none⟩ (.ss (L2.defBody s_check_word)) = true := by decide +kernel
def n_known_by : List Str := [⟨#[98, 111, 111, 107]⟩, ⟨#[101, 110, 116, 114, 121]⟩]
abbrev s_known_by : Stmt := top 17
theorem hc_known_by {k : Nat} {a0 : HV} {h : HH} : hcall T (k + 1) 7 [a0] h = outH ((hden T (hcall T k) b_known_by).st [some a0, none] h) := rfl
theorem c_known_by : chk T G b_known_by ⟨n_known_by, L2.defScope s_known_by, none⟩ (.ss (L2.defBody s_known_by)) = true := by decide +kernel
def n_is_led : List Str := [⟨#[98, 111, 111, 107]⟩, ⟨#[119, 111, 114, 100]⟩, ⟨#[119, 97, 121]⟩, ⟨#[101, 110, 116, 114, 105, 101, 115]⟩, ⟨#[111, 110, 101]⟩, ⟨#[111, 116, 104, 101, 114]⟩]
abbrev s_is_led : Stmt := top 20
theorem hc_is_led {k : Nat} {a0 a1 a2 : HV} {h : HH} : hcall T (k + 1) 8 [a0, a1, a2] h = outH ((hden T (hcall T k) b_is_led).st [some a0, some a1, some a2, none, none, none] h) := rfl
theorem c_is_led : chk T G b_is_led ⟨n_is_led, L2.defScope s_is_led, none⟩ (.ss (L2.defBody s_is_led)) = true := by decide +kernel
def n_Head___init__ : List Str := [⟨#[115, 101, 108, 102]⟩, ⟨#[119, 97, 121]⟩]
abbrev s_Head___init__ : Stmt := L2.inClass (top 21) 0
theorem hc_Head___init__ {k : Nat} {a0 a1 : HV} {h : HH} : hcall T (k + 1) 9 [a0, a1] h = outH ((hden T (hcall T k) b_Head___init__).st [some a0, some a1] h) := rfl
theorem c_Head___init__ : chk T G b_Head___init__ ⟨n_Head___init__, L2.defScope s_Head___init__, none⟩ (.ss (L2.defBody s_Head___init__)) = true := by decide +kernel
def n_Head_shows : List Str := [⟨#[115, 101, 108, 102]⟩, ⟨#[98, 111, 111, 107]⟩, ⟨#[119, 111, 114, 100]⟩, ⟨#[101, 110, 116, 114, 105, 101, 115]⟩]
abbrev s_Head_shows : Stmt := L2.inClass (top 21) 1
theorem hc_Head_shows {k : Nat} {a0 a1 a2 : HV} {h : HH} : hcall T (k + 1) 10 [a0, a1, a2] h = outH ((hden T (hcall T k) b_Head_shows).st [some a0, some a1, some a2, none] h) := rfl
theorem c_Head_shows : chk T G b_Head_shows ⟨n_Head_shows, L2.defScope s_Head_shows, none⟩ (.ss (L2.defBody s_Head_shows)) = true := by decide +kernel
def n_Lost___init__ : List Str := [⟨#[115, 101, 108, 102]⟩, ⟨#[119, 97, 121]⟩]
abbrev s_Lost___init__ : Stmt := L2.inClass (top 22) 0
theorem hc_Lost___init__ {k : Nat} {a0 a1 : HV} {h : HH} : hcall T (k + 1) 11 [a0, a1] h = outH ((hden T (hcall T k) b_Lost___init__).st [some a0, some a1] h) := rfl
theorem c_Lost___init__ : chk T G b_Lost___init__ ⟨n_Lost___init__, L2.defScope s_Lost___init__, none⟩ (.ss (L2.defBody s_Lost___init__)) = true := by decide +kernel
def n_Lost_shows : List Str := [⟨#[115, 101, 108, 102]⟩, ⟨#[98, 111, 111, 107]⟩, ⟨#[119, 111, 114, 100]⟩]
abbrev s_Lost_shows : Stmt := L2.inClass (top 22) 1
theorem hc_Lost_shows {k : Nat} {a0 a1 a2 : HV} {h : HH} : hcall T (k + 1) 12 [a0, a1, a2] h = outH ((hden T (hcall T k) b_Lost_shows).st [some a0, some a1, some a2] h) := rfl
theorem c_Lost_shows : chk T G b_Lost_shows ⟨n_Lost_shows, L2.defScope s_Lost_shows, none⟩ (.ss (L2.defBody s_Lost_shows)) = true := by decide +kernel
def n_Ring___init__ : List Str := [⟨#[115, 101, 108, 102]⟩, ⟨#[119, 97, 121]⟩, ⟨#[112, 108, 97, 99, 101]⟩]
abbrev s_Ring___init__ : Stmt := L2.inClass (top 23) 0
theorem hc_Ring___init__ {k : Nat} {a0 a1 a2 : HV} {h : HH} : hcall T (k + 1) 13 [a0, a1, a2] h = outH ((hden T (hcall T k) b_Ring___init__).st [some a0, some a1, some a2] h) := rfl
theorem c_Ring___init__ : chk T G b_Ring___init__ ⟨n_Ring___init__, L2.defScope s_Ring___init__, none⟩ (.ss (L2.defBody s_Ring___init__)) = true := by decide +kernel
def n_Ring_shows : List Str := [⟨#[115, 101, 108, 102]⟩, ⟨#[98, 111, 111, 107]⟩, ⟨#[119, 111, 114, 100]⟩, ⟨#[101, 110, 116, 114, 105, 101, 115]⟩, ⟨#[108, 97, 115, 116]⟩]
abbrev s_Ring_shows : Stmt := L2.inClass (top 23) 1
theorem hc_Ring_shows {k : Nat} {a0 a1 a2 : HV} {h : HH} : hcall T (k + 1) 14 [a0, a1, a2] h = outH ((hden T (hcall T k) b_Ring_shows).st [some a0, some a1, some a2, none, none] h) := rfl
theorem c_Ring_shows : chk T G b_Ring_shows ⟨n_Ring_shows, L2.defScope s_Ring_shows, none⟩ (.ss (L2.defBody s_Ring_shows)) = true := by decide +kernel
def n_is_told_by : List Str := [⟨#[101, 110, 116, 114, 105, 101, 115]⟩, ⟨#[119, 111, 114, 100]⟩, ⟨#[115, 111, 109, 101]⟩, ⟨#[101, 110, 116, 114, 121]⟩, ⟨#[111, 110, 101]⟩, ⟨#[115, 101, 110, 115, 101]⟩]
abbrev s_is_told_by : Stmt := top 24
theorem hc_is_told_by {k : Nat} {a0 a1 a2 : HV} {h : HH} : hcall T (k + 1) 15 [a0, a1, a2] h = outH ((hden T (hcall T k) b_is_told_by).st [some a0, some a1, some a2, none, none, none] h) := rfl
theorem c_is_told_by : chk T G b_is_told_by ⟨n_is_told_by, L2.defScope s_is_told_by, none⟩ (.ss (L2.defBody s_is_told_by)) = true := by decide +kernel
def n_Grasped___init__ : List Str := [⟨#[115, 101, 108, 102]⟩, ⟨#[111, 114, 100, 101, 114]⟩]
abbrev s_Grasped___init__ : Stmt := L2.inClass (top 25) 0
theorem hc_Grasped___init__ {k : Nat} {a0 a1 : HV} {h : HH} : hcall T (k + 1) 16 [a0, a1] h = outH ((hden T (hcall T k) b_Grasped___init__).st [some a0, some a1] h) := rfl
theorem c_Grasped___init__ : chk T G b_Grasped___init__ ⟨n_Grasped___init__, L2.defScope s_Grasped___init__, none⟩ (.ss (L2.defBody s_Grasped___init__)) = true := by decide +kernel
def n_Grasped_shows : List Str := [⟨#[115, 101, 108, 102]⟩, ⟨#[98, 111, 111, 107]⟩, ⟨#[107, 110, 111, 119, 110]⟩, ⟨#[119, 111, 114, 100]⟩, ⟨#[101, 110, 116, 114, 105, 101, 115]⟩, ⟨#[97, 116]⟩, ⟨#[111, 110, 101]⟩]
abbrev s_Grasped_shows : Stmt := L2.inClass (top 25) 1
theorem hc_Grasped_shows {k : Nat} {a0 a1 a2 a3 : HV} {h : HH} : hcall T (k + 1) 17 [a0, a1, a2, a3] h = outH ((hden T (hcall T k) b_Grasped_shows).st [some a0, some a1, some a2, some a3, none, none, none] h) := rfl
theorem c_Grasped_shows : chk T G b_Grasped_shows ⟨n_Grasped_shows, L2.defScope s_Grasped_shows, none⟩ (.ss (L2.defBody s_Grasped_shows)) = true := by decide +kernel
def n_Dark___init__ : List Str := [⟨#[115, 101, 108, 102]⟩, ⟨#[119, 111, 114, 100, 115]⟩]
abbrev s_Dark___init__ : Stmt := L2.inClass (top 26) 0
theorem hc_Dark___init__ {k : Nat} {a0 a1 : HV} {h : HH} : hcall T (k + 1) 18 [a0, a1] h = outH ((hden T (hcall T k) b_Dark___init__).st [some a0, some a1] h) := rfl
theorem c_Dark___init__ : chk T G b_Dark___init__ ⟨n_Dark___init__, L2.defScope s_Dark___init__, none⟩ (.ss (L2.defBody s_Dark___init__)) = true := by decide +kernel
def n_Dark_shows : List Str := [⟨#[115, 101, 108, 102]⟩, ⟨#[98, 111, 111, 107]⟩, ⟨#[107, 110, 111, 119, 110]⟩, ⟨#[119, 111, 114, 100]⟩, ⟨#[101, 110, 116, 114, 105, 101, 115]⟩, ⟨#[111, 110, 101]⟩, ⟨#[111, 116, 104, 101, 114]⟩, ⟨#[115, 101, 110, 115, 101]⟩]
abbrev s_Dark_shows : Stmt := L2.inClass (top 26) 1
theorem hc_Dark_shows {k : Nat} {a0 a1 a2 a3 : HV} {h : HH} : hcall T (k + 1) 19 [a0, a1, a2, a3] h = outH ((hden T (hcall T k) b_Dark_shows).st [some a0, some a1, some a2, some a3, none, none, none, none] h) := rfl
theorem c_Dark_shows : chk T G b_Dark_shows ⟨n_Dark_shows, L2.defScope s_Dark_shows, none⟩ (.ss (L2.defBody s_Dark_shows)) = true := by decide +kernel
def n_looked_of : List Str := [⟨#[98, 111, 111, 107]⟩, ⟨#[119, 111, 114, 100]⟩, ⟨#[101, 110, 116, 114, 105, 101, 115]⟩, ⟨#[119, 97, 121]⟩, ⟨#[104, 101, 114, 101]⟩]
abbrev s_looked_of : Stmt := top 28
theorem hc_looked_of {k : Nat} {a0 a1 : HV} {h : HH} : hcall T (k + 1) 20 [a0, a1] h = outH ((hden T (hcall T k) b_looked_of).st [some a0, some a1, none, none, none] h) := rfl
theorem c_looked_of : chk T G b_looked_of ⟨n_looked_of, L2.defScope s_looked_of, none⟩ (.ss (L2.defBody s_looked_of)) = true := by decide +kernel
def n_looked : List Str := [⟨#[98, 111, 111, 107]⟩, ⟨#[119, 111, 114, 100]⟩]
abbrev s_looked : Stmt := top 29
theorem hc_looked {k : Nat} {a0 a1 : HV} {h : HH} : hcall T (k + 1) 21 [a0, a1] h = outH ((hden T (hcall T k) b_looked).st [some a0, some a1] h) := rfl
theorem c_looked : chk T G b_looked ⟨n_looked, L2.defScope s_looked, none⟩ (.ss (L2.defBody s_looked)) = true := by decide +kernel
def n__law_cell_at : List Str := [⟨#[95, 108, 97, 119, 95, 115, 99, 114, 105, 112, 116]⟩, ⟨#[95, 108, 97, 119, 95, 107]⟩]
abbrev s__law_cell_at : Stmt := top 31
theorem hc__law_cell_at {k : Nat} {a0 a1 : HV} {h : HH} : hcall T (k + 1) 22 [a0, a1] h = outH ((hden T (hcall T k) b__law_cell_at).st [some a0, some a1] h) := rfl
theorem c__law_cell_at : chk T G b__law_cell_at ⟨n__law_cell_at, L2.defScope s__law_cell_at, none⟩ (.ss (L2.defBody s__law_cell_at)) = true := by decide +kernel
def n__law_draw : List Str := [⟨#[95, 108, 97, 119, 95, 99, 101, 108, 108]⟩, ⟨#[95, 108, 97, 119, 95, 107]⟩, ⟨#[95, 108, 97, 119, 95, 109, 111, 115, 116]⟩, ⟨#[95, 108, 97, 119, 95, 112, 114, 105, 109, 101, 115]⟩]
abbrev s__law_draw : Stmt := top 32
theorem hc__law_draw {k : Nat} {a0 a1 a2 : HV} {h : HH} : hcall T (k + 1) 23 [a0, a1, a2] h = outH ((hden T (hcall T k) b__law_draw).st [some a0, some a1, some a2, none] h) := rfl
theorem c__law_draw : chk T G b__law_draw ⟨n__law_draw, L2.defScope s__law_draw, none⟩ (.ss (L2.defBody s__law_draw)) = true := by decide +kernel
def n__law_number : List Str := [⟨#[95, 108, 97, 119, 95, 99, 101, 108, 108]⟩, ⟨#[95, 108, 97, 119, 95, 107]⟩, ⟨#[95, 108, 97, 119, 95, 108, 105, 109, 105, 116]⟩, ⟨#[95, 108, 97, 119, 95, 100]⟩]
abbrev s__law_number : Stmt := top 33
theorem hc__law_number {k : Nat} {a0 a1 a2 : HV} {h : HH} : hcall T (k + 1) 24 [a0, a1, a2] h = outH ((hden T (hcall T k) b__law_number).st [some a0, some a1, some a2, none] h) := rfl
theorem c__law_number : chk T G b__law_number ⟨n__law_number, L2.defScope s__law_number, none⟩ (.ss (L2.defBody s__law_number)) = true := by decide +kernel
def n__law_word : List Str := [⟨#[95, 108, 97, 119, 95, 110, 117, 109, 98, 101, 114, 95, 104, 101, 114, 101]⟩, ⟨#[95, 108, 97, 119, 95, 108, 101, 116, 116, 101, 114, 115]⟩, ⟨#[95, 108, 97, 119, 95, 102, 111, 117, 110, 100]⟩, ⟨#[95, 108, 97, 119, 95, 109, 111, 114, 101]⟩, ⟨#[95, 108, 97, 119, 95, 97, 116]⟩]
abbrev s__law_word : Stmt := top 34
theorem hc__law_word {k : Nat} {a0 : HV} {h : HH} : hcall T (k + 1) 25 [a0] h = outH ((hden T (hcall T k) b__law_word).st [some a0, none, none, none, none] h) := rfl
theorem c__law_word : chk T G b__law_word ⟨n__law_word, L2.defScope s__law_word, none⟩ (.ss (L2.defBody s__law_word)) = true := by decide +kernel
def n__law_words : List Str := [⟨#[95, 108, 97, 119, 95, 115, 99, 114, 105, 112, 116]⟩, ⟨#[95, 108, 97, 119, 95, 98, 121]⟩, ⟨#[95, 108, 97, 119, 95, 109, 97, 110, 121]⟩, ⟨#[95, 108, 97, 119, 95, 116, 117, 114, 110]⟩, ⟨#[95, 108, 97, 119, 95, 102, 111, 117, 110, 100]⟩, ⟨#[95, 108, 97, 119, 95, 97, 116]⟩, ⟨#[95, 108, 97, 119, 95, 119, 111, 114, 100, 95, 104, 101, 114, 101]⟩]
abbrev s__law_words : Stmt := top 35
theorem hc__law_words {k : Nat} {a0 a1 a2 : HV} {h : HH} : hcall T (k + 1) 26 [a0, a1, a2] h = outH ((hden T (hcall T k) b__law_words).st [some a0, some a1, some a2, none, none, none, none] h) := rfl
theorem c__law_words : chk T G b__law_words ⟨n__law_words, L2.defScope s__law_words, none⟩ (.ss (L2.defBody s__law_words)) = true := by decide +kernel
def n__law_senses : List Str := [⟨#[95, 108, 97, 119, 95, 99, 101, 108, 108]⟩, ⟨#[95, 108, 97, 119, 95, 97, 116]⟩, ⟨#[95, 108, 97, 119, 95, 119, 111, 114, 100, 115, 95, 104, 101, 114, 101]⟩, ⟨#[95, 108, 97, 119, 95, 102, 111, 117, 110, 100]⟩, ⟨#[95, 108, 97, 119, 95, 116, 117, 114, 110]⟩, ⟨#[95, 108, 97, 119, 95, 99, 111, 117, 110, 116]⟩, ⟨#[95, 108, 97, 119, 95, 112, 108, 97, 99, 101]⟩]
abbrev s__law_senses : Stmt := top 36
theorem hc__law_senses {k : Nat} {a0 a1 a2 : HV} {h : HH} : hcall T (k + 1) 27 [a0, a1, a2] h = outH ((hden T (hcall T k) b__law_senses).st [some a0, some a1, some a2, none, none, none, none] h) := rfl
theorem c__law_senses : chk T G b__law_senses ⟨n__law_senses, L2.defScope s__law_senses, none⟩ (.ss (L2.defBody s__law_senses)) = true := by decide +kernel
def n__law_book : List Str := [⟨#[95, 108, 97, 119, 95, 115, 99, 114, 105, 112, 116]⟩, ⟨#[95, 108, 97, 119, 95, 98, 121]⟩, ⟨#[95, 108, 97, 119, 95, 109, 111, 115, 116]⟩, ⟨#[95, 108, 97, 119, 95, 99, 101, 108, 108]⟩, ⟨#[95, 108, 97, 119, 95, 109, 97, 110, 121]⟩, ⟨#[95, 108, 97, 119, 95, 119, 111, 114, 100, 115, 95, 104, 101, 114, 101]⟩, ⟨#[95, 108, 97, 119, 95, 107, 105, 110, 100]⟩, ⟨#[95, 108, 97, 119, 95, 102, 111, 117, 110, 100]⟩, ⟨#[95, 108, 97, 119, 95, 97, 116]⟩, ⟨#[95, 108, 97, 119, 95, 109, 111, 114, 101]⟩]
abbrev s__law_book : Stmt := top 37
theorem hc__law_book {k : Nat} {a0 a1 a2 : HV} {h : HH} : hcall T (k + 1) 28 [a0, a1, a2] h = outH ((hden T (hcall T k) b__law_book).st [some a0, some a1, some a2, none, none, none, none, none, none, none] h) := rfl
theorem c__law_book : chk T G b__law_book ⟨n__law_book, L2.defScope s__law_book, none⟩ (.ss (L2.defBody s__law_book)) = true := by decide +kernel
def n__law_named : List Str := [⟨#[95, 108, 97, 119, 95, 98, 111, 111, 107, 95, 104, 101, 114, 101]⟩, ⟨#[95, 108, 97, 119, 95, 102, 111, 117, 110, 100]⟩, ⟨#[95, 108, 97, 119, 95, 119, 111, 114, 100, 95, 104, 101, 114, 101]⟩, ⟨#[95, 108, 97, 119, 95, 107, 105, 110, 100]⟩, ⟨#[95, 108, 97, 119, 95, 116, 111, 108, 100]⟩, ⟨#[95, 108, 97, 119, 95, 111, 110, 101]⟩]
abbrev s__law_named : Stmt := top 38
theorem hc__law_named {k : Nat} {a0 : HV} {h : HH} : hcall T (k + 1) 29 [a0] h = outH ((hden T (hcall T k) b__law_named).st [some a0, none, none, none, none, none] h) := rfl
theorem c__law_named : chk T G b__law_named ⟨n__law_named, L2.defScope s__law_named, none⟩ (.ss (L2.defBody s__law_named)) = true := by decide +kernel
def n__law_entry : List Str := [⟨#[95, 108, 97, 119, 95, 98, 111, 111, 107, 95, 104, 101, 114, 101]⟩, ⟨#[95, 108, 97, 119, 95, 119, 111, 114, 100, 95, 104, 101, 114, 101]⟩, ⟨#[95, 108, 97, 119, 95, 115, 111, 109, 101]⟩, ⟨#[95, 108, 97, 119, 95, 101, 110, 116, 114, 121, 95, 104, 101, 114, 101]⟩]
abbrev s__law_entry : Stmt := top 39
theorem hc__law_entry {k : Nat} {a0 a1 : HV} {h : HH} : hcall T (k + 1) 30 [a0, a1] h = outH ((hden T (hcall T k) b__law_entry).st [some a0, some a1, none, none] h) := rfl
theorem c__law_entry : chk T G b__law_entry ⟨n__law_entry, L2.defScope s__law_entry, none⟩ (.ss (L2.defBody s__law_entry)) = true := by decide +kernel
def n__law_copied : List Str := [⟨#[95, 108, 97, 119, 95, 98, 111, 111, 107, 95, 104, 101, 114, 101]⟩, ⟨#[95, 108, 97, 119, 95, 111, 110, 101]⟩, ⟨#[95, 108, 97, 119, 95, 119, 111, 114, 100, 95, 104, 101, 114, 101]⟩, ⟨#[95, 108, 97, 119, 95, 107, 105, 110, 100]⟩, ⟨#[95, 108, 97, 119, 95, 116, 111, 108, 100]⟩]
abbrev s__law_copied : Stmt := top 40
theorem hc__law_copied {k : Nat} {a0 : HV} {h : HH} : hcall T (k + 1) 31 [a0] h = outH ((hden T (hcall T k) b__law_copied).st [some a0, none, none, none, none] h) := rfl
theorem c__law_copied : chk T G b__law_copied ⟨n__law_copied, L2.defScope s__law_copied, none⟩ (.ss (L2.defBody s__law_copied)) = true := by decide +kernel
def n__law_way : List Str := [⟨#[95, 108, 97, 119, 95, 98, 111, 111, 107, 95, 104, 101, 114, 101]⟩, ⟨#[95, 108, 97, 119, 95, 119, 111, 114, 100, 95, 104, 101, 114, 101]⟩, ⟨#[95, 108, 97, 119, 95, 119, 97, 121, 95, 104, 101, 114, 101]⟩, ⟨#[95, 108, 97, 119, 95, 101, 110, 116, 114, 121, 95, 104, 101, 114, 101]⟩]
abbrev s__law_way : Stmt := top 41
theorem hc__law_way {k : Nat} {a0 a1 : HV} {h : HH} : hcall T (k + 1) 32 [a0, a1] h = outH ((hden T (hcall T k) b__law_way).st [some a0, some a1, none, none] h) := rfl
theorem c__law_way : chk T G b__law_way ⟨n__law_way, L2.defScope s__law_way, none⟩ (.ss (L2.defBody s__law_way)) = true := by decide +kernel
def n__law_whole : List Str := [⟨#[95, 108, 97, 119, 95, 102, 111, 117, 110, 100]⟩]
abbrev s__law_whole : Stmt := top 42
theorem hc__law_whole {k : Nat} {a0 : HV} {h : HH} : hcall T (k + 1) 33 [a0] h = outH ((hden T (hcall T k) b__law_whole).st [some a0] h) := rfl
theorem c__law_whole : chk T G b__law_whole ⟨n__law_whole, L2.defScope s__law_whole, none⟩ (.ss (L2.defBody s__law_whole)) = true := by decide +kernel
def n__law_says : List Str := [⟨#[95, 108, 97, 119, 95, 115, 97, 105, 100]⟩, ⟨#[95, 108, 97, 119, 95, 100, 117, 101, 95, 104, 101, 114, 101]⟩]
abbrev s__law_says : Stmt := top 43
theorem hc__law_says {k : Nat} {a0 a1 : HV} {h : HH} : hcall T (k + 1) 34 [a0, a1] h = outH ((hden T (hcall T k) b__law_says).st [some a0, some a1] h) := rfl
theorem c__law_says : chk T G b__law_says ⟨n__law_says, L2.defScope s__law_says, none⟩ (.ss (L2.defBody s__law_says)) = true := by decide +kernel
def n__law_due : List Str := [⟨#[95, 108, 97, 119, 95, 98, 111, 111, 107, 95, 104, 101, 114, 101]⟩, ⟨#[95, 108, 97, 119, 95, 119, 111, 114, 100, 95, 104, 101, 114, 101]⟩, ⟨#[95, 108, 97, 119, 95, 102, 111, 117, 110, 100]⟩, ⟨#[95, 108, 97, 119, 95, 119, 97, 121, 95, 104, 101, 114, 101]⟩, ⟨#[95, 108, 97, 119, 95, 101, 110, 100]⟩]
abbrev s__law_due : Stmt := top 44
theorem hc__law_due {k : Nat} {a0 a1 a2 : HV} {h : HH} : hcall T (k + 1) 35 [a0, a1, a2] h = outH ((hden T (hcall T k) b__law_due).st [some a0, some a1, some a2, none, none] h) := rfl
theorem c__law_due : chk T G b__law_due ⟨n__law_due, L2.defScope s__law_due, none⟩ (.ss (L2.defBody s__law_due)) = true := by decide +kernel
def n__law_right : List Str := [⟨#[95, 108, 97, 119, 95, 98, 111, 111, 107, 95, 104, 101, 114, 101]⟩, ⟨#[95, 108, 97, 119, 95, 119, 111, 114, 100, 95, 104, 101, 114, 101]⟩, ⟨#[95, 108, 97, 119, 95, 111, 116, 104, 101, 114, 115]⟩, ⟨#[95, 108, 97, 119, 95, 104, 97, 110, 100, 101, 100]⟩, ⟨#[95, 108, 97, 119, 95, 119, 97, 121, 95, 104, 101, 114, 101]⟩, ⟨#[95, 108, 97, 119, 95, 101, 110, 100]⟩, ⟨#[95, 108, 97, 119, 95, 97, 103, 97, 105, 110]⟩, ⟨#[95, 108, 97, 119, 95, 102, 111, 117, 110, 100]⟩, ⟨#[95, 108, 97, 119, 95, 115, 111, 114, 116, 115]⟩, ⟨#[95, 108, 97, 119, 95, 115, 111, 109, 101]⟩, ⟨#[95, 108, 97, 119, 95, 111, 110, 101]⟩]
abbrev s__law_right : Stmt := top 45
theorem hc__law_right {k : Nat} {a0 a1 a2 : HV} {h : HH} : hcall T (k + 1) 36 [a0, a1, a2] h = outH ((hden T (hcall T k) b__law_right).st [some a0, some a1, some a2, none, none, none, none, none, none, none, none] h) := rfl
theorem c__law_right : chk T G b__law_right ⟨n__law_right, L2.defScope s__law_right, none⟩ (.ss (L2.defBody s__law_right)) = true := by decide +kernel
def n_law : List Str := [⟨#[95, 108, 97, 119, 95, 115, 99, 114, 105, 112, 116]⟩, ⟨#[95, 108, 97, 119, 95, 98, 121]⟩, ⟨#[95, 108, 97, 119, 95, 98, 111, 111, 107, 95, 104, 101, 114, 101]⟩, ⟨#[95, 108, 97, 119, 95, 111, 116, 104, 101, 114]⟩, ⟨#[95, 108, 97, 119, 95, 110, 97, 109, 101, 100, 95, 104, 101, 114, 101]⟩, ⟨#[95, 108, 97, 119, 95, 97, 116]⟩, ⟨#[95, 108, 97, 119, 95, 119, 111, 114, 100, 95, 104, 101, 114, 101]⟩, ⟨#[95, 108, 97, 119, 95, 109, 111, 114, 101]⟩, ⟨#[95, 108, 97, 119, 95, 115, 111, 109, 101]⟩, ⟨#[95, 108, 97, 119, 95, 102, 111, 117, 110, 100]⟩, ⟨#[95, 108, 97, 119, 95, 116, 101, 108, 108, 115]⟩]
abbrev s_law : Stmt := top 46
theorem hc_law {k : Nat} {a0 : HV} {h : HH} : hcall T (k + 1) 37 [a0] h = outH ((hden T (hcall T k) b_law).st [some a0, none, none, none, none, none, none, none, none, none, none] h) := rfl
theorem c_law : chk T G b_law ⟨n_law, L2.defScope s_law, none⟩ (.ss (L2.defBody s_law)) = true := by decide +kernel
end K01

section
set_option maxHeartbeats 1000000
namespace K01
open PySem MP MH
local macro_rules | `(tactic| walk_at "ev") => `(tactic| simp only [MH.ex_non, MH.ex_bl, MH.ex_int, MH.ex_str, MH.ex_var, MH.ex_gc, MH.ex_bin, MH.mx_bin, MH.ex_neg, MH.ex_not, MH.ts_not, MH.ex_cmp, MH.ex_chain, MH.ex_and, MH.ts_and, MH.ex_or, MH.ts_or, MH.ex_ife, MH.mx_ife, MH.ex_lst, MH.mx_lst, MH.ex_tup, MH.ex_dct, MH.mx_dct, MH.ex_ix, MH.ex_sl, MH.mx_sl, MH.ex_rev, MH.ex_fld, MH.ex_call, MH.ex_pcall, MH.ts_pcall, MH.ex_make, MH.ex_meth, MH.ex_pmeth, MH.ts_pmeth, MH.ex_bf, MH.mx_bf, MH.ex_bm, MH.ex_isi, MH.ex_sset, MH.ex_lset, MH.ex_comp, MH.mx_comp, MH.ex_mu, MH.ts_bl, MH.ts_var, MH.ts_cmp, MH.ts_chain, MH.ts_ix, MH.ts_fld, MH.ts_bf, MH.ts_bm, MH.ts_isi, MH.ts_nil, MH.op_nil, MH.op_int, MH.op_var, MH.op_neg, MH.op_bin, MH.xs_nil, MH.xs_cons, MH.it_iex, MH.it_ikv, MH.it_ir1, MH.it_ir2, MH.it_ien, MH.it_izp, MH.tg_tn, MH.tg_tt, MH.tg_tf, MH.tg_ts, MH.tgs_nil, MH.tgs_cons, MH.st_sex, MH.st_sas, MH.st_spar, MH.st_aug, MH.st_ret, MH.st_retn, MH.st_sif, MH.st_swh, MH.st_sfor, MH.st_spass, MH.st_snil, MH.st_scont, MH.st_sbrk, MH.st_scons, MH.bind_ok, MH.bind_no, MH.bind_ex, MH.nx_ok, MH.then_ok, MH.then_ex, MH.of_some, MH.seq_nx, MH.seq_rt, MH.seq_ct, MH.seq_bk, MH.seq_ex, MH.seq_no, MH.out_rt, MH.out_nx, MH.out_ex, MH.bool_ok, MH.ts_ok, MH.op_ok, MH.cmpR_is, MH.isiR_is, MH.get_0, MH.get_s, MH.set_0, MH.set_s, MH.sets_nil, MH.sets_cons, MH.wipe_nil, MH.wipe_cons, MH.tru_bl, MH.aug_ok, MH.bin_addi, MH.bin_subi, MH.lst_fl, MH.seq_fl, MH.seq_ft, MH.cmp_lti, MH.cmp_lei, MH.cmp_gti, MH.cmp_gei, MH.cmp_lts, MH.cmp_eq, MH.cmp_ne, MH.cmp_in, MH.cmp_nin, MH.cmp_is, MH.cmp_isn, MH.omap_some, MH.ix_ft, MH.ix_fl, MH.ix_fd, MH.len_fl, MH.len_ft2, MH.len_ft3, MH.len_sc, MH.src_fl, MH.src_ft, MH.srck_fl, MH.srck_str, MH.lc_its, MH.for_its, MH.ite_tt, if_true, if_false, MH.ite_ff, MH.ite_and, MH.ite_or, MH.ite_andt, MH.ite_ort, MH.isi_ss, MH.isi_ll, MH.isi_tt, MH.isi_ii, MH.isi_ib, MH.isi_bb, MH.cv_int, MH.cv_str, MH.atI_0, MH.atI_1, MH.atI_2, MH.eq_ints, MH.eq_sTT, MH.eq_sTI, MH.eq_sIT, MH.eq_sII, beq_self_eq_true, Bool.not_true, Bool.not_false, Bool.true_and, Bool.and_true, Bool.false_or, Bool.or_false, Bool.true_or, Bool.or_true, Bool.false_and, Bool.and_false, List.length_cons, List.length_nil, List.length_map, MH.ix_e0, MH.ix_e1, MH.ix_e2, MH.eq_kTo, MH.eq_kIs, MH.in_dictB, MH.mul_l, MH.mul_r, MH.bin_modi, MH.bin_divi, MH.pow_18, and_self, true_and, and_true, MH.ix_sc, MH.neg_int, MH.any_strEq, Option.isSome_none, Option.isSome_some, Int.reduceBEq, Int.reduceLT, Int.reduceLE, Int.reduceAdd, Int.reduceSub, Int.reduceMul, Int.reduceNeg, decide_true, decide_false])
theorem is_text {x : Str} {lo hi : Int} (hx : x.length ≤ LIM) : PV T 1 F_is_text [.str x, .int lo, .int hi] (.bl (isTx x lo hi)) := .mk (g := fun _ => []) rfl fun k _ => by
  rw [hc_is_text]
  unfold b_is_text
  walk_at "ev"
  simp only [len_str hx]
  walk_at "ev"
  rw [lcI_all (fun c => HV.str ⟨#[c]⟩) (fun c => HV.bl (isLet c)) _ (fun c _ => ⟨_, rfl, rfl, rfl⟩)]
  walk_at "ev"
  rw [unl_its (by simpa [Str.length] using hx)]
  walk_at "ev"
  rw [all_bools]
  walk_at "ev"
  rfl
theorem is_word {x : Str} (hx : x.length ≤ LIM) : PV T 2 F_is_word [.str x] (.bl (isW x)) := .mk (g := fun _ => []) rfl fun k hk => by
  rw [hc_is_word]
  unfold b_is_word
  walk_at "ev"
  rw [pc_t (is_text hx) (by omega) rfl]
  walk_at "ev"
  rfl
theorem is_word1 {x : Str} (hx : isW x = true) : PV T 2 F_is_word [.str x] (.bl true) := by
  have := is_word (isW_lim hx)
  rwa [hx] at this
theorem is_sense {s : List Str} (hs : s.all isW = true) : PV T 3 F_is_sense [encS s] (.bl (decide (s.length ≤ 3))) := .mk (g := fun _ => []) rfl fun k hk => by
  rw [hc_is_sense]
  unfold b_is_sense encS
  walk_at "ev"
  by_cases q : s.length ≤ 3
  · have q' : (s.length : Int) ≤ 3 := by omega
    rw [lcI_all HV.str (fun x => HV.bl (isW x)) s (fun x hx => ⟨_, rfl, rfl, by
      walk_at "ev"
      rw [pc_t (is_word (isW_lim (List.all_eq_true.mp hs x hx))) (by omega) rfl]⟩)]
    walk_at "ev"
    rw [unl_its (by rw [List.length_map]; unfold LIM; omega)]
    walk_at "ev"
    rw [all_bools]
    walk_at "ev"
    rw [hs]
    simp [q, q']
  · have q' : ¬ (s.length : Int) ≤ 3 := by omega
    simp only [q, q']
    walk_at "ev"
theorem is_entry {x : Ent} (hs : okE x = true) : PV T 4 F_is_entry [encE x] (.bl true) := .mk (g := fun _ => []) rfl fun k hk => by
  rw [hc_is_entry]
  unfold b_is_entry
  have hw := okE_w hs
  cases x with
  | to w o =>
    unfold encE
    simp only [okE, Bool.and_eq_true] at hs
    walk_at "ev"
    rw [pc_t (is_word1 hs.1) (by omega) rfl]
    walk_at "ev"
    rw [pc_t (is_word1 hs.2) (by omega) rfl]
    walk_at "ev"
  | is w ss =>
    unfold encE
    simp only [okE, Bool.and_eq_true, decide_eq_true_eq] at hs
    obtain ⟨⟨⟨h1, h2⟩, h3⟩, h4⟩ := hs
    walk_at "ev"
    rw [pc_t (is_word1 h1) (by omega) rfl]
    walk_at "ev"
    simp only [show decide ((1 : Int) ≤ (ss.length : Int)) = true from decide_eq_true (by omega), show decide ((ss.length : Int) ≤ 2) = true from decide_eq_true (by omega)]
    walk_at "ev"
    rw [lcI_all encS (fun s => HV.bl (decide (s.length ≤ 3))) ss (fun s hs => ⟨_, rfl, rfl, by
      have := List.all_eq_true.mp h4 s hs
      rw [Bool.and_eq_true] at this
      walk_at "ev"
      rw [pc_t (is_sense this.2) (by omega) (rf1 (rf_encS s))]⟩)]
    walk_at "ev"
    rw [unl_its (by rw [List.length_map]; unfold LIM; omega)]
    walk_at "ev"
    rw [all_bools]
    walk_at "ev"
    rw [show (ss.all fun s => decide (s.length ≤ 3)) = true from by
      rw [List.all_eq_true] at h4 ⊢
      intro s hs
      have := h4 s hs
      rw [Bool.and_eq_true] at this
      exact this.1]
theorem are_rising {l : List Str} (hl : l.length ≤ 4000) : PV T 1 F_are_rising [.fl (l.map .str)] (.bl (rising l)) := .mk (g := fun _ => []) rfl fun k hk => by
  rw [hc_are_rising]
  unfold b_are_rising
  walk_at "ev"
  rw [sl_from1]
  walk_at "ev"
  rw [show izpH (.fl (l.map HV.str)) (.fl ((l.map HV.str).drop 1)) [] = .ok (.its (zipL (l.map HV.str) ((l.drop 1).map HV.str)), min (l.map HV.str).length ((l.map HV.str).drop 1).length) [] from by rw [List.map_drop]; rfl]
  walk_at "ev"
  rw [zipL_map, lcI_all (fun p : Str × Str => HV.ft [.str p.1, .str p.2]) (fun p => HV.bl (strLt p.1 p.2)) _ (fun p _ => ⟨_, rfl, rfl, rfl⟩)]
  walk_at "ev"
  rw [unl_its (by rw [List.length_map, List.length_zip]; unfold LIM; omega)]
  walk_at "ev"
  rw [all_bools]
  walk_at "ev"
  rw [List.drop_one]
  rfl
theorem check_book {b : Book} (hb : okB b = true) : PV T 5 F_check_book [encB b] .non := .mk (g := fun _ => []) rfl fun k hk => by
  obtain ⟨h1, h2, h3, h4⟩ := okB_all hb
  rw [hc_check_book]
  unfold b_check_book encB
  walk_at "ev"
  simp only [show decide ((40 : Int) < (b.length : Int)) = false from decide_eq_false (by omega)]
  walk_at "ev"
  rw [lcI_all encE (fun _ => HV.bl true) b (fun x hx => ⟨_, rfl, rfl, by
    walk_at "ev"
    rw [pc_t (is_entry (h2 x hx)) (by omega) (rf1 (rf_encE x))]⟩)]
  walk_at "ev"
  rw [unl_its (by rw [List.length_map]; unfold LIM; omega)]
  walk_at "ev"
  rw [all_bools]
  walk_at "ev"
  rw [List.all_eq_true.mpr fun _ _ => rfl]
  walk_at "ev"
  rw [lcI_all encE (fun x => HV.str x.w) b (fun x hx => ⟨_, rfl, rfl, by walk_at "ev"⟩)]
  walk_at "ev"
  rw [unl_its (by rw [List.length_map]; unfold LIM; omega)]
  walk_at "ev"
  rw [show (b.map fun x => HV.str x.w) = (ws b).map .str from by unfold ws; rw [List.map_map]; rfl, pc_t (are_rising (l := ws b) (by unfold ws; rw [List.length_map]; omega)) (by omega) (rf1 (rf_strs _)), h3]
  walk_at "ev"
theorem check_word {x : Str} (hx : isW x = true) : PV T 3 F_check_word [.str x] .non := .mk (g := fun _ => []) rfl fun k hk => by
  rw [hc_check_word]
  unfold b_check_word
  walk_at "ev"
  rw [pc_t (is_word1 hx) (by omega) rfl]
  walk_at "ev"
theorem known_by {b : Book} (hb : okB b = true) {k : Nat} {h : HH} : hcall T (k + 1) F_known_by [encB b] h = .ok (dictB b) h := by
  obtain ⟨h1, h2, h3, h4⟩ := okB_all hb
  rw [hc_known_by]
  unfold b_known_by encB
  walk_at "ev"
  rw [lcI_all encE (fun x => HV.ft [.str x.w, encE x]) b (fun x hx => ⟨_, rfl, rfl, by
    walk_at "ev"
    rw [mkTup_is (by simp [LIM])]
    rfl⟩)]
  walk_at "ev"
  rw [unl_its (by rw [List.length_map]; unfold LIM; omega)]
  walk_at "ev"
  rw [show bfH false .dict [.fl (b.map fun x => HV.ft [.str x.w, encE x])] h = .ok (dictB b) h from by
    show (match (some (b.map fun x => HV.ft [.str x.w, encE x])).bind pairsH with | some ps => mkD false (mergeP [] ps) h | none => .no) = _
    rw [Option.bind_some, pairsH_map]
    dsimp only
    rw [merge_nodup _ _ (by rw [List.nil_append, List.map_map]; exact h4), List.nil_append]
    rfl]
  walk_at "ev"
theorem is_led {b : Book} {w : Str} {l : List Str} (hb : okB b = true) (hw : isW w = true) (hl : ∀ x ∈ l, isW x = true) (hn : l.length ≤ 1000) : PV T 2 F_is_led [encB b, .str w, encS l] (.bl (isLed b w l)) := .mk2 fun k hk => by
  obtain ⟨j, rfl⟩ : ∃ j, k = j + 1 := ⟨k - 1, by omega⟩
  obtain ⟨h1, h2, h3, h4⟩ := okB_all hb
  refine ⟨_, [], ?_, vw_rf rfl⟩
  rw [hc_is_led]
  unfold b_is_led
  walk_at "ev"
  rw [known_by hb]
  walk_at "ev"
  rw [mkLs_f (by simp [LIM])]
  walk_at "ev"
  rw [eq_wordsN fun x hx => isW_ok (hl x hx)]
  walk_at "ev"
  cases l with
  | nil =>
    walk_at "ev"
    rfl
  | cons x r =>
    rw [show decide (x :: r = []) = false from rfl]
    walk_at "ev"
    rw [List.map_cons, atI_0]
    walk_at "ev"
    rw [eq_wws (hl x (List.mem_cons_self ..)) hw]
    walk_at "ev"
    rw [lset_words (l := x :: r) (by omega)]
    walk_at "ev"
    have dl := dedup_lt strLt (x :: r)
    rw [List.length_cons] at dl
    rw [dl]
    cases hc : (!decide (x = w) || !decide (x :: r).Nodup) with
    | true =>
      walk_at "ev"
      unfold isLed
      rw [show (decide ((x :: r).head? = some w) && decide (x :: r).Nodup) = false from by
        rw [Bool.or_eq_true] at hc
        rcases hc with q | q
        · have : ¬ x = w := by simpa using q
          simp [this]
        · have : ¬ (x :: r).Nodup := fun z => by rw [decide_eq_true z] at q; cases q
          simp only [this, decide_false, Bool.and_false]]
      rfl
    | false =>
      rw [Bool.or_eq_false_iff] at hc
      have q1 : x = w := by simpa using hc.1
      have q2 : (x :: r).Nodup := by simpa using hc.2
      subst q1
      walk_at "ev"
      rw [sl_from1]
      walk_at "ev"
      rw [show izpH (encS (x :: r)) (.fl (((x :: r).map HV.str).drop 1)) [] = .ok (.its (zipL ((x :: r).map HV.str) (((x :: r).drop 1).map HV.str)), min ((x :: r).map HV.str).length (((x :: r).map HV.str).drop 1).length) [] from by rw [List.map_drop]; rfl]
      walk_at "ev"
      rw [zipL_map]
      obtain ⟨e', q⟩ := forI_chk (fun p : Str × Str => HV.ft [HV.str p.fst, HV.str p.snd]) (h := []) (tg := (hden T (hcall T (j + 1)) (A.tt 2 ((A.tn 4).cons ((A.tn 5).cons A.nil)))).tg)
        (b := (hden T (hcall T (j + 1)) b0_is_led).st)
        (fun e => ∃ u v, e = [some (encB b), some (.str x), some (encS (x :: r)), some (dictB b), u, v]) (fun p => !isTo b p.1 p.2) (.bl false) ((x :: r).zip (List.drop 1 (x :: r)))
        [some (encB b), some (.str x), some (encS (x :: r)), some (dictB b), none, none] ⟨_, _, rfl⟩ (by
          rintro ⟨o, p⟩ hp e ⟨u, v, rfl⟩
          have hp2 : isW p = true := hl p (List.mem_of_mem_drop (List.of_mem_zip hp).2)
          refine ⟨_, rfl, ?_⟩
          unfold b0_is_led
          walk_at "ev"
          unfold isTo
          cases q : lookE b o with
          | none =>
            walk_at "ev"
            exact ⟨fun _ => ⟨_, rfl⟩, fun z => by simp at z⟩
          | some y =>
            walk_at "ev"
            rw [ix_dictB q]
            walk_at "ev"
            cases y with
            | is w ss =>
              walk_at "ev"
              exact ⟨fun _ => ⟨_, rfl⟩, fun z => by simp at z⟩
            | to w o2 =>
              have ho := h2 _ (lookE_mem q).1
              simp only [okE, Bool.and_eq_true] at ho
              walk_at "ev"
              simp only [ix_dictB q]
              walk_at "ev"
              rw [show (Ent.to w o2).v = .str o2 from rfl, eq_wws ho.2 hp2]
              walk_at "ev"
              by_cases z : o2 = p
              · simp only [z, decide_true, Bool.not_true]
                walk_at "ev"
                exact ⟨fun z => by simp at z, fun _ => ⟨_, rfl, _, _, rfl⟩⟩
              · simp only [z, decide_false, Bool.not_false]
                walk_at "ev"
                exact ⟨fun _ => ⟨_, rfl⟩, fun z => by simp at z⟩)
      rw [List.drop_one] at q ⊢
      rw [zip_chain] at q
      have hd : isLed b x (x :: r) = chain b (x :: r) := by unfold isLed; simp only [List.head?_cons, q2, decide_true, Bool.true_and]
      rw [hd]
      rcases q with ⟨_, q, q3⟩ | ⟨q, q3⟩
      · rw [q3]
        walk_at "ev"
        rw [show chain b (x :: r) = true from by simpa using q]
      · rw [q3]
        walk_at "ev"
        rw [show chain b (x :: r) = false from by simpa using q]
theorem head_shows {b : Book} {w : Str} {l : List Str} (hb : okB b = true) (hw : isW w = true) (hl : ∀ x ∈ l, isW x = true) (hn : l.length ≤ 1000) : PV T 3 F_Head_shows [.fi C_Head [(sWay, encS l)], encB b, .str w] (.bl (headSh b w l)) := .mk2 fun k hk => by
  obtain ⟨j, rfl⟩ : ∃ j, k = j + 1 := ⟨k - 1, by omega⟩
  refine ⟨_, [], ?_, vw_rf rfl⟩
  rw [hc_Head_shows]
  unfold b_Head_shows headSh
  have fw : ∀ h, fldH T (.fi C_Head [(sWay, encS l)]) ⟨#[119, 97, 121]⟩ h = .ok (encS l) h := fun h => rfl
  walk_at "ev"
  rw [known_by hb]
  walk_at "ev"
  rw [fw]
  walk_at "ev"
  rw [pc_t (is_led hb hw hl hn) (by omega) (rf3 (rf_encB b) rfl (rf_encS l))]
  walk_at "ev"
  cases q : isLed b w l with
  | false => walk_at "ev"
  | true =>
    walk_at "ev"
    rw [fw]
    walk_at "ev"
    rw [atI_last]
    obtain ⟨r, m, rfl, _, _⟩ := led_way q
    rw [show ((w :: r).map HV.str).getLast? = some (.str (lastD w r)) from by rw [List.getLast?_map, last_lastD]; rfl]
    walk_at "ev"
    rw [last_lastD]
    dsimp only
    cases z : lookE b (lastD w r) with
    | none => walk_at "ev"
    | some y =>
      walk_at "ev"
      rw [fw]
      walk_at "ev"
      rw [atI_last, show ((w :: r).map HV.str).getLast? = some (.str (lastD w r)) from by rw [List.getLast?_map, last_lastD]; rfl]
      walk_at "ev"
      rw [ix_dictB z]
      walk_at "ev"
      cases y <;> rfl
theorem lost_shows {b : Book} {w : Str} {l : List Str} (hb : okB b = true) (hw : isW w = true) (hl : ∀ x ∈ l, isW x = true) (hn : l.length ≤ 1000) : PV T 3 F_Lost_shows [.fi C_Lost [(sWay, encS l)], encB b, .str w] (.bl (lostSh b w l)) := .mk2 fun k hk => by
  obtain ⟨j, rfl⟩ : ∃ j, k = j + 1 := ⟨k - 1, by omega⟩
  refine ⟨_, [], ?_, vw_rf rfl⟩
  rw [hc_Lost_shows]
  unfold b_Lost_shows lostSh
  have fw : ∀ h, fldH T (.fi C_Lost [(sWay, encS l)]) ⟨#[119, 97, 121]⟩ h = .ok (encS l) h := fun h => rfl
  walk_at "ev"
  rw [fw]
  walk_at "ev"
  rw [pc_t (is_led hb hw hl hn) (by omega) (rf3 (rf_encB b) rfl (rf_encS l))]
  walk_at "ev"
  cases q : isLed b w l with
  | false => walk_at "ev"
  | true =>
    walk_at "ev"
    rw [fw]
    walk_at "ev"
    rw [atI_last]
    obtain ⟨r, m, rfl, _, _⟩ := led_way q
    rw [show ((w :: r).map HV.str).getLast? = some (.str (lastD w r)) from by rw [List.getLast?_map, last_lastD]; rfl]
    walk_at "ev"
    rw [known_by hb]
    walk_at "ev"
    rw [last_lastD]
    dsimp only
    cases z : lookE b (lastD w r) <;> rfl
/-- a ring's words, with any number for the place -/
def ringI (b : Book) (w : Str) (l : List Str) (p : Int) : Bool := decide (0 ≤ p) && ringSh b w l p.toNat
theorem ring_shows {b : Book} {w : Str} {l : List Str} {p : Int} (hb : okB b = true) (hw : isW w = true) (hl : ∀ x ∈ l, isW x = true) (hn : l.length ≤ 1000) : PV T 3 F_Ring_shows [.fi C_Ring [(sWay, encS l), (sPlace, .int p)], encB b, .str w] (.bl (ringI b w l p)) := .mk2 fun k hk => by
  obtain ⟨j, rfl⟩ : ∃ j, k = j + 1 := ⟨k - 1, by omega⟩
  refine ⟨_, [], ?_, vw_rf rfl⟩
  rw [hc_Ring_shows]
  unfold b_Ring_shows ringI ringSh
  have fw : ∀ h, fldH T (.fi C_Ring [(sWay, encS l), (sPlace, .int p)]) ⟨#[119, 97, 121]⟩ h = .ok (encS l) h := fun h => rfl
  have fp : ∀ h, fldH T (.fi C_Ring [(sWay, encS l), (sPlace, .int p)]) ⟨#[112, 108, 97, 99, 101]⟩ h = .ok (.int p) h := fun h => rfl
  walk_at "ev"
  rw [known_by hb]
  walk_at "ev"
  rw [fw]
  walk_at "ev"
  rw [pc_t (is_led hb hw hl hn) (by omega) (rf3 (rf_encB b) rfl (rf_encS l))]
  walk_at "ev"
  cases q : isLed b w l with
  | false =>
    walk_at "ev"
  | true =>
    walk_at "ev"
    rw [fw]
    walk_at "ev"
    rw [atI_last]
    obtain ⟨r, m, e, _, _⟩ := led_way q
    have el : (l.map HV.str).getLast? = some (.str (lastD w r)) := by rw [e, List.getLast?_map, last_lastD]; rfl
    have el2 : l.getLast? = some (lastD w r) := by rw [e, last_lastD]
    rw [el]
    walk_at "ev"
    rw [el2]
    dsimp only
    cases z : lookE b (lastD w r) with
    | none =>
      walk_at "ev"
    | some y =>
      walk_at "ev"
      rw [fp]
      walk_at "ev"
      rw [fw]
      walk_at "ev"
      by_cases h0 : 0 ≤ p
      · by_cases h1 : p < (l.length : Int)
        · simp only [h0, h1, decide_true]
          walk_at "ev"
          rw [fw]
          walk_at "ev"
          rw [atI_last, el]
          walk_at "ev"
          rw [ix_dictB z]
          walk_at "ev"
          cases y with
          | is x ss => walk_at "ev"
          | to x o =>
            walk_at "ev"
            rw [fw]
            walk_at "ev"
            rw [fp]
            walk_at "ev"
            obtain ⟨n, rfl⟩ : ∃ n : Nat, p = n := ⟨p.toNat, by omega⟩
            have hn2 : n < l.length := by omega
            have ho := (okB_all hb).2.1 _ (lookE_mem z).1
            simp only [okE, Bool.and_eq_true] at ho
            rw [atI_nat, List.getElem?_map, List.getElem?_eq_getElem hn2, show (Ent.to x o).v = .str o from rfl]
            walk_at "ev"
            rw [eq_wws ho.2 (hl _ (List.getElem_mem hn2))]
            walk_at "ev"
            rw [Int.toNat_natCast, List.getElem?_eq_getElem hn2]
            congr 2
            apply Bool.eq_iff_iff.mpr
            simp only [decide_eq_true_eq, Option.some.injEq]
            exact eq_comm
        · simp only [h0, h1, decide_true, decide_false]
          walk_at "ev"
          have : l[p.toNat]? = none := List.getElem?_eq_none (by omega)
          cases y with
          | is x ss => rfl
          | to x o => simp [this]
      · simp only [h0, decide_false]
        walk_at "ev"
/-- the making of an answer from a list in the heap -/
theorem make_head {k : Nat} {h : HH} {n : Nat} {xs : List HV} (e : h[n]? = some (.lst xs)) : mkInsH T (hcall T (k + 1)) C_Head [.ref n] h = .ok (.ref h.length) (h ++ [.ins C_Head [(sWay, .ref (h.length + 1))], .lst xs]) := by
  show nonH (hcall T (k + 1) F_Head___init__ [.ref h.length, .ref n] (h ++ [.ins C_Head []])) h.length = _
  rw [hc_Head___init__]
  unfold b_Head___init__
  walk_at "ev"
  rw [list_refm (get_left e)]
  walk_at "ev"
  rw [app_s, setF_ref get_app ⟨rfl, by decide⟩, set_app]
  walk_at "ev"
  rw [len_s]
  rfl
theorem make_lost {k : Nat} {h : HH} {n : Nat} {xs : List HV} (e : h[n]? = some (.lst xs)) : mkInsH T (hcall T (k + 1)) C_Lost [.ref n] h = .ok (.ref h.length) (h ++ [.ins C_Lost [(sWay, .ref (h.length + 1))], .lst xs]) := by
  show nonH (hcall T (k + 1) F_Lost___init__ [.ref h.length, .ref n] (h ++ [.ins C_Lost []])) h.length = _
  rw [hc_Lost___init__]
  unfold b_Lost___init__
  walk_at "ev"
  rw [list_refm (get_left e)]
  walk_at "ev"
  rw [app_s, setF_ref get_app ⟨rfl, by decide⟩, set_app]
  walk_at "ev"
  rw [len_s]
  rfl
theorem make_ring {k : Nat} {h : HH} {n : Nat} {xs : List HV} {p : HV} (e : h[n]? = some (.lst xs)) : mkInsH T (hcall T (k + 1)) C_Ring [.ref n, p] h = .ok (.ref h.length) (h ++ [.ins C_Ring [(sWay, .ref (h.length + 1)), (sPlace, p)], .lst xs]) := by
  show nonH (hcall T (k + 1) F_Ring___init__ [.ref h.length, .ref n, p] (h ++ [.ins C_Ring []])) h.length = _
  rw [hc_Ring___init__]
  unfold b_Ring___init__
  walk_at "ev"
  rw [list_refm (get_left e)]
  walk_at "ev"
  rw [app_s, setF_ref get_app ⟨rfl, by decide⟩, set_app]
  walk_at "ev"
  rw [setF_ref get_app ⟨rfl, by show 1 < 900; decide⟩, set_app]
  walk_at "ev"
  rw [len_s]
  rfl
theorem look_loop {b : Book} (hb : okB b = true) {k : Nat} {h : HH} (w0 : HV) : ∀ (m N : Nat) (pre : List Str) (here : Str), m ≤ N → isW here = true → (∀ x ∈ pre, isW x = true) → pre.length + m ≤ 1000 → wayF m b pre here ≠ .out →
    (∃ wy i E', wayF m b pre here = .ring wy i ∧ whH N (hden T (hcall T (k + 1)) c0_looked_of).ts (hden T (hcall T (k + 1)) b0_looked_of).st [some (encB b), w0, some (dictB b), some (.ref h.length), some (.str here)] (h ++ [.lst (pre.map .str)]) =
        .ok (.rt (.ref (h.length + 1))) E' (h ++ [.lst (wy.map .str), .ins C_Ring [(sWay, .ref (h.length + 2)), (sPlace, .int i)], .lst (wy.map .str)]))
    ∨ (∃ wy here', (wayF m b pre here = .head wy ∧ (lookE b here').isSome = true ∨ wayF m b pre here = .lost wy ∧ (lookE b here').isSome = false) ∧
        whH N (hden T (hcall T (k + 1)) c0_looked_of).ts (hden T (hcall T (k + 1)) b0_looked_of).st [some (encB b), w0, some (dictB b), some (.ref h.length), some (.str here)] (h ++ [.lst (pre.map .str)]) =
        .ok .nx [some (encB b), w0, some (dictB b), some (.ref h.length), some (.str here')] (h ++ [.lst (wy.map .str)]))
  | 0, _, _, _, _, _, _, _, ho => absurd rfl ho
  | m + 1, N, pre, here, hN, hw, hp, hl, ho => by
    obtain ⟨N, rfl⟩ : ∃ j, N = j + 1 := ⟨N - 1, by omega⟩
    unfold wayF at ho ⊢
    have ht : ∀ e, lookE b here = e → (hden T (hcall T (k + 1)) c0_looked_of).ts [some (encB b), w0, some (dictB b), some (.ref h.length), some (.str here)] (h ++ [.lst (pre.map .str)]) =
        .ok (match e with | some (.to _ _) => true | _ => false) (h ++ [.lst (pre.map .str)]) := fun e q => by
      unfold c0_looked_of
      walk_at "ev"
      rw [q]
      cases e with
      | none => walk_at "ev"
      | some y =>
        walk_at "ev"
        rw [ix_dictB q]
        walk_at "ev"
        cases y <;> rfl
    cases q : lookE b here with
    | none =>
      right
      rw [wh_ff (ht _ q)]
      exact ⟨pre, here, .inr ⟨rfl, by rw [q]; rfl⟩, rfl⟩
    | some y =>
      cases y with
      | is x ss =>
        right
        rw [wh_ff (ht _ q)]
        exact ⟨pre, here, .inl ⟨rfl, by rw [q]; rfl⟩, rfl⟩
      | to x o =>
        have hoo := (okB_all hb).2.1 _ (lookE_mem q).1
        simp only [okE, Bool.and_eq_true] at hoo
        rw [q] at ho
        dsimp only at ho ⊢
        have gl : (h ++ [HO.lst (pre.map HV.str)])[h.length]? = some (.lst (pre.map .str)) := get_app
        by_cases z : o ∈ pre
        · left
          rw [if_pos z]
          refine ⟨pre, idxS o pre, [some (encB b), w0, some (dictB b), some (.ref h.length), some (.str o)], rfl, wh_rt (ht _ q) ?_⟩
          unfold b0_looked_of
          walk_at "ev"
          rw [ix_dictB q]
          walk_at "ev"
          rw [show (Ent.to x o).v = .str o from rfl, in_ref gl, decide_eq_true z]
          walk_at "ev"
          rw [rcv_ref gl]
          walk_at "ev"
          rw [if_pos (show okKind .index .lst = true from rfl), idx_ref gl z]
          walk_at "ev"
          rw [make_ring gl, len_s, app_s]
          walk_at "ev"
        · rw [if_neg z] at ho ⊢
          have hb2 : (hden T (hcall T (k + 1)) b0_looked_of).st [some (encB b), w0, some (dictB b), some (.ref h.length), some (.str here)] (h ++ [.lst (pre.map .str)]) =
              .ok .nx [some (encB b), w0, some (dictB b), some (.ref h.length), some (.str o)] (h ++ [.lst ((pre ++ [o]).map .str)]) := by
            unfold b0_looked_of
            walk_at "ev"
            rw [ix_dictB q]
            walk_at "ev"
            rw [show (Ent.to x o).v = .str o from rfl, in_ref gl, decide_eq_false z]
            walk_at "ev"
            rw [rcv_ref gl]
            walk_at "ev"
            rw [if_pos (show okKind .append .lst = true from rfl), app_ref gl (by rw [List.length_map]; unfold LIM; omega), set_app, List.map_append]
            rfl
          rw [wh_nx (ht _ q) hb2]
          exact look_loop hb w0 m N (pre ++ [o]) o (by omega) hoo.2 (fun y hy => by
            rcases List.mem_append.mp hy with r | r
            · exact hp y r
            · rw [List.mem_singleton] at r; rw [r]; exact hoo.2) (by rw [List.length_append]; simp; omega) ho
/-- what a lookup makes -/
def ansO (n : Nat) : Way → HO
  | .head _ => .ins C_Head [(sWay, .ref (n + 2))]
  | .lost _ => .ins C_Lost [(sWay, .ref (n + 2))]
  | .ring _ i => .ins C_Ring [(sWay, .ref (n + 2)), (sPlace, .int i)]
  | .out => .lst []
def ansH (h : HH) (y : Way) : HH := h ++ [.lst ((wayL y).map .str), ansO h.length y, .lst ((wayL y).map .str)]
theorem looked_of {b : Book} {w : Str} {k : Nat} {h : HH} (hb : okB b = true) (hw : isW w = true) : hcall T (k + 3) F_looked_of [encB b, .str w] h = .ok (.ref (h.length + 1)) (ansH h (way b w)) := by
  have hl := (okB_all hb).1
  rw [hc_looked_of]
  unfold b_looked_of
  walk_at "ev"
  rw [known_by hb]
  walk_at "ev"
  rw [mkLs_m (by simp [LIM])]
  walk_at "ev"
  have lp := look_loop hb (k := k + 1) (h := h) (.str w) (b.length + 1) WHN [w] w (by unfold WHN; omega) hw (fun x hx => by rw [List.mem_singleton] at hx; rw [hx]; exact hw) (by simp; omega) (way_out b w)
  rcases lp with ⟨wy, i, E', h1, h2⟩ | ⟨wy, here', h1, h2⟩
  · rw [show ([HV.str w] : List HV) = [w].map HV.str from rfl, h2]
    walk_at "ev"
    rw [show way b w = .ring wy i from h1]
    rfl
  · rw [show ([HV.str w] : List HV) = [w].map HV.str from rfl, h2]
    walk_at "ev"
    have gl : (h ++ [HO.lst (wy.map HV.str)])[h.length]? = some (.lst (wy.map .str)) := get_app
    rcases h1 with ⟨h1, h3⟩ | ⟨h1, h3⟩
    · rw [h3]
      walk_at "ev"
      rw [make_head gl, len_s, app_s]
      walk_at "ev"
      rw [show way b w = .head wy from h1]
      rfl
    · rw [h3]
      walk_at "ev"
      rw [make_lost gl, len_s, app_s]
      walk_at "ev"
      rw [show way b w = .lost wy from h1]
      rfl
theorem looked {b : Book} {w : Str} {k : Nat} {h : HH} (hb : okB b = true) (hw : isW w = true) (hk : 5 ≤ k) : hcall T (k + 1) F_looked [encB b, .str w] h = .ok (.ref (h.length + 1)) (ansH h (way b w)) := by
  obtain ⟨j, rfl⟩ : ∃ j, k = j + 3 := ⟨k - 3, by omega⟩
  rw [hc_looked]
  unfold b_looked
  walk_at "ev"
  rw [pc_t (check_book hb) (by omega) (rf1 (rf_encB b))]
  walk_at "ev"
  rw [pc_t (check_word hw) (by omega) rfl]
  walk_at "ev"
  rw [looked_of hb hw]
  walk_at "ev"
theorem cell_at {ns : List Int} {i : Int} (hi : 0 ≤ i) : PV T 1 F__law_cell_at [.sc ns, .int i] (.int (cellF ns i)) := .mk (g := fun _ => []) rfl fun k hk => by
  rw [hc__law_cell_at]
  unfold b__law_cell_at cellF
  walk_at "ev"
  rw [List.getD_eq_getElem?_getD]
  by_cases q : i < (ns.length : Int)
  · simp only [q, decide_true]
    walk_at "ev"
    rw [atI_nn hi, List.getElem?_eq_getElem (show i.toNat < ns.length by omega)]
    walk_at "ev"
    rfl
  · simp only [q, decide_false]
    walk_at "ev"
    rw [List.getElem?_eq_none (show ns.length ≤ i.toNat by omega)]
    rfl
theorem draw {c k m : Int} (hk : 0 ≤ k) (hm : 0 < m) : PV T 1 F__law_draw [.int c, .int k, .int m] (.int (drawF c k m)) := .mk (g := fun _ => []) rfl fun k' hk' => by
  rw [hc__law_draw]
  unfold b__law_draw drawF
  walk_at "ev"
  rw [mkTup_is (by show 16 ≤ 100000; decide)]
  walk_at "ev"
  have e : ([.int 1000003, .int 1000033, .int 1000037, .int 1000039, .int 1000081, .int 1000099, .int 1000117, .int 1000121, .int 1000133, .int 1000151, .int 1000159, .int 1000171, .int 1000183, .int 1000187, .int 1000193, .int 1000199] : List HV) = primes.map HV.int := rfl
  have hl : (k % 16).toNat < primes.length := by show _ < 16; omega
  have hp : 0 < primes[(k % 16).toNat] := by
    have all : ∀ z ∈ primes, 0 < z := by decide
    exact all _ (List.getElem_mem hl)
  rw [e, atI_nn (by omega), List.getElem?_map, List.getElem?_eq_getElem hl]
  walk_at "ev"
  rw [bin_modi hp]
  walk_at "ev"
  rw [bin_modi hm]
  walk_at "ev"
  rw [List.getD_eq_getElem?_getD, List.getElem?_eq_getElem hl]
  rfl
theorem number {c k l : Int} (hk : 0 ≤ k ∧ k < 1000000) (hl : 0 < l ∧ l < 1000000) : PV T 2 F__law_number [.int c, .int k, .int l] (.int (numF c k l)) := .mk (g := fun _ => []) rfl fun k' hk' => by
  rw [hc__law_number]
  unfold b__law_number numF
  walk_at "ev"
  by_cases q : 1000000000000000000 ≤ c
  · simp only [q, decide_true]
    walk_at "ev"
    rw [mkTup_is (by show 5 ≤ 100000; decide)]
    walk_at "ev"
    have e : ([.int 1, .int 7, .int 49, .int 343, .int 2401] : List HV) = ([1, 7, 49, 343, 2401] : List Int).map HV.int := rfl
    have hl5 : (k % 5).toNat < ([1, 7, 49, 343, 2401] : List Int).length := by show _ < 5; omega
    rw [e, atI_nn (by omega), List.getElem?_map, List.getElem?_eq_getElem hl5]
    walk_at "ev"
    have ef : ([1, 7, 49, 343, 2401] : List Int)[(k % 5).toNat] = fives k := by
      unfold fives
      rw [List.getD_eq_getElem?_getD, List.getElem?_eq_getElem hl5]
      rfl
    rw [ef]
    have h5 := fives_is k
    rw [mul_l (by omega)]
    walk_at "ev"
    rw [bin_modi (by rcases h5 with h | h | h | h | h <;> rw [h] <;> omega)]
    walk_at "ev"
    rw [bin_divi (by omega)]
    walk_at "ev"
  · simp only [q, decide_false]
    walk_at "ev"
    by_cases q2 : c < -1000000000000000000
    · simp only [q2, decide_true]
      walk_at "ev"
      rw [show (1000811284336359577647248616306026718125307353262274591 : Int) = bigN from rfl]
      have b1 : 0 ≤ c % bigN := Int.emod_nonneg _ (by decide)
      have b2 : c % bigN < bigN := Int.emod_lt_of_pos _ (by decide)
      have b3 : bigN < 10 ^ 55 := by decide
      generalize c % bigN = d at b1 b2
      rw [bin_muli (mulOk_b (by omega) (by omega))]
      walk_at "ev"
      rw [pc_t (draw (by omega) (by decide)) (by omega) rfl]
      walk_at "ev"
      rw [bin_modi hl.1]
      walk_at "ev"
    · simp only [q2, decide_false]
      walk_at "ev"
      rw [bin_muli (mulOk_b (by omega) (by omega))]
      walk_at "ev"
      rw [pc_t (draw (by omega) (by decide)) (by omega) rfl]
      walk_at "ev"
      rw [bin_modi hl.1]
      walk_at "ev"
theorem word_step {k : Nat} {h : HH} {n m : Int} {l : List Nat} {i : Int} (hn : 0 ≤ n ∧ n < 1000000000) (hi : 0 ≤ i ∧ i < 10) (hl : l.length ≤ 10) {u : Option HV} : (hden T (hcall T k) b0__law_word).st [some (.int n), some (.str lettersS), some (.str ⟨l.toArray⟩), some (.int m), some (.int i)] h =
    .ok .nx [some (.int n), some (.str lettersS), some (.str ⟨(l ++ [LTR ((n * (2 * i + 1) + m + i) % 26)]).toArray⟩), some (.int m), some (.int i)] h := by
  unfold b0__law_word
  walk_at "ev"
  rw [mul_r (by omega)]
  walk_at "ev"
  rw [ix_let (by omega)]
  walk_at "ev"
  rw [bin_adds (by show l.toArray.size + 1 ≤ 100000; rw [List.size_toArray]; omega), show (⟨#[LTR ((n * (2 * i + 1) + m + i) % 26)]⟩ : Str) = ⟨[LTR ((n * (2 * i + 1) + m + i) % 26)].toArray⟩ from rfl, str_app]
  walk_at "ev"
theorem word {n : Int} (hn : 0 ≤ n ∧ n < 1000000000) : PV T 1 F__law_word [.int n] (.str (wordF n)) := .mk (g := fun _ => []) rfl fun k hk => by
  rw [hc__law_word]
  unfold b__law_word
  walk_at "ev"
  rw [show (⟨#[97, 98, 99, 100, 101, 102, 103, 104, 105, 106, 107, 108, 109, 110, 111, 112, 113, 114, 115, 116, 117, 118, 119, 120, 121, 122]⟩ : Str) = lettersS from rfl]
  rw [ix_let (by omega)]
  walk_at "ev"
  rw [mkTup_is (by show 4 ≤ 100000; decide)]
  walk_at "ev"
  have e : ([.int 2, .int 1, .int 4, .int 3] : List HV) = ([2, 1, 4, 3] : List Int).map HV.int := rfl
  rw [e, atI_nn (by omega), List.getElem?_map]
  have hs := fun (l : List Nat) (i : Int) (h1 : 0 ≤ i ∧ i < 10) (h2 : l.length ≤ 10) => word_step (k := k) (h := []) (m := n / 26) hn h1 h2 (u := none)
  have fin : ∀ l, l = wordL n → (HV.str ⟨l.toArray⟩ : HV) = .str (wordF n) := fun l e => by rw [e]; rfl
  rcases moreN_is n with ⟨q, q2⟩ | ⟨q, q2⟩ | ⟨q, q2⟩ | ⟨q, q2⟩ <;> rw [q]
  · rw [show ([2, 1, 4, 3] : List Int)[(0 : Int).toNat]? = some 2 from rfl]
    walk_at "ev"
    rw [ir2_is (by omega), show ((2 : Int) - 1).toNat = 1 from rfl]
    walk_at "ev"
    rw [show (List.range 1).map (fun (n : Nat) => HV.int (1 + n)) = [.int 1] from rfl]
    rw [show (⟨#[LTR (n % 26)]⟩ : Str) = ⟨[LTR (n % 26)].toArray⟩ from rfl]
    rw [for_cons rfl (hs _ 1 (by omega) (by simp)), for_nil]
    walk_at "ev"
    rw [fin]
    unfold wordL
    rw [q2]
    rfl
  · rw [show ([2, 1, 4, 3] : List Int)[(1 : Int).toNat]? = some 1 from rfl]
    walk_at "ev"
    rw [ir2_is (by omega), show ((1 : Int) - 1).toNat = 0 from rfl]
    walk_at "ev"
    rw [show (List.range 0).map (fun (n : Nat) => HV.int (1 + n)) = [] from rfl, for_nil]
    walk_at "ev"
    rw [show (⟨#[LTR (n % 26)]⟩ : Str) = ⟨[LTR (n % 26)].toArray⟩ from rfl]
    rw [fin]
    unfold wordL
    rw [q2]
    rfl
  · rw [show ([2, 1, 4, 3] : List Int)[(2 : Int).toNat]? = some 4 from rfl]
    walk_at "ev"
    rw [ir2_is (by omega), show ((4 : Int) - 1).toNat = 3 from rfl]
    walk_at "ev"
    rw [show (List.range 3).map (fun (n : Nat) => HV.int (1 + n)) = [.int 1, .int 2, .int 3] from rfl]
    rw [show (⟨#[LTR (n % 26)]⟩ : Str) = ⟨[LTR (n % 26)].toArray⟩ from rfl]
    rw [for_cons rfl (hs _ 1 (by omega) (by simp)), for_cons rfl (hs _ 2 (by omega) (by simp)), for_cons rfl (hs _ 3 (by omega) (by simp)), for_nil]
    walk_at "ev"
    rw [fin]
    unfold wordL
    rw [q2]
    rfl
  · rw [show ([2, 1, 4, 3] : List Int)[(3 : Int).toNat]? = some 3 from rfl]
    walk_at "ev"
    rw [ir2_is (by omega), show ((3 : Int) - 1).toNat = 2 from rfl]
    walk_at "ev"
    rw [show (List.range 2).map (fun (n : Nat) => HV.int (1 + n)) = [.int 1, .int 2] from rfl]
    rw [show (⟨#[LTR (n % 26)]⟩ : Str) = ⟨[LTR (n % 26)].toArray⟩ from rfl]
    rw [for_cons rfl (hs _ 1 (by omega) (by simp)), for_cons rfl (hs _ 2 (by omega) (by simp)), for_nil]
    walk_at "ev"
    rw [fin]
    unfold wordL
    rw [q2]
    rfl
theorem words_loop {k : Nat} {h : HH} {t : Int} {many : Nat} {a b : Option HV} (ht : 0 ≤ t ∧ t < 208) (hm : many ≤ 26) (hk : 1 ≤ k) : ∀ (d j N : Nat) (u : Option HV), j + d = many → d < N →
    ∃ u', whH N (hden T (hcall T k) c0__law_words).ts (hden T (hcall T k) b0__law_words).st [a, b, some (.int many), some (.int t), some (encS (wordsF t j)), some (.int j), u] h =
      .ok .nx [a, b, some (.int many), some (.int t), some (encS (wordsF t many)), some (.int many), u'] h
  | 0, j, N, u, hj, hN => by
    obtain ⟨N, rfl⟩ : ∃ i, N = i + 1 := ⟨N - 1, by omega⟩
    have hj : j = many := by omega
    subst hj
    refine ⟨u, wh_ff ?_⟩
    unfold c0__law_words
    walk_at "ev"
    rw [wordsF_len, decide_eq_false (by omega)]
  | d + 1, j, N, u, hj, hN => by
    obtain ⟨N, rfl⟩ : ∃ i, N = i + 1 := ⟨N - 1, by omega⟩
    have h1 : (hden T (hcall T k) c0__law_words).ts [a, b, some (.int many), some (.int t), some (encS (wordsF t j)), some (.int j), u] h = .ok true h := by
      unfold c0__law_words
      walk_at "ev"
      rw [wordsF_len, decide_eq_true (by omega)]
    have h2 : (hden T (hcall T k) b0__law_words).st [a, b, some (.int many), some (.int t), some (encS (wordsF t j)), some (.int j), u] h =
        .ok .nx [a, b, some (.int many), some (.int t), some (encS (wordsF t (j + 1))), some (.int ((j + 1 : Nat) : Int)), some (.str (wordF (t + 11 * j)))] h := by
      unfold b0__law_words
      walk_at "ev"
      rw [pc_t (word (by omega)) (by omega) rfl]
      walk_at "ev"
      rw [in_strs]
      walk_at "ev"
      rw [decide_eq_false (wordsF_new (by omega))]
      walk_at "ev"
      rw [mkLs_f (by simp [LIM])]
      walk_at "ev"
      rw [bin_addl (by rw [List.length_map, wordsF_len]; show _ + 1 ≤ 100000; omega)]
      walk_at "ev"
      rw [wordsF_succ]
      unfold encS
      rw [List.map_append]
      rfl
    rw [wh_nx h1 h2]
    exact words_loop ht hm hk d (j + 1) N _ (by omega) (by omega)
theorem words {ns : List Int} {i : Int} {many : Nat} (hi : 0 ≤ i ∧ i < 100000) (hm : many ≤ 26) : PV T 4 F__law_words [.sc ns, .int i, .int many] (encS (wordsF (numF (cellF ns i) (i + 1) 208) many)) := .mk2 fun k hk => by
  refine ⟨_, [], ?_, vw_rf (rf_encS _)⟩
  rw [hc__law_words]
  unfold b__law_words
  walk_at "ev"
  rw [pc_t (cell_at hi.1) (by omega) rfl]
  walk_at "ev"
  rw [pc_t (number (by omega) (by omega)) (by omega) rfl]
  walk_at "ev"
  rw [mkLs_f (by simp [LIM])]
  walk_at "ev"
  obtain ⟨u', e⟩ := words_loop (k := k) (h := []) (a := some (.sc ns)) (b := some (.int i)) (numF_lt (c := cellF ns i) (k := i + 1) (l := 208) (by decide)) hm (by omega) many 0 WHN none (by omega) (by unfold WHN; omega)
  rw [show (HV.fl [] : HV) = encS (wordsF (numF (cellF ns i) (i + 1) 208) 0) from rfl, show (0 : Int) = ((0 : Nat) : Int) from rfl, e]
  walk_at "ev"
theorem senses {c a : Int} {w : List Str} (ha : 0 ≤ a ∧ a < 1000) (hw : 0 < w.length ∧ w.length < 1000) : PV T 3 F__law_senses [.int c, .int a, encS w] (.fl ((sensesF c a w).map encS)) := .mk2 fun k hk => by
  have h2 := numF_lt (c := c) (k := a + 1) (l := 2) (by decide)
  obtain ⟨e', ⟨u1, u2, u3, rfl⟩, r⟩ := forI_app (fun (i : Nat) => HV.int i) (fun t => encS (senseF c a w t)) (tg := (hden T (hcall T k) (A.tn 4)).tg) (b := (hden T (hcall T k) b0__law_senses).st)
    (fun e => ∃ u1 u2 u3, e = [some (.int c), some (.int a), some (encS w), some (.ref 0), u1, u2, u3]) [] (List.range (1 + numF c (a + 1) 2).toNat) [] [some (.int c), some (.int a), some (encS w), some (.ref 0), none, none, none] ⟨_, _, _, rfl⟩
    (by
      rintro x hx acc e ⟨u1, u2, u3, rfl⟩
      have hx := List.mem_range.mp hx
      have gl : (([] : HH) ++ [HO.lst acc])[0]? = some (.lst acc) := rfl
      refine ⟨_, [some (.int c), some (.int a), some (encS w), some (.ref 0), some (.int x), some (.int (cnts.getD (numF c (a + 3 * x + 2) 5).toNat 0)), u3], rfl, fun hl => ?_, _, _, _, rfl⟩
      have h5 := numF_lt (c := c) (k := a + 3 * x + 2) (l := 5) (by decide)
      unfold b0__law_senses
      walk_at "ev"
      rw [mkTup_is (by show 5 ≤ 100000; decide)]
      walk_at "ev"
      rw [pc_t (number (by omega) (by omega)) (by omega) rfl]
      walk_at "ev"
      generalize hn : numF c (a + 3 * x + 2) 5 = n at h5 ⊢
      have hc := cnts_le n.toNat
      rw [cnt_at h5]
      walk_at "ev"
      rw [rcv_ref gl]
      walk_at "ev"
      rw [if_pos (show okKind .append .lst = true from rfl), ir1_is (by omega)]
      walk_at "ev"
      rw [Int.toNat_natCast, lcI_all (fun (i : Nat) => HV.int i) (fun p => HV.str (w.getD (numF (c + x) (a + p + 3) w.length).toNat Str.empty)) _ (fun p hp => by
        have hp := List.mem_range.mp hp
        have h6 := numF_lt (c := c + x) (k := a + p + 3) (l := w.length) (by omega)
        refine ⟨_, rfl, rfl, ?_⟩
        walk_at "ev"
        rw [pc_t (number (by omega) (by omega)) (by omega) rfl]
        walk_at "ev"
        rw [word_at h6]
        walk_at "ev")]
      walk_at "ev"
      rw [unl_its (by rw [List.length_map, List.length_range]; unfold LIM; omega)]
      walk_at "ev"
      rw [app_ref gl hl]
      walk_at "ev"
      congr 3
      show [HO.lst (acc ++ [_])] = [HO.lst (acc ++ [encS (senseF c a w x)])]
      unfold encS senseF
      rw [hn, List.map_map]
      rfl) (by rw [List.length_range]; unfold LIM; simp only [List.length_nil]; omega)
  refine ⟨.ref 0, _, ?_, vw_ref (xs := (sensesF c a w).map encS) (h := [.lst ((sensesF c a w).map encS)]) rfl (rf_encm _)⟩
  rw [hc__law_senses]
  unfold b__law_senses
  walk_at "ev"
  rw [mkLs_m (by simp [LIM])]
  walk_at "ev"
  rw [pc_t (number (by omega) (by omega)) (by omega) rfl]
  walk_at "ev"
  rw [ir1_is (by omega)]
  walk_at "ev"
  rw [r]
  walk_at "ev"
  unfold sensesF
  rw [List.map_map]
  rfl
theorem book {ns : List Int} {i most : Int} (hi : 0 ≤ i ∧ i < 1000) (hm : 0 ≤ most ∧ most ≤ 24) : PV T 5 F__law_book [.sc ns, .int i, .int most] (encB (bookF ns i most)) := .mk2 fun k hk => by
  have h1 := numF_lt (c := cellF ns i) (k := i + 2) (l := most + 1) (by omega)
  have h3 := numF_lt (c := cellF ns i) (k := i + 3) (l := 3) (by omega)
  have hmany := manyF_le (ns := ns) (i := i) hm.1
  have em : numF (cellF ns i) (i + 2) (most + 1) = (manyF ns i most : Int) := by unfold manyF; omega
  have hwl := wordsF_len (numF (cellF ns i) (i + 1) 208) (manyF ns i most + 2)
  have hws := wordsF_W (numF (cellF ns i) (i + 1) 208) (manyF ns i most + 2)
  obtain ⟨e', ⟨u1, u2, rfl⟩, r⟩ := forI_app (fun (j : Nat) => HV.int j) (fun j => encE (entF ns i (manyF ns i most) j)) (tg := (hden T (hcall T k) (A.tn 8)).tg) (b := (hden T (hcall T k) b0__law_book).st)
    (fun e => ∃ u1 u2, e = [some (.sc ns), some (.int i), some (.int most), some (.int (cellF ns i)), some (.int (manyF ns i most)), some (encS (wordsF (numF (cellF ns i) (i + 1) 208) (manyF ns i most + 2))), some (.int (numF (cellF ns i) (i + 3) 3)), some (.ref 0), u1, u2])
    [] (List.range (manyF ns i most)) [] [some (.sc ns), some (.int i), some (.int most), some (.int (cellF ns i)), some (.int (manyF ns i most)), some (encS (wordsF (numF (cellF ns i) (i + 1) 208) (manyF ns i most + 2))), some (.int (numF (cellF ns i) (i + 3) 3)), some (.ref 0), none, none] ⟨_, _, rfl⟩
    (by
      rintro j hj acc e ⟨u1, u2, rfl⟩
      have hj := List.mem_range.mp hj
      have gl : (([] : HH) ++ [HO.lst acc])[0]? = some (.lst acc) := rfl
      refine ⟨_, [some (.sc ns), some (.int i), some (.int most), some (.int (cellF ns i)), some (.int (manyF ns i most)), some (encS (wordsF (numF (cellF ns i) (i + 1) 208) (manyF ns i most + 2))), some (.int (numF (cellF ns i) (i + 3) 3)), some (.ref 0), some (.int j), some (.int (cellF ns (i + (j : Int) % 7) + 19 * (j : Int)))], rfl, fun hl => ?_, _, _, rfl⟩
      unfold b0__law_book entF
      dsimp only
      generalize wordsF (numF (cellF ns i) (i + 1) 208) (manyF ns i most + 2) = w at hwl hws ⊢
      generalize numF (cellF ns i) (i + 3) 3 = kd at h3 ⊢
      generalize manyF ns i most = many at hwl hj hmany ⊢
      walk_at "ev"
      rw [pc_t (cell_at (by omega)) (by omega) rfl]
      walk_at "ev"
      generalize cellF ns (i + (j : Int) % 7) + 19 * (j : Int) = more
      have h4 := numF_lt (c := more) (k := j) (l := 4) (by omega)
      rw [pc_t (number (by omega) (by omega)) (by omega) rfl]
      walk_at "ev"
      rw [mkTup_is (by show 3 ≤ 100000; decide)]
      walk_at "ev"
      rw [kind_at h3]
      walk_at "ev"
      have wj : L2.atI (w.map HV.str) (j : Int) = some (.str (w.getD j Str.empty)) := word_at (n := (j : Int)) (by omega)
      by_cases q : numF more j 4 < ([3, 1, 2] : List Int).getD kd.toNat 0
      · simp only [q, decide_true]
        walk_at "ev"
        rw [rcv_ref gl]
        walk_at "ev"
        rw [if_pos (show okKind .append .lst = true from rfl), wj]
        walk_at "ev"
        have h5 := numF_lt (c := more) (k := j + 1) (l := many + 2) (by omega)
        rw [pc_t (number (by omega) (by omega)) (by omega) rfl]
        walk_at "ev"
        rw [word_at (by omega)]
        walk_at "ev"
        rw [mkTup_is (by show 3 ≤ 100000; decide)]
        walk_at "ev"
        rw [app_ref gl hl]
        walk_at "ev"
        rfl
      · simp only [q, decide_false]
        walk_at "ev"
        rw [rcv_ref gl]
        walk_at "ev"
        rw [if_pos (show okKind .append .lst = true from rfl), wj]
        walk_at "ev"
        rw [pc_t (senses (by omega) (by omega)) (by omega) (rf3 rfl rfl (rf_encS w))]
        walk_at "ev"
        rw [mkTup_is (by show 3 ≤ 100000; decide)]
        walk_at "ev"
        rw [app_ref gl hl]
        walk_at "ev"
        rfl) (by rw [List.length_range]; unfold LIM; simp only [List.length_nil]; omega)
  refine ⟨encB (bookF ns i most), [.lst ((entsF ns i (manyF ns i most)).map encE)], ?_, vw_rf (rf_encB _)⟩
  rw [hc__law_book]
  unfold b__law_book
  walk_at "ev"
  rw [pc_t (cell_at (by omega)) (by omega) rfl]
  walk_at "ev"
  rw [pc_t (number (by omega) (by omega)) (by omega) rfl, em]
  walk_at "ev"
  have hw2 := words (ns := ns) (i := i) (many := manyF ns i most + 2) (by omega) (by omega)
  rw [show (((manyF ns i most + 2 : Nat) : Int)) = (manyF ns i most : Int) + 2 by omega] at hw2
  rw [pc_t hw2 (by omega) rfl]
  walk_at "ev"
  rw [pc_t (number (by omega) (by omega)) (by omega) rfl]
  walk_at "ev"
  rw [mkLs_m (by simp [LIM])]
  walk_at "ev"
  rw [ir1_is (by omega)]
  walk_at "ev"
  rw [Int.toNat_natCast, r]
  walk_at "ev"
  rw [show (([] : HH) ++ [HO.lst (([] : List HV) ++ (List.range (manyF ns i most)).map fun j => encE (entF ns i (manyF ns i most) j))]) = [.lst ((entsF ns i (manyF ns i most)).map encE)] from by unfold entsF; rw [List.map_map]; rfl]
  rw [sorted_ref rfl, sorted_ents (by rw [ents_ws]; exact wordsF_nodup _ _ (by omega))]
  walk_at "ev"
  rfl
theorem entry {b : Book} {w : Str} (hb : okB b = true) (hw : isW w = true) : PV T 1 F__law_entry [encB b, .str w] (encO (lookE b w)) := .mk (g := fun _ => []) (rf_encO _) fun k hk => by
  obtain ⟨h1, h2, h3, h4⟩ := okB_all hb
  rw [hc__law_entry]
  unfold b__law_entry encB
  walk_at "ev"
  rw [lcI_map encE (fun x => decide (x.w = w)) encE b (fun x hx => ⟨_, rfl, by
    walk_at "ev"
    rw [eq_wws (okE_w (h2 x hx)) hw]
    walk_at "ev", fun _ => by walk_at "ev"⟩)]
  walk_at "ev"
  rw [unl_its (by rw [List.length_map]; have := List.length_filter_le (fun x : Ent => decide (x.w = w)) b; unfold LIM; omega)]
  walk_at "ev"
  rw [mkLs_f (by simp [LIM])]
  walk_at "ev"
  rw [show eqH [] (.fl ((b.filter fun x => decide (x.w = w)).map encE)) (.fl []) = some (decide ((b.filter fun x => decide (x.w = w)) = [])) from
    eq_books (m := []) (fun x hx => h2 x (List.mem_filter.mp hx).1) fun _ h => by cases h]
  walk_at "ev"
  have hf : (b.filter fun x => decide (x.w = w)).head? = lookE b w := by
    rw [List.head?_filter]
    unfold lookE
    congr 1
    funext x
    rw [strEq_eq]
  cases q : b.filter fun x => decide (x.w = w) with
  | nil =>
    rw [q] at hf
    rw [← hf]
    walk_at "ev"
    rfl
  | cons x r =>
    rw [q] at hf
    rw [← hf, decide_eq_false (List.cons_ne_nil x r)]
    walk_at "ev"
    rw [List.map_cons, atI_0]
    walk_at "ev"
    rfl
theorem copied {b : Book} (hb : okB b = true) : PV T 1 F__law_copied [encB b] (encB b) := .mk (g := fun _ => []) (rf_encB _) fun k hk => by
  obtain ⟨h1, h2, h3, h4⟩ := okB_all hb
  rw [hc__law_copied]
  unfold b__law_copied encB
  walk_at "ev"
  rw [lcI_all encE encE b (fun x hx => ⟨[some (.fl (b.map encE)), none, some (.str x.w), some (.str x.k), some x.v], by rw [encE_is]; rfl, by walk_at "ev", by
    have hx := h2 x hx
    walk_at "ev"
    cases x with
    | to w o =>
      walk_at "ev"
      rw [mkTup_is (by simp [LIM])]
      walk_at "ev"
      rfl
    | is w ss =>
      simp only [okE, Bool.and_eq_true, decide_eq_true_eq] at hx
      walk_at "ev"
      rw [show (Ent.is w ss).v = .fl (ss.map encS) from rfl]
      walk_at "ev"
      rw [lcI_all encS encS ss (fun s _ => ⟨_, rfl, rfl, by
        walk_at "ev"
        rw [list_fl]
        walk_at "ev"⟩)]
      walk_at "ev"
      rw [unl_its (by rw [List.length_map]; unfold LIM; omega)]
      walk_at "ev"
      rw [mkTup_is (by simp [LIM])]
      walk_at "ev"
      rfl⟩)]
  walk_at "ev"
  rw [unl_its (by rw [List.length_map]; unfold LIM; omega)]
  walk_at "ev"
theorem whole {i : Int} : PV T 1 F__law_whole [.int i] (.bl true) := .mk (g := fun _ => []) rfl fun k hk => by
  rw [hc__law_whole]
  unfold b__law_whole
  walk_at "ev"
theorem says {a b : Bool} : PV T 1 F__law_says [.bl a, .bl b] (.bl (a == b)) := .mk (g := fun _ => []) rfl fun k hk => by
  rw [hc__law_says]
  unfold b__law_says
  walk_at "ev"
  rw [eq_bools]
  walk_at "ev"
theorem named {b : Book} (hb : okB b = true) : PV T 1 F__law_named [encB b] (encS (namedF b)) := .mk2 fun k hk => by
  obtain ⟨h1, h2, h3, h4⟩ := okB_all hb
  have hlen := names_len h2
  refine ⟨_, [], ?_, vw_rf (rf_encS _)⟩
  rw [hc__law_named]
  unfold b__law_named
  walk_at "ev"
  rw [mkLs_f (by simp [LIM])]
  walk_at "ev"
  unfold encB
  walk_at "ev"
  obtain ⟨e', h', r, u2, u3, u4, u5, rfl, rfl⟩ := forI_inv (tg := (hden T (hcall T k) (A.tt 3 ((A.tn 2).cons ((A.tn 3).cons ((A.tn 4).cons A.nil))))).tg) (b := (hden T (hcall T k) b0__law_named).st)
    (fun i e h => ∃ u2 u3 u4 u5, e = [some (.fl (b.map encE)), some (encS ((b.take i).flatMap namesE)), u2, u3, u4, u5] ∧ h = []) (b.map encE) 0 [some (.fl (b.map encE)), some (.fl []), none, none, none, none] [] ⟨_, _, _, _, rfl, rfl⟩
    (by
      rintro j x e h hj ⟨u2, u3, u4, u5, rfl, rfl⟩
      rw [List.getElem?_map] at hj
      obtain ⟨y, hy, rfl⟩ := Option.map_eq_some_iff.mp hj
      have hyb := List.mem_of_getElem? hy
      have hye := h2 y hyb
      have hn7 := (namesE_W hye).2
      rw [Nat.zero_add]
      have ht : b.take (j + 1) = b.take j ++ [y] := by rw [List.take_add_one, hy]; rfl
      have hlj : ((b.take j).flatMap namesE).length ≤ 280 := by
        have := names_len (b := b.take j) fun z hz => h2 z (List.mem_of_mem_take hz)
        have : (b.take j).length ≤ b.length := by rw [List.length_take]; omega
        omega
      refine ⟨[some (.fl (b.map encE)), some (encS ((b.take j).flatMap namesE)), some (.str y.w), some (.str y.k), some y.v, u5], [], [some (.fl (b.map encE)), some (encS ((b.take (j + 1)).flatMap namesE)), some (.str y.w), some (.str y.k), some y.v, u5], [], by rw [encE_is]; rfl, ?_, _, _, _, _, rfl, rfl⟩
      rw [ht, List.flatMap_append, List.flatMap_cons, List.flatMap_nil, List.append_nil]
      generalize (b.take j).flatMap namesE = acc at hlj ⊢
      unfold b0__law_named
      walk_at "ev"
      rw [mkLs_f (by simp [LIM])]
      walk_at "ev"
      rw [bin_addl (by rw [List.length_map]; show _ + 1 ≤ 100000; omega)]
      walk_at "ev"
      cases y with
      | to w o =>
        walk_at "ev"
        rw [mkLs_f (by simp [LIM])]
        walk_at "ev"
        rw [bin_addl (by rw [List.length_append, List.length_map]; show _ + 1 + 1 ≤ 100000; omega)]
        walk_at "ev"
        unfold encS namesE
        rw [List.map_append, List.append_assoc]
        rfl
      | is w ss =>
        simp only [okE, Bool.and_eq_true, decide_eq_true_eq, List.all_eq_true] at hye
        obtain ⟨⟨⟨g1, g2⟩, g3⟩, g4⟩ := hye
        walk_at "ev"
        rw [show (Ent.is w ss).v = .fl (ss.map encS) from rfl]
        walk_at "ev"
        obtain ⟨s0, sr, rfl⟩ : ∃ s0 sr, ss = s0 :: sr := by cases ss with
          | nil => simp at g2
          | cons a l => exact ⟨a, l, rfl⟩
        have hlast : ((s0 :: sr).map encS).getLast? = some (encS ((s0 :: sr).getLastD [])) := by
          rw [List.getLast?_map, List.getLastD_eq_getLast?]
          cases e : (s0 :: sr).getLast? with
          | none => simp at e
          | some z => rfl
        rw [List.map_cons, atI_0]
        walk_at "ev"
        rw [← List.map_cons, atI_last, hlast]
        walk_at "ev"
        simp only [namesE, List.length_cons, List.length_append, List.headD_cons] at hn7
        rw [bin_addl (by rw [List.length_map, List.length_map]; unfold LIM; omega)]
        walk_at "ev"
        rw [← List.map_append, lcI_all HV.str HV.str _ (fun x _ => ⟨_, rfl, rfl, rfl⟩)]
        walk_at "ev"
        rw [unl_its (by rw [List.length_map, List.length_append]; unfold LIM; omega)]
        walk_at "ev"
        rw [bin_addl (by rw [List.length_append, List.length_map, List.length_map, List.length_append]; unfold LIM; simp only [List.length_cons, List.length_nil]; omega)]
        walk_at "ev"
        rw [show namesE (.is w (s0 :: sr)) = w :: (s0 ++ (s0 :: sr).getLastD []) from rfl]
        unfold encS
        simp only [List.map_append, List.map_cons, List.append_assoc, List.cons_append, List.nil_append]
        rfl)
  rw [r]
  walk_at "ev"
  rw [Nat.zero_add, List.take_length, sset_words (by omega)]
  walk_at "ev"
  rfl
theorem way_loop {b : Book} (hb : okB b = true) {k : Nat} (hk : 1 ≤ k) (w0 : HV) : ∀ (m N : Nat) (pre : List Str) (here : Str), m ≤ N → isW here = true → (∀ x ∈ pre, isW x = true) → pre.length + m ≤ 1000 → wayF m b pre here ≠ .out →
    ∃ y here', wayF m b pre here = y ∧ (match y with | .head _ => ∃ x ss, lookE b here' = some (.is x ss) | .lost _ => lookE b here' = none | .ring wy i => ∃ x o, lookE b here' = some (.to x o) ∧ o ∈ wy ∧ i = idxS o wy | .out => False) ∧
      whH N (hden T (hcall T k) c0__law_way).ts (hden T (hcall T k) b0__law_way).st [some (encB b), some w0, some (.ref 0), some (encO (lookE b here))] [.lst (pre.map .str)] =
        .ok .nx [some (encB b), some w0, some (.ref 0), some (encO (lookE b here'))] [.lst ((wayL y).map .str)]
  | 0, _, _, _, _, _, _, _, ho => absurd rfl ho
  | m + 1, N, pre, here, hN, hw, hp, hl, ho => by
    obtain ⟨N, rfl⟩ : ∃ j, N = j + 1 := ⟨N - 1, by omega⟩
    have gl : ([HO.lst (pre.map HV.str)] : HH)[0]? = some (.lst (pre.map .str)) := rfl
    have ht : ∀ e, lookE b here = e → (hden T (hcall T k) c0__law_way).ts [some (encB b), some w0, some (.ref 0), some (encO (lookE b here))] [.lst (pre.map .str)] =
        .ok (match e with | some (.to _ o) => !decide (o ∈ pre) | _ => false) [.lst (pre.map .str)] := fun e q => by
      unfold c0__law_way
      walk_at "ev"
      rw [q]
      cases e with
      | none =>
        rw [show isH (encO none) .non = some true from rfl]
        walk_at "ev"
      | some y =>
        rw [show encO (some y) = encE y from rfl, is_encE]
        walk_at "ev"
        cases y with
        | is x ss => walk_at "ev"
        | to x o =>
          walk_at "ev"
          rw [show (Ent.to x o).v = .str o from rfl, in_ref gl]
          walk_at "ev"
    unfold wayF at ho ⊢
    cases q : lookE b here with
    | none =>
      refine ⟨.lost pre, here, rfl, q, ?_⟩
      have := ht _ q
      rw [q] at this
      rw [wh_ff this, q]
      rfl
    | some y =>
      cases y with
      | is x ss =>
        refine ⟨.head pre, here, rfl, ⟨x, ss, q⟩, ?_⟩
        have := ht _ q
        rw [q] at this
        rw [wh_ff this, q]
        rfl
      | to x o =>
        have hoo := (okB_all hb).2.1 _ (lookE_mem q).1
        simp only [okE, Bool.and_eq_true] at hoo
        have ht' := ht _ q
        rw [q] at ho ht'
        dsimp only at ho ht' ⊢
        by_cases z : o ∈ pre
        · rw [if_pos z]
          rw [decide_eq_true z] at ht'
          refine ⟨.ring pre (idxS o pre), here, rfl, ⟨x, o, q, z, rfl⟩, ?_⟩
          rw [wh_ff ht', q]
          rfl
        · rw [if_neg z] at ho ⊢
          rw [decide_eq_false z] at ht'
          have hb2 : (hden T (hcall T k) b0__law_way).st [some (encB b), some w0, some (.ref 0), some (encO (some (.to x o)))] [.lst (pre.map .str)] =
              .ok .nx [some (encB b), some w0, some (.ref 0), some (encO (lookE b o))] [.lst ((pre ++ [o]).map .str)] := by
            unfold b0__law_way
            walk_at "ev"
            rw [rcv_ref gl, show encO (some (.to x o)) = encE (.to x o) from rfl]
            walk_at "ev"
            rw [if_pos (show okKind .append .lst = true from rfl), show (Ent.to x o).v = .str o from rfl, app_ref gl (by rw [List.length_map]; unfold LIM; omega)]
            walk_at "ev"
            rw [show (Ent.to x o).v = .str o from rfl, pc_t (entry hb hoo.2) (by omega) (rf2 (rf_encB b) rfl)]
            walk_at "ev"
            rw [List.map_append]
            rfl
          rw [wh_nx ht' hb2]
          exact way_loop hb hk w0 m N (pre ++ [o]) o (by omega) hoo.2 (fun y hy => by
            rcases List.mem_append.mp hy with r | r
            · exact hp y r
            · rw [List.mem_singleton] at r; rw [r]; exact hoo.2) (by rw [List.length_append]; simp; omega) ho
theorem way_is {b : Book} {w : Str} (hb : okB b = true) (hw : isW w = true) : PV T 3 F__law_way [encB b, .str w] (.ft [encS (wayL (way b w)), .int (endI (way b w))]) := .mk2 fun k hk => by
  have hl := (okB_all hb).1
  obtain ⟨y, here', e1, e2, r⟩ := way_loop hb (k := k) (by omega) (.str w) (b.length + 1) WHN [w] w (by unfold WHN; omega) hw (fun x hx => by rw [List.mem_singleton] at hx; rw [hx]; exact hw) (by simp; omega) (way_out b w)
  have e1 : way b w = y := e1
  rw [e1]
  refine ⟨.ft [.ref 0, .int (endI y)], [.lst ((wayL y).map .str)], ?_, ?_⟩
  · rw [hc__law_way]
    unfold b__law_way
    walk_at "ev"
    rw [mkLs_m (by simp [LIM])]
    walk_at "ev"
    rw [pc_t (entry hb hw) (by omega) (rf2 (rf_encB b) rfl)]
    walk_at "ev"
    rw [show (([] : HH) ++ [HO.lst [HV.str w]]) = [.lst ([w].map HV.str)] from rfl, r]
    walk_at "ev"
    cases y with
    | head wy =>
      obtain ⟨x, ss, q⟩ := e2
      rw [q, show encO (some (.is x ss)) = encE (.is x ss) from rfl, is_encE]
      walk_at "ev"
      rw [mkTup_is (by simp [LIM])]
      walk_at "ev"
      rfl
    | lost wy =>
      have q : lookE b here' = none := e2
      rw [q, show isH (encO none) .non = some true from rfl]
      walk_at "ev"
      rw [mkTup_is (by simp [LIM])]
      walk_at "ev"
      rfl
    | ring wy i =>
      obtain ⟨x, o, q, z, rfl⟩ := e2
      have gl : ([HO.lst (wy.map HV.str)] : HH)[0]? = some (.lst (wy.map .str)) := rfl
      rw [q, show encO (some (.to x o)) = encE (.to x o) from rfl, is_encE, show wayL (.ring wy (idxS o wy)) = wy from rfl]
      walk_at "ev"
      rw [rcv_ref gl]
      walk_at "ev"
      rw [if_pos (show okKind .index .lst = true from rfl), show (Ent.to x o).v = .str o from rfl, idx_ref gl z]
      walk_at "ev"
      rw [mkTup_is (by simp [LIM])]
      walk_at "ev"
      rfl
    | out => exact e2.elim
  · show vw (11 + 1) _ _ = _
    unfold vw
    rw [show rf (.ft [.ref 0, .int (endI y)]) = false from rfl, cond_false]
    dsimp only
    simp only [mapO]
    rw [show vw 11 [HO.lst ((wayL y).map HV.str)] (.ref 0) = some (.fl ((wayL y).map .str)) from vw_ref rfl (rf_strm _), vw_rf rfl]
    rfl
/-- an answer as a tree -/
def encA : Way → HV
  | .head wy => .fi C_Head [(sWay, encS wy)]
  | .lost wy => .fi C_Lost [(sWay, encS wy)]
  | .ring wy i => .fi C_Ring [(sWay, encS wy), (sPlace, .int i)]
  | .out => .non
theorem rf_encA (y : Way) : rf (encA y) = true := by
  cases y with
  | out => rfl
  | _ => simp only [encA, rf, rf.rfk, Bool.and_true]; exact rf_strs _
theorem way_W {b : Book} {w : Str} (hb : okB b = true) (hw : isW w = true) : ∀ x ∈ wayL (way b w), isW x = true := by
  have h := wayF_ok (b := b) (b.length + 1) [w] w (by simp)
  have key : ∀ r, chain b (w :: r) = true → ∀ x ∈ w :: r, isW x = true := fun r => by
    have : ∀ (r : List Str) (u : Str), isW u = true → chain b (u :: r) = true → ∀ x ∈ u :: r, isW x = true := fun r => by
      induction r with
      | nil => intro u hu _ x hx; rw [List.mem_singleton] at hx; rw [hx]; exact hu
      | cons o r ih =>
        intro u hu hc x hx
        simp only [chain, Bool.and_eq_true] at hc
        obtain ⟨z, e⟩ := isTo_is hc.1
        have ho := (okB_all hb).2.1 _ (lookE_mem e).1
        simp only [okE, Bool.and_eq_true] at ho
        rcases List.mem_cons.mp hx with q | q
        · rw [q]; exact hu
        · exact ih o ho.2 hc.2 x q
    exact this r w hw
  unfold way
  revert h
  cases wayF (b.length + 1) b [w] w with
  | head wy => rintro ⟨r, rfl, h2, _⟩; exact key r h2
  | lost wy => rintro ⟨r, rfl, h2, _⟩; exact key r h2
  | ring wy i => rintro ⟨r, rfl, h2, _⟩; exact key r h2
  | out => intro _ x hx; cases hx
theorem way_len {b : Book} {w : Str} (hb : okB b = true) : (wayL (way b w)).length ≤ 41 := by
  have h := wayF_ok (b := b) (b.length + 1) [w] w (by simp)
  have hl := (okB_all hb).1
  have key : ∀ r, chain b (w :: r) = true → ([w] ++ r).Nodup → ([w] ++ r).length ≤ 41 := fun r h2 h3 => by
    have := nodup_sub (l := (w :: r).dropLast) (m := ws b) (List.Sublist.nodup (List.dropLast_sublist _) h3) (chain_in h2)
    unfold ws at this
    rw [List.length_map, List.length_dropLast, List.length_cons] at this
    simp; omega
  unfold way
  revert h
  cases wayF (b.length + 1) b [w] w with
  | head wy => rintro ⟨r, rfl, h2, h3, _⟩; exact key r h2 h3
  | lost wy => rintro ⟨r, rfl, h2, h3, _⟩; exact key r h2 h3
  | ring wy i => rintro ⟨r, rfl, h2, h3, _⟩; exact key r h2 h3
  | out => intro _; simp [wayL]
/-- whether two answers are the same -/
def eqWay : Way → Way → Bool
  | .head a, .head b => decide (a = b)
  | .lost a, .lost b => decide (a = b)
  | .ring a i, .ring b j => decide (a = b) && decide (i = j)
  | _, _ => false
theorem eqWay_iff {y z : Way} (h : y ≠ .out) : eqWay y z = true ↔ y = z := by
  cases y <;> cases z <;> simp [eqWay]
  exact h rfl
/-- an answer's own words, of any book and word -/
theorem shows_due {b : Book} {w : Str} {y : Way} (hb : okB b = true) (hw : isW w = true) (hl : ∀ x ∈ wayL y, isW x = true) (hn : (wayL y).length ≤ 1000) (ho : y ≠ .out) :
    ∃ f, pickH [] ⟨#[115, 104, 111, 119, 115]⟩ (encA y) [(C_Head, F_Head_shows), (C_Lost, F_Lost_shows), (C_Ring, F_Ring_shows)] = some f ∧ PV T 3 f [encA y, encB b, .str w] (.bl (eqWay (way b w) y)) := by
  have e : ∀ {p : Bool}, (p = true ↔ way b w = y) → p = eqWay (way b w) y := fun {p} h => by
    rw [Bool.eq_iff_iff, h, eqWay_iff (way_out b w)]
  cases y with
  | head wy =>
    refine ⟨_, rfl, ?_⟩
    rw [← e head_iff]
    exact head_shows hb hw hl hn
  | lost wy =>
    refine ⟨_, rfl, ?_⟩
    rw [← e lost_iff]
    exact lost_shows hb hw hl hn
  | ring wy i =>
    refine ⟨_, rfl, ?_⟩
    rw [← e ring_iff]
    have := ring_shows (p := i) hb hw hl hn
    have e2 : ringI b w wy (i : Int) = ringSh b w wy i := by
      unfold ringI
      rw [decide_eq_true (Int.natCast_nonneg i), Bool.true_and, Int.toNat_natCast]
    rw [show wayL (.ring wy i) = wy from rfl, e2] at this
    exact this
  | out => exact absurd rfl ho
theorem due {b : Book} {w : Str} {y : Way} (hb : okB b = true) (hw : isW w = true) (hl : ∀ x ∈ wayL y, isW x = true) (ho : y ≠ .out) : PV T 4 F__law_due [encB b, .str w, encA y] (.bl (eqWay (way b w) y)) := .mk (g := fun _ => []) rfl fun k hk => by
  have h1 := way_W hb hw
  have h2 := way_out b w
  rw [hc__law_due]
  unfold b__law_due
  walk_at "ev"
  rw [pc_t (way_is hb hw) (by omega) (rf2 (rf_encB b) rfl)]
  walk_at "ev"
  generalize way b w = z at h1 h2 ⊢
  have eqw : ∀ {l m : List Str}, (∀ x ∈ l, isW x = true) → (∀ x ∈ m, isW x = true) → ∀ h, eqH h (encS l) (encS m) = some (decide (l = m)) := fun a b h => eq_words (fun x hx => isW_ok (a x hx)) (fun x hx => isW_ok (b x hx))
  have dc : ∀ {a b : List Str}, decide (a = b) = decide (b = a) := fun {a b} => by
    by_cases q : a = b
    · subst q; rfl
    · rw [decide_eq_false q, decide_eq_false fun r => q r.symm]
  cases y with
  | head wy =>
    rw [show ∀ h, isiH T h (encA (.head wy)) (.own C_Ring) = some false from fun h => rfl]
    walk_at "ev"
    rw [show ∀ h, fldH T (encA (.head wy)) ⟨#[119, 97, 121]⟩ h = .ok (encS wy) h from fun h => rfl]
    walk_at "ev"
    rw [eqw (l := wy) hl h1]
    walk_at "ev"
    rw [show ∀ h, isiH T h (encA (.head wy)) (.own C_Head) = some true from fun h => rfl]
    walk_at "ev"
    rw [dc (a := wy)]
    cases z with
    | head a => rw [show (endI (.head a) == (-1 : Int)) = true from rfl, Bool.and_true]; rfl
    | lost a => show HR.ok (HV.bl (_ && false)) _ = _; rw [Bool.and_false]; rfl
    | ring a i =>
      rw [show (endI (.ring a i) == (-1 : Int)) = false from by rw [beq_eq_false_iff_ne]; show (i : Int) ≠ -1; omega, Bool.and_false]; rfl
    | out => exact absurd rfl h2
  | lost wy =>
    rw [show ∀ h, isiH T h (encA (.lost wy)) (.own C_Ring) = some false from fun h => rfl]
    walk_at "ev"
    rw [show ∀ h, fldH T (encA (.lost wy)) ⟨#[119, 97, 121]⟩ h = .ok (encS wy) h from fun h => rfl]
    walk_at "ev"
    rw [eqw (l := wy) hl h1]
    walk_at "ev"
    rw [show ∀ h, isiH T h (encA (.lost wy)) (.own C_Head) = some false from fun h => rfl]
    walk_at "ev"
    rw [dc (a := wy)]
    cases z with
    | lost a => rw [show (endI (.lost a) == (-2 : Int)) = true from rfl, Bool.and_true]; rfl
    | head a => show HR.ok (HV.bl (_ && false)) _ = _; rw [Bool.and_false]; rfl
    | ring a i =>
      rw [show (endI (.ring a i) == (-2 : Int)) = false from by rw [beq_eq_false_iff_ne]; show (i : Int) ≠ -2; omega, Bool.and_false]; rfl
    | out => exact absurd rfl h2
  | ring wy i =>
    rw [show ∀ h, isiH T h (encA (.ring wy i)) (.own C_Ring) = some true from fun h => rfl]
    walk_at "ev"
    rw [show ∀ h, fldH T (encA (.ring wy i)) ⟨#[119, 97, 121]⟩ h = .ok (encS wy) h from fun h => rfl]
    walk_at "ev"
    rw [show ∀ h, fldH T (encA (.ring wy i)) ⟨#[112, 108, 97, 99, 101]⟩ h = .ok (.int i) h from fun h => rfl]
    walk_at "ev"
    rw [mkTup_is (by simp [LIM])]
    walk_at "ev"
    rw [mkTup_is (by simp [LIM])]
    walk_at "ev"
    have ep := ((EqOk.lst (k := 18) EqOk.str).pair (EqOk.int (k := 19))).H (hh := []) (x := (wy, (i : Int))) (y := (wayL z, endI z)) ⟨fun x hx => isW_ok (hl x hx), trivial⟩ ⟨fun x hx => isW_ok (h1 x hx), trivial⟩ (by simp only [rf, rf.rfs, Bool.and_true]; exact rf_strs wy) (by simp only [rf, rf.rfs, Bool.and_true]; exact rf_strs _)
    have ep : eqH [] (.ft [encS wy, .int i]) (.ft [encS (wayL z), .int (endI z)]) = some (decide ((wy, (i : Int)) = (wayL z, endI z))) := ep
    rw [ep]
    walk_at "ev"
    cases z with
    | head a =>
      rw [show decide ((0 : Int) ≤ endI (.head a)) = false from rfl, Bool.and_false]; rfl
    | lost a =>
      rw [show decide ((0 : Int) ≤ endI (.lost a)) = false from rfl, Bool.and_false]; rfl
    | ring a j =>
      rw [show decide ((0 : Int) ≤ endI (.ring a j)) = true from decide_eq_true (Int.natCast_nonneg j), Bool.and_true]
      congr 2
      rw [Bool.eq_iff_iff]
      simp only [decide_eq_true_eq, eqWay, Bool.and_eq_true, Prod.mk.injEq, wayL, endI]
      constructor
      · rintro ⟨h1, h2⟩; exact ⟨h1.symm, by omega⟩
      · rintro ⟨h1, h2⟩; exact ⟨h1.symm, by omega⟩
    | out => exact absurd rfl h2
  | out => exact absurd rfl ho
def withL : Way → List Str → Way
  | .head _, l => .head l
  | .lost _, l => .lost l
  | .ring _ i, l => .ring l i
  | .out, _ => .out
def showF : Way → Nat
  | .head _ => F_Head_shows
  | .lost _ => F_Lost_shows
  | _ => F_Ring_shows
theorem withL_self (y : Way) : withL y (wayL y) = y := by cases y <;> rfl
theorem withL_out {y : Way} {l : List Str} (h : y ≠ .out) : withL y l ≠ .out := by
  cases y with
  | out => exact absurd rfl h
  | _ => exact fun q => by cases q
theorem wayL_with {y : Way} {l : List Str} (h : y ≠ .out) : wayL (withL y l) = l := by
  cases y with
  | out => exact absurd rfl h
  | _ => rfl
theorem showF_with {y : Way} {l : List Str} : showF (withL y l) = showF y := by cases y <;> rfl
/-- a heap in which an answer stands -/
abbrev ansR (h : HH) (y : Way) (a : HO) (l : List Str) : HH := h ++ [a, ansO h.length y, .lst (l.map .str)]
section
variable {h : HH} {y : Way} {a : HO} {l : List Str}
theorem ans1 : (ansR h y a l)[h.length + 1]? = some (ansO h.length y) := get_app1
theorem ans2 : (ansR h y a l)[h.length + 2]? = some (.lst (l.map .str)) := get_app2
theorem ans_isi (ho : y ≠ .out) : isiH T (ansR h y a l) (.ref (h.length + 1)) (.own C_Head) = some (endI y == -1) ∧ isiH T (ansR h y a l) (.ref (h.length + 1)) (.own C_Lost) = some (endI y == -2) ∧
    isiH T (ansR h y a l) (.ref (h.length + 1)) (.own C_Ring) = some (decide (0 ≤ endI y)) ∧ isiH T (ansR h y a l) (.ref (h.length + 1)) (.own C_Answer) = some true ∧
    isiH T (ansR h y a l) (.ref (h.length + 1)) (.own C_Grasped) = some false ∧ isiH T (ansR h y a l) (.ref (h.length + 1)) (.own C_Dark) = some false := by
  cases y with
  | head wy =>
    have e := ans1 (h := h) (y := .head wy) (a := a) (l := l)
    refine ⟨?_, ?_, ?_, ?_, ?_, ?_⟩ <;> (rw [isi_ref e rfl]; rfl)
  | lost wy =>
    have e := ans1 (h := h) (y := .lost wy) (a := a) (l := l)
    refine ⟨?_, ?_, ?_, ?_, ?_, ?_⟩ <;> (rw [isi_ref e rfl]; rfl)
  | ring wy i =>
    have e := ans1 (h := h) (y := .ring wy i) (a := a) (l := l)
    have e1 : (endI (.ring wy i) == (-1 : Int)) = false := by rw [beq_eq_false_iff_ne]; show (i : Int) ≠ -1; omega
    have e2 : (endI (.ring wy i) == (-2 : Int)) = false := by rw [beq_eq_false_iff_ne]; show (i : Int) ≠ -2; omega
    have e3 : decide ((0 : Int) ≤ endI (.ring wy i)) = true := decide_eq_true (Int.natCast_nonneg i)
    rw [e1, e2, e3]
    refine ⟨?_, ?_, ?_, ?_, ?_, ?_⟩ <;> (rw [isi_ref e rfl]; rfl)
  | out => exact absurd rfl ho
theorem ans_way (ho : y ≠ .out) : fldH T (.ref (h.length + 1)) ⟨#[119, 97, 121]⟩ (ansR h y a l) = .ok (.ref (h.length + 2)) (ansR h y a l) := by
  cases y with
  | head wy => exact fld_ref (ans1 (y := .head wy)) rfl rfl
  | lost wy => exact fld_ref (ans1 (y := .lost wy)) rfl rfl
  | ring wy i => exact fld_ref (ans1 (y := .ring wy i)) rfl rfl
  | out => exact absurd rfl ho
theorem ans_place {wy : List Str} {i : Nat} : fldH T (.ref (h.length + 1)) ⟨#[112, 108, 97, 99, 101]⟩ (ansR h (.ring wy i) a l) = .ok (.int i) (ansR h (.ring wy i) a l) := fld_ref (ans1 (y := .ring wy i)) rfl rfl
theorem ans_pick (ho : y ≠ .out) : pickH (ansR h y a l) ⟨#[115, 104, 111, 119, 115]⟩ (.ref (h.length + 1)) [(C_Head, F_Head_shows), (C_Lost, F_Lost_shows), (C_Ring, F_Ring_shows), (C_Grasped, F_Grasped_shows), (C_Dark, F_Dark_shows)] = some (showF y) := by
  cases y with
  | head wy => rw [pick_cons (ans1 (y := .head wy))]; rfl
  | lost wy => rw [pick_cons (ans1 (y := .lost wy)), pick_cons (ans1 (y := .lost wy))]; rfl
  | ring wy i => rw [pick_cons (ans1 (y := .ring wy i)), pick_cons (ans1 (y := .ring wy i)), pick_cons (ans1 (y := .ring wy i))]; rfl
  | out => exact absurd rfl ho
theorem ans_vw (ho : y ≠ .out) : vw VD (ansR h y a l) (.ref (h.length + 1)) = some (encA (withL y l)) := by
  have v2 : vw 11 (ansR h y a l) (.ref (h.length + 2)) = some (encS l) := vw_ref ans2 (rf_strm l)
  show vw (11 + 1) _ _ = _
  unfold vw
  rw [show rf (.ref (h.length + 1)) = false from rfl, cond_false]
  dsimp only
  rw [ans1]
  cases y with
  | head wy => simp only [ansO, mapK, v2]; rfl
  | lost wy => simp only [ansO, mapK, v2]; rfl
  | ring wy i => simp only [ansO, mapK, v2, vw_rf (show rf (.int (i : Int)) = true from rfl)]; rfl
  | out => exact absurd rfl ho
theorem shows_is {b : Book} {w : Str} (hb : okB b = true) (hw : isW w = true) (hl : ∀ x ∈ wayL y, isW x = true) (hn : (wayL y).length ≤ 1000) (ho : y ≠ .out) : PV T 3 (showF y) [encA y, encB b, .str w] (.bl (eqWay (way b w) y)) := by
  obtain ⟨f, e, p⟩ := shows_due hb hw hl hn ho
  have ef : showF y = f := by
    cases y with
    | head wy => cases e; rfl
    | lost wy => cases e; rfl
    | ring wy i => cases e; rfl
    | out => exact absurd rfl ho
  rw [ef]; exact p
/-- its words, as a call for itself -/
theorem ans_shows {b : Book} {w : Str} {k : Nat} (hb : okB b = true) (hw : isW w = true) (hl : ∀ x ∈ l, isW x = true) (hn : l.length ≤ 1000) (ho : y ≠ .out) (hk : 3 ≤ k) : pcH (hcall T k) (showF y) [.ref (h.length + 1), encB b, .str w] (ansR h y a l) = .ok (.bl (eqWay (way b w) (withL y l))) (ansR h y a l) := by
  have p := shows_is (y := withL y l) (b := b) (w := w) hb hw (by rw [wayL_with ho]; exact hl) (by rw [wayL_with ho]; exact hn) (withL_out ho)
  rw [showF_with] at p
  refine pc_of p hk ?_ (by rw [show flatH (.bl _) = true from rfl, Bool.or_true])
  unfold allV
  simp only [mapO, ans_vw ho, vw_rf (rf_encB b), vw_rf (rf_s w)]
theorem ans_due {b : Book} {w : Str} {k : Nat} (hb : okB b = true) (hw : isW w = true) (hl : ∀ x ∈ l, isW x = true) (ho : y ≠ .out) (hk : 4 ≤ k) : pcH (hcall T k) F__law_due [encB b, .str w, .ref (h.length + 1)] (ansR h y a l) = .ok (.bl (eqWay (way b w) (withL y l))) (ansR h y a l) := by
  have p := due (y := withL y l) (b := b) (w := w) hb hw (by rw [wayL_with ho]; exact hl) (withL_out ho)
  refine pc_of p hk ?_ (by rw [show flatH (.bl _) = true from rfl, Bool.or_true])
  unfold allV
  simp only [mapO, ans_vw ho, vw_rf (rf_encB b), vw_rf (rf_s w)]
end
theorem eq_b3 {h : HH} {a b c : Bool} : eqH h (.fl [.bl a, .bl b, .bl c]) (.fl [.bl a, .bl b, .bl c]) = some true := by
  cases a <;> cases b <;> cases c <;> rfl
theorem eqWay_self {y : Way} (h : y ≠ .out) : eqWay y y = true := (eqWay_iff h).mpr rfl
theorem eqWay_app {y : Way} {w : Str} (ho : y ≠ .out) : eqWay y (withL y (wayL y ++ [w])) = false := by
  have ne : ∀ l : List Str, ¬ l = l ++ [w] := fun l e => by
    have := congrArg List.length e
    simp at this
  cases y with
  | out => exact absurd rfl ho
  | head wy => exact decide_eq_false (ne wy)
  | lost wy => exact decide_eq_false (ne wy)
  | ring wy i => show (decide (wy = wy ++ [w]) && _) = false; rw [decide_eq_false (ne wy)]; rfl
theorem ans_pl {h : HH} {y : Way} {a : HO} {l : List Str} (ho : y ≠ .out) (q : 0 ≤ endI y) : ∃ i : Int, fldH T (.ref (h.length + 1)) ⟨#[112, 108, 97, 99, 101]⟩ (ansR h y a l) = .ok (.int i) (ansR h y a l) := by
  cases y with
  | ring wy i => exact ⟨i, ans_place⟩
  | head wy => exact absurd (show (0 : Int) ≤ -1 from q) (by decide)
  | lost wy => exact absurd (show (0 : Int) ≤ -2 from q) (by decide)
  | out => exact absurd rfl ho
theorem right_body {b : Book} {w : Str} {others : List (Book × Str)} {k : Nat} (hk : 6 ≤ k) (hb : okB b = true) (hw : isW w = true) (hoth : ∀ p ∈ others, okB p.1 = true ∧ isW p.2 = true) {u6 u7 u8 u9 u10 : Option HV} {h : HH} :
    ∃ v7 v8 v9 v10 h', (hden T (hcall T k) b1__law_right).st [some (encB b), some (.str w), some (.fl (others.map fun p => .ft [encB p.1, .str p.2])), some (encB b), some (encS (wayL (way b w))), some (.int (endI (way b w))), u6, u7, u8, u9, u10] h =
      .ok .nx [some (encB b), some (.str w), some (.fl (others.map fun p => .ft [encB p.1, .str p.2])), some (encB b), some (encS (wayL (way b w))), some (.int (endI (way b w))), u6, v7, v8, v9, v10] h' := by
  obtain ⟨j, rfl⟩ : ∃ j, k = j + 1 := ⟨k - 1, by omega⟩
  have ho := way_out b w
  have hW := way_W hb hw
  have hL := way_len (w := w) hb
  have hlk := looked (h := h) (k := j) hb hw (by omega)
  have hbs := fun z => (okB_all hb).2.1 z
  have eqself : ∀ z, z = way b w → way b w = z := fun z e => e.symm
  obtain ⟨i1, i2, i3, i4, i5, i6⟩ := ans_isi (h := h) (a := .lst ((wayL (way b w)).map .str)) (l := wayL (way b w)) ho
  unfold b1__law_right
  walk_at "ev"
  rw [hlk, show ansH h (way b w) = ansR h (way b w) (.lst ((wayL (way b w)).map .str)) (wayL (way b w)) from rfl]
  walk_at "ev"
  rw [i1]
  walk_at "ev"
  rw [i2]
  walk_at "ev"
  rw [i3]
  walk_at "ev"
  rw [mkLs_f (by simp [LIM])]
  walk_at "ev"
  rw [i4]
  walk_at "ev"
  rw [mkLs_f (by simp [LIM])]
  walk_at "ev"
  rw [eq_b3]
  walk_at "ev"
  rw [eq_books hbs hbs, decide_eq_true rfl]
  walk_at "ev"
  rw [i5]
  walk_at "ev"
  rw [i6]
  walk_at "ev"
  rw [ans_way ho]
  walk_at "ev"
  rw [isi_lstr ans2]
  walk_at "ev"
  rw [ans_due hb hw hW ho (by omega), withL_self, eqWay_self ho]
  walk_at "ev"
  rw [ans_pick ho]
  walk_at "ev"
  rw [ans_shows hb hw hW (by omega) ho (by omega), withL_self, eqWay_self ho]
  walk_at "ev"
  rw [pc_t says (by omega) rfl]
  walk_at "ev"
  obtain ⟨e', hl⟩ := forI_chk (fun p : Book × Str => HV.ft [encB p.1, .str p.2]) (tg := (hden T (hcall T (j + 1)) (A.tt 2 ((A.tn 9).cons ((A.tn 10).cons A.nil)))).tg) (b := (hden T (hcall T (j + 1)) b0__law_right).st) (h := ansR h (way b w) (.lst ((wayL (way b w)).map .str)) (wayL (way b w)))
    (fun e => ∃ v9 v10, e = [some (encB b), some (.str w), some (.fl (others.map fun p => .ft [encB p.1, .str p.2])), some (encB b), some (encS (wayL (way b w))), some (.int (endI (way b w))), u6, some (.ref (h.length + 1)), some (.fl [.bl (endI (way b w) == -1), .bl (endI (way b w) == -2), .bl (decide (0 ≤ endI (way b w)))]), v9, v10])
    (fun _ => false) (.bl false) others [some (encB b), some (.str w), some (.fl (others.map fun p => .ft [encB p.1, .str p.2])), some (encB b), some (encS (wayL (way b w))), some (.int (endI (way b w))), u6, some (.ref (h.length + 1)), some (.fl [.bl (endI (way b w) == -1), .bl (endI (way b w) == -2), .bl (decide (0 ≤ endI (way b w)))]), u9, u10] ⟨_, _, rfl⟩ (by
      rintro ⟨b2, w2⟩ hp e ⟨v9, v10, rfl⟩
      obtain ⟨hb2, hw2⟩ := hoth _ hp
      refine ⟨_, rfl, fun q => by simp at q, fun _ => ?_⟩
      unfold b0__law_right
      walk_at "ev"
      rw [ans_pick ho]
      walk_at "ev"
      rw [ans_shows hb2 hw2 hW (by omega) ho (by omega), withL_self]
      walk_at "ev"
      rw [ans_due hb2 hw2 hW ho (by omega), withL_self]
      walk_at "ev"
      rw [pc_t says (by omega) rfl]
      walk_at "ev"
      exact ⟨_, rfl, _, _, rfl⟩)
  rcases hl with ⟨⟨v9, v10, rfl⟩, _, hl⟩ | ⟨q, _⟩
  rotate_left
  · simp at q
  by_cases q : 0 ≤ endI (way b w)
  all_goals (first
    | (obtain ⟨i, hi⟩ := ans_pl (h := h) (a := .lst ((wayL (way b w)).map .str)) (l := wayL (way b w)) ho q
       simp only [q, decide_true] at hl ⊢
       walk_at "ev"
       rw [hi]
       walk_at "ev"
       rw [pc_t whole (by omega) rfl]
       walk_at "ev")
    | (simp only [q, decide_false] at hl ⊢
       walk_at "ev"))
  all_goals
    rw [hl]
    walk_at "ev"
    rw [ans_way ho]
    walk_at "ev"
    rw [rcv_ref ans2]
    walk_at "ev"
    rw [if_pos (show okKind .append .lst = true from rfl), app_ref ans2 (by rw [List.length_map]; unfold LIM; omega), set_app2,
      show (h ++ [HO.lst ((wayL (way b w)).map HV.str), ansO h.length (way b w), .lst ((wayL (way b w)).map HV.str ++ [.str w])]) = ansR h (way b w) (.lst ((wayL (way b w)).map .str)) (wayL (way b w) ++ [w]) from by rw [ansR, List.map_append]; rfl]
    walk_at "ev"
    rw [ans_pick ho]
    walk_at "ev"
    rw [ans_shows hb hw (fun x hx => by
      rcases List.mem_append.mp hx with r | r
      · exact hW x r
      · rw [List.mem_singleton] at r; rw [r]; exact hw) (by rw [List.length_append]; simp; omega) ho (by omega), eqWay_app ho]
    walk_at "ev"
    rw [is_bb, decide_eq_true rfl]
    walk_at "ev"
    exact ⟨_, _, _, _, _, rfl⟩
theorem right_is {b : Book} {w : Str} {others : List (Book × Str)} (hb : okB b = true) (hw : isW w = true) (hoth : ∀ p ∈ others, okB p.1 = true ∧ isW p.2 = true) :
    PV T 8 F__law_right [encB b, .str w, .fl (others.map fun p => .ft [encB p.1, .str p.2])] (.bl true) := .mk2 fun k hk => by
  obtain ⟨v7, v8, v9, v10, h1, e1⟩ := right_body (k := k) (u6 := some (.int ((0 : Nat) : Int))) (u7 := none) (u8 := none) (u9 := none) (u10 := none) (h := []) (by omega) hb hw hoth
  obtain ⟨v7', v8', v9', v10', h2, e2⟩ := right_body (k := k) (u6 := some (.int ((1 : Nat) : Int))) (u7 := v7) (u8 := v8) (u9 := v9) (u10 := v10) (h := h1) (by omega) hb hw hoth
  refine ⟨.bl true, h2, ?_, vw_rf rfl⟩
  rw [hc__law_right]
  unfold b__law_right
  walk_at "ev"
  rw [pc_t (copied hb) (by omega) (rf1 (rf_encB b))]
  walk_at "ev"
  rw [pc_t (way_is hb hw) (by omega) (rf2 (rf_encB b) rfl)]
  walk_at "ev"
  rw [mkTup_is (by simp [LIM])]
  walk_at "ev"
  rw [ir1_is (by decide)]
  walk_at "ev"
  rw [show (List.range (2 : Int).toNat).map (fun (i : Nat) => HV.int i) = [.int ((0 : Nat) : Int), .int ((1 : Nat) : Int)] from rfl]
  rw [for_cons rfl e1, for_cons rfl e2, for_nil]
  walk_at "ev"
theorem law_tail (ns : List Int) (u1 u2 u3 u4 u5 u6 u7 : Option HV) : isTT ((hden T (hcall T 39) (tailOf b_law)).st [some (.sc ns), u1, u2, u3, u4, u5, u6, u7, none, none, none] []) = true := by kernel_rfl
theorem law_word {b o : Book} {w : Str} {a : Nat} {k : Nat} (hk : 8 ≤ k) (hb : okB b = true) (ho : okB o = true) (hw : isW w = true) (ha : a ≤ (namedF b).length) {u0 u1 u7 : Option HV} :
    ∃ e2, (hden T (hcall T k) b1_law).st [u0, u1, some (encB b), some (encB o), some (encS (namedF b)), some (.int (a : Nat)), some (.str w), u7, none, none, none] [] = .ok .nx e2 [] ∧ ∃ v7, e2 = [u0, u1, some (encB b), some (encB o), some (encS (namedF b)), some (.int (a : Nat)), some (.str w), v7, none, none, none] := by
  have hW := namedF_W hb
  unfold b1_law
  walk_at "ev"
  rw [mkTup_is (by simp [LIM])]
  walk_at "ev"
  rw [mkLs_f (by simp [LIM])]
  walk_at "ev"
  rw [eq_wordsN fun x hx => isW_ok (hW x hx)]
  walk_at "ev"
  have fin : ∀ x, isW x = true → PV T 8 F__law_right [encB b, .str w, .fl [.ft [encB o, .str w], .ft [encB b, .str x]]] (.bl true) := fun x hx =>
    right_is (others := [(o, w), (b, x)]) hb hw fun p hp => by
      rcases List.mem_cons.mp hp with q | q
      · rw [q]; exact ⟨ho, hw⟩
      · rw [List.mem_singleton] at q; rw [q]; exact ⟨hb, hx⟩
  have rfo : ∀ x, [encB b, .str w, .fl [.ft [encB o, .str w], .ft [encB b, .str x]]].all rf = true := fun x => by
    have h1 := rf_encB b
    have h2 := rf_encB o
    simp [rf, rf.rfs, h1, h2]
  cases q : namedF b with
  | nil =>
    walk_at "ev"
    rw [mkTup_is (by simp [LIM])]
    walk_at "ev"
    rw [mkLs_f (by simp [LIM])]
    walk_at "ev"
    rw [pc_t (fin ⟨#[97]⟩ rfl) (by omega) (rfo _)]
    walk_at "ev"
    exact ⟨_, rfl, _, rfl⟩
  | cons y l =>
    rw [decide_eq_false (List.cons_ne_nil y l)]
    walk_at "ev"
    rw [q] at ha hW
    obtain ⟨x, hx, e⟩ := atI_prev HV.str (List.cons_ne_nil y l) ha
    rw [e]
    walk_at "ev"
    rw [mkTup_is (by simp [LIM])]
    walk_at "ev"
    rw [mkLs_f (by simp [LIM])]
    walk_at "ev"
    rw [pc_t (fin x (hW x hx)) (by omega) (rfo _)]
    walk_at "ev"
    exact ⟨_, rfl, _, rfl⟩
theorem law_by {ns : List Int} {i : Nat} {k : Nat} (hk : 8 ≤ k) (hi : i < 2) {u2 u3 u4 u5 u6 u7 : Option HV} : ∃ e2, (hden T (hcall T k) b2_law).st [some (.sc ns), some (.int i), u2, u3, u4, u5, u6, u7, none, none, none] [] = .ok .nx e2 [] ∧
    ∃ v1 v2 v3 v4 v5 v6 v7, e2 = [some (.sc ns), v1, v2, v3, v4, v5, v6, v7, none, none, none] := by
  have hb := bookF_ok (ns := ns) (i := i) (most := 12) (by decide)
  have ho := bookF_ok (ns := ns) (i := i + 1) (most := 12) (by decide)
  have hW := namedF_W hb
  have hnl : (namedF (bookF ns i 12)).length ≤ 1000 := by
    have h1 := names_len (okB_all hb).2.1
    have h2 := (okB_all hb).1
    have : (namedF (bookF ns i 12)).length ≤ ((bookF ns i 12).flatMap namesE).length := by
      unfold namedF setSorted
      rw [sortBy_len]
      exact dedup_len _ _
    omega
  unfold b2_law
  walk_at "ev"
  rw [pc_t (book (by omega) (by decide)) (by omega) rfl]
  walk_at "ev"
  rw [pc_t (book (by omega) (by decide)) (by omega) rfl]
  walk_at "ev"
  rw [pc_t (named hb) (by omega) (rf1 (rf_encB _))]
  walk_at "ev"
  rw [mkLs_f (by simp [LIM])]
  walk_at "ev"
  rw [bin_addl (by rw [List.length_map]; show _ + 1 ≤ 100000; omega)]
  walk_at "ev"
  rw [show (namedF (bookF ns i 12)).map HV.str ++ [HV.str ⟨#[122, 122, 122, 122]⟩] = (namedF (bookF ns i 12) ++ [(⟨#[122, 122, 122, 122]⟩ : Str)]).map HV.str from by rw [List.map_append]; rfl]
  rw [show ∀ xs h, ienH (.fl xs) h = .ok (.its (enumL 0 xs), xs.length) h from fun xs h => rfl, enumL_map]
  walk_at "ev"
  generalize bookF ns i 12 = b at hb hW hnl ⊢
  generalize bookF ns (i + 1) 12 = o at ho ⊢
  obtain ⟨e', hl⟩ := forI_chk (fun p : Str × Nat => HV.ft [.int (p.2 : Nat), .str p.1]) (tg := (hden T (hcall T k) (A.tt 2 ((A.tn 5).cons ((A.tn 6).cons A.nil)))).tg) (b := (hden T (hcall T k) b1_law).st) (h := [])
    (fun e => ∃ v5 v6 v7, e = [some (.sc ns), some (.int i), some (encB b), some (encB o), some (encS (namedF b)), v5, v6, v7, none, none, none])
    (fun _ => false) (.bl false) ((namedF b ++ [(⟨#[122, 122, 122, 122]⟩ : Str)]).zipIdx 0) [some (.sc ns), some (.int i), some (encB b), some (encB o), some (encS (namedF b)), u5, u6, u7, none, none, none] ⟨_, _, _, rfl⟩ (by
      rintro ⟨w, a⟩ hp e ⟨v5, v6, v7, rfl⟩
      have hp := List.mem_zipIdx hp
      rw [List.length_append, List.length_singleton] at hp
      have hw : isW w = true := by
        have hm : w ∈ namedF b ++ [(⟨#[122, 122, 122, 122]⟩ : Str)] := by rw [hp.2.2]; exact List.getElem_mem _
        rcases List.mem_append.mp hm with q | q
        · exact hW w q
        · rw [List.mem_singleton] at q; rw [q]; rfl
      obtain ⟨e2, h1, v7', h2⟩ := law_word (w := w) (a := a) (k := k) (u0 := some (.sc ns)) (u1 := some (.int i)) (u7 := v7) hk hb ho hw (by omega)
      exact ⟨_, rfl, fun q => by simp at q, fun _ => ⟨e2, h1, _, _, _, h2⟩⟩)
  rcases hl with ⟨⟨v5, v6, v7, rfl⟩, _, hl⟩ | ⟨q, _⟩
  · rw [hl]
    walk_at "ev"
    exact ⟨_, rfl, _, _, _, _, _, _, _, rfl⟩
  · simp at q
theorem plain : ∀ ns : List Int, ns.length ≤ 63 → ∃ hh, hcall T 40 F_law [.sc ns] [] = .ok (.bl true) hh := fun ns _ => by
  rw [hc_law]
  rw [show b_law = .scons (.sfor (.tn 1) (.ir1 (.int 2)) b2_law) (tailOf b_law) from rfl]
  walk_at "ev"
  rw [ir1_is (by decide)]
  walk_at "ev"
  obtain ⟨e', hl⟩ := forI_chk (fun i : Nat => HV.int i) (tg := (hden T (hcall T 39) (A.tn 1)).tg) (b := (hden T (hcall T 39) b2_law).st) (h := [])
    (fun e => ∃ v1 v2 v3 v4 v5 v6 v7, e = [some (.sc ns), v1, v2, v3, v4, v5, v6, v7, none, none, none])
    (fun _ => false) (.bl false) (List.range (2 : Int).toNat) [some (.sc ns), none, none, none, none, none, none, none, none, none, none] ⟨_, _, _, _, _, _, _, rfl⟩ (by
      rintro i hi e ⟨v1, v2, v3, v4, v5, v6, v7, rfl⟩
      have hi : i < 2 := List.mem_range.mp hi
      obtain ⟨e2, h1, h2⟩ := law_by (ns := ns) (i := i) (k := 39) (by decide) hi (u2 := v2) (u3 := v3) (u4 := v4) (u5 := v5) (u6 := v6) (u7 := v7)
      exact ⟨_, rfl, fun q => by simp at q, fun _ => ⟨e2, h1, h2⟩⟩)
  rcases hl with ⟨⟨v1, v2, v3, v4, v5, v6, v7, rfl⟩, _, hl⟩ | ⟨q, _⟩
  · rw [hl]
    walk_at "ev"
    obtain ⟨e, hh, r⟩ := isTT_is (law_tail ns v1 v2 v3 v4 v5 v6 v7)
    rw [r]
    exact ⟨hh, rfl⟩
  · simp at q
end K01
end
namespace K01
open PySem MP MH L2
theorem h_is_text {F : Fx} {fa : Addr} {fd : FuncData} (h : FnH F.K "is_text" "is_text" s_is_text fa fd) : FnDx F T G 0 fa fd ["thing", "least", "most"] :=
  h.d (N := n_is_text) (by decide +kernel) rfl rfl rfl c_is_text (fun _ _ _ _ _ _ us hl => match us, hl with | [_, _, _], _ => rfl)
theorem h_is_word {F : Fx} {fa : Addr} {fd : FuncData} (h : FnH F.K "is_word" "is_word" s_is_word fa fd) : FnDx F T G 1 fa fd ["thing"] :=
  h.d (N := n_is_word) (by decide +kernel) rfl rfl rfl c_is_word (fun _ _ _ _ _ _ us hl => match us, hl with | [_], _ => rfl)
theorem h_is_sense {F : Fx} {fa : Addr} {fd : FuncData} (h : FnH F.K "is_sense" "is_sense" s_is_sense fa fd) : FnDx F T G 2 fa fd ["thing"] :=
  h.d (N := n_is_sense) (by decide +kernel) rfl rfl rfl c_is_sense (fun _ _ _ _ _ _ us hl => match us, hl with | [_], _ => rfl)
theorem h_is_entry {F : Fx} {fa : Addr} {fd : FuncData} (h : FnH F.K "is_entry" "is_entry" s_is_entry fa fd) : FnDx F T G 3 fa fd ["thing"] :=
  h.d (N := n_is_entry) (by decide +kernel) rfl rfl rfl c_is_entry (fun _ _ _ _ _ _ us hl => match us, hl with | [_], _ => rfl)
theorem h_are_rising {F : Fx} {fa : Addr} {fd : FuncData} (h : FnH F.K "are_rising" "are_rising" s_are_rising fa fd) : FnDx F T G 4 fa fd ["line"] :=
  h.d (N := n_are_rising) (by decide +kernel) rfl rfl rfl c_are_rising (fun _ _ _ _ _ _ us hl => match us, hl with | [_], _ => rfl)
theorem h_check_book {F : Fx} {fa : Addr} {fd : FuncData} (h : FnH F.K "check_book" "check_book" s_check_book fa fd) : FnDx F T G 5 fa fd ["book"] :=
  h.d (N := n_check_book) (by decide +kernel) rfl rfl rfl c_check_book (fun _ _ _ _ _ _ us hl => match us, hl with | [_], _ => rfl)
theorem h_check_word {F : Fx} {fa : Addr} {fd : FuncData} (h : FnH F.K "check_word" "check_word" s_check_word fa fd) : FnDx F T G 6 fa fd ["word"] :=
  h.d (N := n_check_word) (by decide +kernel) rfl rfl rfl c_check_word (fun _ _ _ _ _ _ us hl => match us, hl with | [_], _ => rfl)
theorem h_known_by {F : Fx} {fa : Addr} {fd : FuncData} (h : FnH F.K "known_by" "known_by" s_known_by fa fd) : FnDx F T G 7 fa fd ["book"] :=
  h.d (N := n_known_by) (by decide +kernel) rfl rfl rfl c_known_by (fun _ _ _ _ _ _ us hl => match us, hl with | [_], _ => rfl)
theorem h_is_led {F : Fx} {fa : Addr} {fd : FuncData} (h : FnH F.K "is_led" "is_led" s_is_led fa fd) : FnDx F T G 8 fa fd ["book", "word", "way"] :=
  h.d (N := n_is_led) (by decide +kernel) rfl rfl rfl c_is_led (fun _ _ _ _ _ _ us hl => match us, hl with | [_, _, _], _ => rfl)
theorem h_Head___init__ {F : Fx} {fa : Addr} {fd : FuncData} (h : FnH F.K "__init__" "Head.__init__" s_Head___init__ fa fd) : FnDx F T G 9 fa fd ["self", "way"] :=
  h.d (N := n_Head___init__) (by decide +kernel) rfl rfl rfl c_Head___init__ (fun _ _ _ _ _ _ us hl => match us, hl with | [_, _], _ => rfl)
theorem h_Head_shows {F : Fx} {fa : Addr} {fd : FuncData} (h : FnH F.K "shows" "Head.shows" s_Head_shows fa fd) : FnDx F T G 10 fa fd ["self", "book", "word"] :=
  h.d (N := n_Head_shows) (by decide +kernel) rfl rfl rfl c_Head_shows (fun _ _ _ _ _ _ us hl => match us, hl with | [_, _, _], _ => rfl)
theorem h_Lost___init__ {F : Fx} {fa : Addr} {fd : FuncData} (h : FnH F.K "__init__" "Lost.__init__" s_Lost___init__ fa fd) : FnDx F T G 11 fa fd ["self", "way"] :=
  h.d (N := n_Lost___init__) (by decide +kernel) rfl rfl rfl c_Lost___init__ (fun _ _ _ _ _ _ us hl => match us, hl with | [_, _], _ => rfl)
theorem h_Lost_shows {F : Fx} {fa : Addr} {fd : FuncData} (h : FnH F.K "shows" "Lost.shows" s_Lost_shows fa fd) : FnDx F T G 12 fa fd ["self", "book", "word"] :=
  h.d (N := n_Lost_shows) (by decide +kernel) rfl rfl rfl c_Lost_shows (fun _ _ _ _ _ _ us hl => match us, hl with | [_, _, _], _ => rfl)
theorem h_Ring___init__ {F : Fx} {fa : Addr} {fd : FuncData} (h : FnH F.K "__init__" "Ring.__init__" s_Ring___init__ fa fd) : FnDx F T G 13 fa fd ["self", "way", "place"] :=
  h.d (N := n_Ring___init__) (by decide +kernel) rfl rfl rfl c_Ring___init__ (fun _ _ _ _ _ _ us hl => match us, hl with | [_, _, _], _ => rfl)
theorem h_Ring_shows {F : Fx} {fa : Addr} {fd : FuncData} (h : FnH F.K "shows" "Ring.shows" s_Ring_shows fa fd) : FnDx F T G 14 fa fd ["self", "book", "word"] :=
  h.d (N := n_Ring_shows) (by decide +kernel) rfl rfl rfl c_Ring_shows (fun _ _ _ _ _ _ us hl => match us, hl with | [_, _, _], _ => rfl)
theorem h_is_told_by {F : Fx} {fa : Addr} {fd : FuncData} (h : FnH F.K "is_told_by" "is_told_by" s_is_told_by fa fd) : FnDx F T G 15 fa fd ["entries", "word", "some"] :=
  h.d (N := n_is_told_by) (by decide +kernel) rfl rfl rfl c_is_told_by (fun _ _ _ _ _ _ us hl => match us, hl with | [_, _, _], _ => rfl)
theorem h_Grasped___init__ {F : Fx} {fa : Addr} {fd : FuncData} (h : FnH F.K "__init__" "Grasped.__init__" s_Grasped___init__ fa fd) : FnDx F T G 16 fa fd ["self", "order"] :=
  h.d (N := n_Grasped___init__) (by decide +kernel) rfl rfl rfl c_Grasped___init__ (fun _ _ _ _ _ _ us hl => match us, hl with | [_, _], _ => rfl)
theorem h_Grasped_shows {F : Fx} {fa : Addr} {fd : FuncData} (h : FnH F.K "shows" "Grasped.shows" s_Grasped_shows fa fd) : FnDx F T G 17 fa fd ["self", "book", "known", "word"] :=
  h.d (N := n_Grasped_shows) (by decide +kernel) rfl rfl rfl c_Grasped_shows (fun _ _ _ _ _ _ us hl => match us, hl with | [_, _, _, _], _ => rfl)
theorem h_Dark___init__ {F : Fx} {fa : Addr} {fd : FuncData} (h : FnH F.K "__init__" "Dark.__init__" s_Dark___init__ fa fd) : FnDx F T G 18 fa fd ["self", "words"] :=
  h.d (N := n_Dark___init__) (by decide +kernel) rfl rfl rfl c_Dark___init__ (fun _ _ _ _ _ _ us hl => match us, hl with | [_, _], _ => rfl)
theorem h_Dark_shows {F : Fx} {fa : Addr} {fd : FuncData} (h : FnH F.K "shows" "Dark.shows" s_Dark_shows fa fd) : FnDx F T G 19 fa fd ["self", "book", "known", "word"] :=
  h.d (N := n_Dark_shows) (by decide +kernel) rfl rfl rfl c_Dark_shows (fun _ _ _ _ _ _ us hl => match us, hl with | [_, _, _, _], _ => rfl)
theorem h_looked_of {F : Fx} {fa : Addr} {fd : FuncData} (h : FnH F.K "looked_of" "looked_of" s_looked_of fa fd) : FnDx F T G 20 fa fd ["book", "word"] :=
  h.d (N := n_looked_of) (by decide +kernel) rfl rfl rfl c_looked_of (fun _ _ _ _ _ _ us hl => match us, hl with | [_, _], _ => rfl)
theorem h_looked {F : Fx} {fa : Addr} {fd : FuncData} (h : FnH F.K "looked" "looked" s_looked fa fd) : FnDx F T G 21 fa fd ["book", "word"] :=
  h.d (N := n_looked) (by decide +kernel) rfl rfl rfl c_looked (fun _ _ _ _ _ _ us hl => match us, hl with | [_, _], _ => rfl)
theorem h__law_cell_at {F : Fx} {fa : Addr} {fd : FuncData} (h : FnH F.K "_law_cell_at" "_law_cell_at" s__law_cell_at fa fd) : FnDx F T G 22 fa fd ["_law_script", "_law_k"] :=
  h.d (N := n__law_cell_at) (by decide +kernel) rfl rfl rfl c__law_cell_at (fun _ _ _ _ _ _ us hl => match us, hl with | [_, _], _ => rfl)
theorem h__law_draw {F : Fx} {fa : Addr} {fd : FuncData} (h : FnH F.K "_law_draw" "_law_draw" s__law_draw fa fd) : FnDx F T G 23 fa fd ["_law_cell", "_law_k", "_law_most"] :=
  h.d (N := n__law_draw) (by decide +kernel) rfl rfl rfl c__law_draw (fun _ _ _ _ _ _ us hl => match us, hl with | [_, _, _], _ => rfl)
theorem h__law_number {F : Fx} {fa : Addr} {fd : FuncData} (h : FnH F.K "_law_number" "_law_number" s__law_number fa fd) : FnDx F T G 24 fa fd ["_law_cell", "_law_k", "_law_limit"] :=
  h.d (N := n__law_number) (by decide +kernel) rfl rfl rfl c__law_number (fun _ _ _ _ _ _ us hl => match us, hl with | [_, _, _], _ => rfl)
theorem h__law_word {F : Fx} {fa : Addr} {fd : FuncData} (h : FnH F.K "_law_word" "_law_word" s__law_word fa fd) : FnDx F T G 25 fa fd ["_law_number_here"] :=
  h.d (N := n__law_word) (by decide +kernel) rfl rfl rfl c__law_word (fun _ _ _ _ _ _ us hl => match us, hl with | [_], _ => rfl)
theorem h__law_words {F : Fx} {fa : Addr} {fd : FuncData} (h : FnH F.K "_law_words" "_law_words" s__law_words fa fd) : FnDx F T G 26 fa fd ["_law_script", "_law_by", "_law_many"] :=
  h.d (N := n__law_words) (by decide +kernel) rfl rfl rfl c__law_words (fun _ _ _ _ _ _ us hl => match us, hl with | [_, _, _], _ => rfl)
theorem h__law_senses {F : Fx} {fa : Addr} {fd : FuncData} (h : FnH F.K "_law_senses" "_law_senses" s__law_senses fa fd) : FnDx F T G 27 fa fd ["_law_cell", "_law_at", "_law_words_here"] :=
  h.d (N := n__law_senses) (by decide +kernel) rfl rfl rfl c__law_senses (fun _ _ _ _ _ _ us hl => match us, hl with | [_, _, _], _ => rfl)
theorem h__law_book {F : Fx} {fa : Addr} {fd : FuncData} (h : FnH F.K "_law_book" "_law_book" s__law_book fa fd) : FnDx F T G 28 fa fd ["_law_script", "_law_by", "_law_most"] :=
  h.d (N := n__law_book) (by decide +kernel) rfl rfl rfl c__law_book (fun _ _ _ _ _ _ us hl => match us, hl with | [_, _, _], _ => rfl)
theorem h__law_named {F : Fx} {fa : Addr} {fd : FuncData} (h : FnH F.K "_law_named" "_law_named" s__law_named fa fd) : FnDx F T G 29 fa fd ["_law_book_here"] :=
  h.d (N := n__law_named) (by decide +kernel) rfl rfl rfl c__law_named (fun _ _ _ _ _ _ us hl => match us, hl with | [_], _ => rfl)
theorem h__law_entry {F : Fx} {fa : Addr} {fd : FuncData} (h : FnH F.K "_law_entry" "_law_entry" s__law_entry fa fd) : FnDx F T G 30 fa fd ["_law_book_here", "_law_word_here"] :=
  h.d (N := n__law_entry) (by decide +kernel) rfl rfl rfl c__law_entry (fun _ _ _ _ _ _ us hl => match us, hl with | [_, _], _ => rfl)
theorem h__law_copied {F : Fx} {fa : Addr} {fd : FuncData} (h : FnH F.K "_law_copied" "_law_copied" s__law_copied fa fd) : FnDx F T G 31 fa fd ["_law_book_here"] :=
  h.d (N := n__law_copied) (by decide +kernel) rfl rfl rfl c__law_copied (fun _ _ _ _ _ _ us hl => match us, hl with | [_], _ => rfl)
theorem h__law_way {F : Fx} {fa : Addr} {fd : FuncData} (h : FnH F.K "_law_way" "_law_way" s__law_way fa fd) : FnDx F T G 32 fa fd ["_law_book_here", "_law_word_here"] :=
  h.d (N := n__law_way) (by decide +kernel) rfl rfl rfl c__law_way (fun _ _ _ _ _ _ us hl => match us, hl with | [_, _], _ => rfl)
theorem h__law_whole {F : Fx} {fa : Addr} {fd : FuncData} (h : FnH F.K "_law_whole" "_law_whole" s__law_whole fa fd) : FnDx F T G 33 fa fd ["_law_found"] :=
  h.d (N := n__law_whole) (by decide +kernel) rfl rfl rfl c__law_whole (fun _ _ _ _ _ _ us hl => match us, hl with | [_], _ => rfl)
theorem h__law_says {F : Fx} {fa : Addr} {fd : FuncData} (h : FnH F.K "_law_says" "_law_says" s__law_says fa fd) : FnDx F T G 34 fa fd ["_law_said", "_law_due_here"] :=
  h.d (N := n__law_says) (by decide +kernel) rfl rfl rfl c__law_says (fun _ _ _ _ _ _ us hl => match us, hl with | [_, _], _ => rfl)
theorem h__law_due {F : Fx} {fa : Addr} {fd : FuncData} (h : FnH F.K "_law_due" "_law_due" s__law_due fa fd) : FnDx F T G 35 fa fd ["_law_book_here", "_law_word_here", "_law_found"] :=
  h.d (N := n__law_due) (by decide +kernel) rfl rfl rfl c__law_due (fun _ _ _ _ _ _ us hl => match us, hl with | [_, _, _], _ => rfl)
theorem h__law_right {F : Fx} {fa : Addr} {fd : FuncData} (h : FnH F.K "_law_right" "_law_right" s__law_right fa fd) : FnDx F T G 36 fa fd ["_law_book_here", "_law_word_here", "_law_others"] :=
  h.d (N := n__law_right) (by decide +kernel) rfl rfl rfl c__law_right (fun _ _ _ _ _ _ us hl => match us, hl with | [_, _, _], _ => rfl)
theorem h_law {F : Fx} {fa : Addr} {fd : FuncData} (h : FnH F.K "law" "law" s_law fa fd) : FnDx F T G 37 fa fd ["_law_script"] :=
  h.d (N := n_law) (by decide +kernel) rfl rfl rfl c_law (fun _ _ _ _ _ _ us hl => match us, hl with | [_], _ => rfl)
theorem facts {K : PySem.W.Frag} {h : Heap} {mg : Str → Option Value} (X : K.In h) (Gm : h.Ns mainGlobals mg) {fa : Addr} (hfa : mg "law" = some (.ref fa))
    {C0 : Addr} {C1 : Addr} {C2 : Addr} {C3 : Addr} {C4 : Addr} {C5 : Addr} {C6 : Addr} {C7 : Addr} {C8 : Addr} {x0 : Addr} {kV0 dc0 pm0 cd0 ct0 oc0 : Value} {an0 od0 : Option Addr} {sl0 : Array (Option Value)} {x1 : Addr} {kV1 dc1 pm1 cd1 ct1 oc1 : Value} {an1 od1 : Option Addr} {sl1 : Array (Option Value)} {x2 : Addr} {kV2 dc2 pm2 cd2 ct2 oc2 : Value} {an2 od2 : Option Addr} {sl2 : Array (Option Value)} {x3 : Addr} {kV3 dc3 pm3 cd3 ct3 oc3 : Value} {an3 od3 : Option Addr} {sl3 : Array (Option Value)} {x4 : Addr} {kV4 dc4 pm4 cd4 ct4 oc4 : Value} {an4 od4 : Option Addr} {sl4 : Array (Option Value)} {x5 : Addr} {kV5 dc5 pm5 cd5 ct5 oc5 : Value} {an5 od5 : Option Addr} {sl5 : Array (Option Value)} {x6 : Addr} {kV6 dc6 pm6 cd6 ct6 oc6 : Value} {an6 od6 : Option Addr} {sl6 : Array (Option Value)} {x7 : Addr} {kV7 dc7 pm7 cd7 ct7 oc7 : Value} {an7 od7 : Option Addr} {sl7 : Array (Option Value)} {x8 : Addr} {kV8 dc8 pm8 cd8 ct8 oc8 : Value} {an8 od8 : Option Addr} {sl8 : Array (Option Value)} {x9 : Addr} {kV9 dc9 pm9 cd9 ct9 oc9 : Value} {an9 od9 : Option Addr} {sl9 : Array (Option Value)} {x10 : Addr} {kV10 dc10 pm10 cd10 ct10 oc10 : Value} {an10 od10 : Option Addr} {sl10 : Array (Option Value)} {x11 : Addr} {kV11 dc11 pm11 cd11 ct11 oc11 : Value} {an11 od11 : Option Addr} {sl11 : Array (Option Value)} {x12 : Addr} {kV12 dc12 pm12 cd12 ct12 oc12 : Value} {an12 od12 : Option Addr} {sl12 : Array (Option Value)} {x13 : Addr} {kV13 dc13 pm13 cd13 ct13 oc13 : Value} {an13 od13 : Option Addr} {sl13 : Array (Option Value)} {x14 : Addr} {kV14 dc14 pm14 cd14 ct14 oc14 : Value} {an14 od14 : Option Addr} {sl14 : Array (Option Value)} {x15 : Addr} {kV15 dc15 pm15 cd15 ct15 oc15 : Value} {an15 od15 : Option Addr} {sl15 : Array (Option Value)} {x16 : Addr} {kV16 dc16 pm16 cd16 ct16 oc16 : Value} {an16 od16 : Option Addr} {sl16 : Array (Option Value)} {x17 : Addr} {kV17 dc17 pm17 cd17 ct17 oc17 : Value} {an17 od17 : Option Addr} {sl17 : Array (Option Value)} {x18 : Addr} {kV18 dc18 pm18 cd18 ct18 oc18 : Value} {an18 od18 : Option Addr} {sl18 : Array (Option Value)} {x19 : Addr} {kV19 dc19 pm19 cd19 ct19 oc19 : Value} {an19 od19 : Option Addr} {sl19 : Array (Option Value)} {x20 : Addr} {kV20 dc20 pm20 cd20 ct20 oc20 : Value} {an20 od20 : Option Addr} {sl20 : Array (Option Value)} {x21 : Addr} {kV21 dc21 pm21 cd21 ct21 oc21 : Value} {an21 od21 : Option Addr} {sl21 : Array (Option Value)} {x22 : Addr} {kV22 dc22 pm22 cd22 ct22 oc22 : Value} {an22 od22 : Option Addr} {sl22 : Array (Option Value)} {x23 : Addr} {kV23 dc23 pm23 cd23 ct23 oc23 : Value} {an23 od23 : Option Addr} {sl23 : Array (Option Value)} {x24 : Addr} {kV24 dc24 pm24 cd24 ct24 oc24 : Value} {an24 od24 : Option Addr} {sl24 : Array (Option Value)} {x25 : Addr} {kV25 dc25 pm25 cd25 ct25 oc25 : Value} {an25 od25 : Option Addr} {sl25 : Array (Option Value)} {x26 : Addr} {kV26 dc26 pm26 cd26 ct26 oc26 : Value} {an26 od26 : Option Addr} {sl26 : Array (Option Value)} {x27 : Addr} {kV27 dc27 pm27 cd27 ct27 oc27 : Value} {an27 od27 : Option Addr} {sl27 : Array (Option Value)} {x28 : Addr} {kV28 dc28 pm28 cd28 ct28 oc28 : Value} {an28 od28 : Option Addr} {sl28 : Array (Option Value)} {x29 : Addr} {kV29 dc29 pm29 cd29 ct29 oc29 : Value} {an29 od29 : Option Addr} {sl29 : Array (Option Value)} {x30 : Addr} {kV30 dc30 pm30 cd30 ct30 oc30 : Value} {an30 od30 : Option Addr} {sl30 : Array (Option Value)} {x31 : Addr} {kV31 dc31 pm31 cd31 ct31 oc31 : Value} {an31 od31 : Option Addr} {sl31 : Array (Option Value)} {x32 : Addr} {kV32 dc32 pm32 cd32 ct32 oc32 : Value} {an32 od32 : Option Addr} {sl32 : Array (Option Value)} {x33 : Addr} {kV33 dc33 pm33 cd33 ct33 oc33 : Value} {an33 od33 : Option Addr} {sl33 : Array (Option Value)} {x34 : Addr} {kV34 dc34 pm34 cd34 ct34 oc34 : Value} {an34 od34 : Option Addr} {sl34 : Array (Option Value)} {x35 : Addr} {kV35 dc35 pm35 cd35 ct35 oc35 : Value} {an35 od35 : Option Addr} {sl35 : Array (Option Value)} {x36 : Addr} {kV36 dc36 pm36 cd36 ct36 oc36 : Value} {an36 od36 : Option Addr} {sl36 : Array (Option Value)} {x37 : Addr} {kV37 dc37 pm37 cd37 ct37 oc37 : Value} {an37 od37 : Option Addr} {sl37 : Array (Option Value)} {cdt6 : ClassData} {cdt5 : ClassData} {cdt4 : ClassData} {cdt7 : ClassData} {cdt8 : ClassData} {cdt3 : ClassData} {t_LETTERS : Tok} {t_LONGEST : Tok} {t_MOST_SENSES : Tok} {t_MOST_WORDS : Tok} {t_MOST_ENTRIES : Tok}
    (cl0 : PySem.W.nsIn K mainGlobals "WordError" = some (some (.ref C0)))
    (cl1 : PySem.W.nsIn K mainGlobals "BadWord" = some (some (.ref C1)))
    (cl2 : PySem.W.nsIn K mainGlobals "BadBook" = some (some (.ref C2)))
    (cl3 : PySem.W.nsIn K mainGlobals "Answer" = some (some (.ref C3)))
    (cl4 : PySem.W.nsIn K mainGlobals "Head" = some (some (.ref C4)))
    (cl5 : PySem.W.nsIn K mainGlobals "Lost" = some (some (.ref C5)))
    (cl6 : PySem.W.nsIn K mainGlobals "Ring" = some (some (.ref C6)))
    (cl7 : PySem.W.nsIn K mainGlobals "Grasped" = some (some (.ref C7)))
    (cl8 : PySem.W.nsIn K mainGlobals "Dark" = some (some (.ref C8)))
    (a0 : PySem.W.nsIn K mainGlobals "is_text" = some (some (.ref x0)))
    (l0 : K.lookup x0 = some ⟨oc0, od0, .func (PySem.W.fnOf "is_text" "is_text" (L2.defArgs s_is_text) (L2.defBody s_is_text) (L2.defScope s_is_text) .none kV0 dc0 pm0 an0 cd0 ct0), sl0⟩)
    (c0 : PySem.W.codeIn K cd0 "is_text" = true)
    (k0 : PySem.W.keepIn K (.ref x0) = true)
    (a1 : PySem.W.nsIn K mainGlobals "is_word" = some (some (.ref x1)))
    (l1 : K.lookup x1 = some ⟨oc1, od1, .func (PySem.W.fnOf "is_word" "is_word" (L2.defArgs s_is_word) (L2.defBody s_is_word) (L2.defScope s_is_word) .none kV1 dc1 pm1 an1 cd1 ct1), sl1⟩)
    (c1 : PySem.W.codeIn K cd1 "is_word" = true)
    (k1 : PySem.W.keepIn K (.ref x1) = true)
    (a2 : PySem.W.nsIn K mainGlobals "is_sense" = some (some (.ref x2)))
    (l2 : K.lookup x2 = some ⟨oc2, od2, .func (PySem.W.fnOf "is_sense" "is_sense" (L2.defArgs s_is_sense) (L2.defBody s_is_sense) (L2.defScope s_is_sense) .none kV2 dc2 pm2 an2 cd2 ct2), sl2⟩)
    (c2 : PySem.W.codeIn K cd2 "is_sense" = true)
    (k2 : PySem.W.keepIn K (.ref x2) = true)
    (a3 : PySem.W.nsIn K mainGlobals "is_entry" = some (some (.ref x3)))
    (l3 : K.lookup x3 = some ⟨oc3, od3, .func (PySem.W.fnOf "is_entry" "is_entry" (L2.defArgs s_is_entry) (L2.defBody s_is_entry) (L2.defScope s_is_entry) .none kV3 dc3 pm3 an3 cd3 ct3), sl3⟩)
    (c3 : PySem.W.codeIn K cd3 "is_entry" = true)
    (k3 : PySem.W.keepIn K (.ref x3) = true)
    (a4 : PySem.W.nsIn K mainGlobals "are_rising" = some (some (.ref x4)))
    (l4 : K.lookup x4 = some ⟨oc4, od4, .func (PySem.W.fnOf "are_rising" "are_rising" (L2.defArgs s_are_rising) (L2.defBody s_are_rising) (L2.defScope s_are_rising) .none kV4 dc4 pm4 an4 cd4 ct4), sl4⟩)
    (c4 : PySem.W.codeIn K cd4 "are_rising" = true)
    (k4 : PySem.W.keepIn K (.ref x4) = true)
    (a5 : PySem.W.nsIn K mainGlobals "check_book" = some (some (.ref x5)))
    (l5 : K.lookup x5 = some ⟨oc5, od5, .func (PySem.W.fnOf "check_book" "check_book" (L2.defArgs s_check_book) (L2.defBody s_check_book) (L2.defScope s_check_book) .none kV5 dc5 pm5 an5 cd5 ct5), sl5⟩)
    (c5 : PySem.W.codeIn K cd5 "check_book" = true)
    (k5 : PySem.W.keepIn K (.ref x5) = true)
    (a6 : PySem.W.nsIn K mainGlobals "check_word" = some (some (.ref x6)))
    (l6 : K.lookup x6 = some ⟨oc6, od6, .func (PySem.W.fnOf "check_word" "check_word" (L2.defArgs s_check_word) (L2.defBody s_check_word) (L2.defScope s_check_word) .none kV6 dc6 pm6 an6 cd6 ct6), sl6⟩)
    (c6 : PySem.W.codeIn K cd6 "check_word" = true)
    (k6 : PySem.W.keepIn K (.ref x6) = true)
    (a7 : PySem.W.nsIn K mainGlobals "known_by" = some (some (.ref x7)))
    (l7 : K.lookup x7 = some ⟨oc7, od7, .func (PySem.W.fnOf "known_by" "known_by" (L2.defArgs s_known_by) (L2.defBody s_known_by) (L2.defScope s_known_by) .none kV7 dc7 pm7 an7 cd7 ct7), sl7⟩)
    (c7 : PySem.W.codeIn K cd7 "known_by" = true)
    (k7 : PySem.W.keepIn K (.ref x7) = true)
    (a8 : PySem.W.nsIn K mainGlobals "is_led" = some (some (.ref x8)))
    (l8 : K.lookup x8 = some ⟨oc8, od8, .func (PySem.W.fnOf "is_led" "is_led" (L2.defArgs s_is_led) (L2.defBody s_is_led) (L2.defScope s_is_led) .none kV8 dc8 pm8 an8 cd8 ct8), sl8⟩)
    (c8 : PySem.W.codeIn K cd8 "is_led" = true)
    (k8 : PySem.W.keepIn K (.ref x8) = true)
    (a9 : PySem.W.findIn K (.ref C4) "__init__" = some (some (.ref x9)))
    (l9 : K.lookup x9 = some ⟨oc9, od9, .func (PySem.W.fnOf "__init__" "Head.__init__" (L2.defArgs s_Head___init__) (L2.defBody s_Head___init__) (L2.defScope s_Head___init__) .none kV9 dc9 pm9 an9 cd9 ct9), sl9⟩)
    (c9 : PySem.W.codeIn K cd9 "Head.__init__" = true)
    (k9 : PySem.W.keepIn K (.ref x9) = true)
    (a10 : PySem.W.findIn K (.ref C4) "shows" = some (some (.ref x10)))
    (l10 : K.lookup x10 = some ⟨oc10, od10, .func (PySem.W.fnOf "shows" "Head.shows" (L2.defArgs s_Head_shows) (L2.defBody s_Head_shows) (L2.defScope s_Head_shows) .none kV10 dc10 pm10 an10 cd10 ct10), sl10⟩)
    (c10 : PySem.W.codeIn K cd10 "Head.shows" = true)
    (k10 : PySem.W.keepIn K (.ref x10) = true)
    (a11 : PySem.W.findIn K (.ref C5) "__init__" = some (some (.ref x11)))
    (l11 : K.lookup x11 = some ⟨oc11, od11, .func (PySem.W.fnOf "__init__" "Lost.__init__" (L2.defArgs s_Lost___init__) (L2.defBody s_Lost___init__) (L2.defScope s_Lost___init__) .none kV11 dc11 pm11 an11 cd11 ct11), sl11⟩)
    (c11 : PySem.W.codeIn K cd11 "Lost.__init__" = true)
    (k11 : PySem.W.keepIn K (.ref x11) = true)
    (a12 : PySem.W.findIn K (.ref C5) "shows" = some (some (.ref x12)))
    (l12 : K.lookup x12 = some ⟨oc12, od12, .func (PySem.W.fnOf "shows" "Lost.shows" (L2.defArgs s_Lost_shows) (L2.defBody s_Lost_shows) (L2.defScope s_Lost_shows) .none kV12 dc12 pm12 an12 cd12 ct12), sl12⟩)
    (c12 : PySem.W.codeIn K cd12 "Lost.shows" = true)
    (k12 : PySem.W.keepIn K (.ref x12) = true)
    (a13 : PySem.W.findIn K (.ref C6) "__init__" = some (some (.ref x13)))
    (l13 : K.lookup x13 = some ⟨oc13, od13, .func (PySem.W.fnOf "__init__" "Ring.__init__" (L2.defArgs s_Ring___init__) (L2.defBody s_Ring___init__) (L2.defScope s_Ring___init__) .none kV13 dc13 pm13 an13 cd13 ct13), sl13⟩)
    (c13 : PySem.W.codeIn K cd13 "Ring.__init__" = true)
    (k13 : PySem.W.keepIn K (.ref x13) = true)
    (a14 : PySem.W.findIn K (.ref C6) "shows" = some (some (.ref x14)))
    (l14 : K.lookup x14 = some ⟨oc14, od14, .func (PySem.W.fnOf "shows" "Ring.shows" (L2.defArgs s_Ring_shows) (L2.defBody s_Ring_shows) (L2.defScope s_Ring_shows) .none kV14 dc14 pm14 an14 cd14 ct14), sl14⟩)
    (c14 : PySem.W.codeIn K cd14 "Ring.shows" = true)
    (k14 : PySem.W.keepIn K (.ref x14) = true)
    (a15 : PySem.W.nsIn K mainGlobals "is_told_by" = some (some (.ref x15)))
    (l15 : K.lookup x15 = some ⟨oc15, od15, .func (PySem.W.fnOf "is_told_by" "is_told_by" (L2.defArgs s_is_told_by) (L2.defBody s_is_told_by) (L2.defScope s_is_told_by) .none kV15 dc15 pm15 an15 cd15 ct15), sl15⟩)
    (c15 : PySem.W.codeIn K cd15 "is_told_by" = true)
    (k15 : PySem.W.keepIn K (.ref x15) = true)
    (a16 : PySem.W.findIn K (.ref C7) "__init__" = some (some (.ref x16)))
    (l16 : K.lookup x16 = some ⟨oc16, od16, .func (PySem.W.fnOf "__init__" "Grasped.__init__" (L2.defArgs s_Grasped___init__) (L2.defBody s_Grasped___init__) (L2.defScope s_Grasped___init__) .none kV16 dc16 pm16 an16 cd16 ct16), sl16⟩)
    (c16 : PySem.W.codeIn K cd16 "Grasped.__init__" = true)
    (k16 : PySem.W.keepIn K (.ref x16) = true)
    (a17 : PySem.W.findIn K (.ref C7) "shows" = some (some (.ref x17)))
    (l17 : K.lookup x17 = some ⟨oc17, od17, .func (PySem.W.fnOf "shows" "Grasped.shows" (L2.defArgs s_Grasped_shows) (L2.defBody s_Grasped_shows) (L2.defScope s_Grasped_shows) .none kV17 dc17 pm17 an17 cd17 ct17), sl17⟩)
    (c17 : PySem.W.codeIn K cd17 "Grasped.shows" = true)
    (k17 : PySem.W.keepIn K (.ref x17) = true)
    (a18 : PySem.W.findIn K (.ref C8) "__init__" = some (some (.ref x18)))
    (l18 : K.lookup x18 = some ⟨oc18, od18, .func (PySem.W.fnOf "__init__" "Dark.__init__" (L2.defArgs s_Dark___init__) (L2.defBody s_Dark___init__) (L2.defScope s_Dark___init__) .none kV18 dc18 pm18 an18 cd18 ct18), sl18⟩)
    (c18 : PySem.W.codeIn K cd18 "Dark.__init__" = true)
    (k18 : PySem.W.keepIn K (.ref x18) = true)
    (a19 : PySem.W.findIn K (.ref C8) "shows" = some (some (.ref x19)))
    (l19 : K.lookup x19 = some ⟨oc19, od19, .func (PySem.W.fnOf "shows" "Dark.shows" (L2.defArgs s_Dark_shows) (L2.defBody s_Dark_shows) (L2.defScope s_Dark_shows) .none kV19 dc19 pm19 an19 cd19 ct19), sl19⟩)
    (c19 : PySem.W.codeIn K cd19 "Dark.shows" = true)
    (k19 : PySem.W.keepIn K (.ref x19) = true)
    (a20 : PySem.W.nsIn K mainGlobals "looked_of" = some (some (.ref x20)))
    (l20 : K.lookup x20 = some ⟨oc20, od20, .func (PySem.W.fnOf "looked_of" "looked_of" (L2.defArgs s_looked_of) (L2.defBody s_looked_of) (L2.defScope s_looked_of) .none kV20 dc20 pm20 an20 cd20 ct20), sl20⟩)
    (c20 : PySem.W.codeIn K cd20 "looked_of" = true)
    (k20 : PySem.W.keepIn K (.ref x20) = true)
    (a21 : PySem.W.nsIn K mainGlobals "looked" = some (some (.ref x21)))
    (l21 : K.lookup x21 = some ⟨oc21, od21, .func (PySem.W.fnOf "looked" "looked" (L2.defArgs s_looked) (L2.defBody s_looked) (L2.defScope s_looked) .none kV21 dc21 pm21 an21 cd21 ct21), sl21⟩)
    (c21 : PySem.W.codeIn K cd21 "looked" = true)
    (k21 : PySem.W.keepIn K (.ref x21) = true)
    (a22 : PySem.W.nsIn K mainGlobals "_law_cell_at" = some (some (.ref x22)))
    (l22 : K.lookup x22 = some ⟨oc22, od22, .func (PySem.W.fnOf "_law_cell_at" "_law_cell_at" (L2.defArgs s__law_cell_at) (L2.defBody s__law_cell_at) (L2.defScope s__law_cell_at) .none kV22 dc22 pm22 an22 cd22 ct22), sl22⟩)
    (c22 : PySem.W.codeIn K cd22 "_law_cell_at" = true)
    (k22 : PySem.W.keepIn K (.ref x22) = true)
    (a23 : PySem.W.nsIn K mainGlobals "_law_draw" = some (some (.ref x23)))
    (l23 : K.lookup x23 = some ⟨oc23, od23, .func (PySem.W.fnOf "_law_draw" "_law_draw" (L2.defArgs s__law_draw) (L2.defBody s__law_draw) (L2.defScope s__law_draw) .none kV23 dc23 pm23 an23 cd23 ct23), sl23⟩)
    (c23 : PySem.W.codeIn K cd23 "_law_draw" = true)
    (k23 : PySem.W.keepIn K (.ref x23) = true)
    (a24 : PySem.W.nsIn K mainGlobals "_law_number" = some (some (.ref x24)))
    (l24 : K.lookup x24 = some ⟨oc24, od24, .func (PySem.W.fnOf "_law_number" "_law_number" (L2.defArgs s__law_number) (L2.defBody s__law_number) (L2.defScope s__law_number) .none kV24 dc24 pm24 an24 cd24 ct24), sl24⟩)
    (c24 : PySem.W.codeIn K cd24 "_law_number" = true)
    (k24 : PySem.W.keepIn K (.ref x24) = true)
    (a25 : PySem.W.nsIn K mainGlobals "_law_word" = some (some (.ref x25)))
    (l25 : K.lookup x25 = some ⟨oc25, od25, .func (PySem.W.fnOf "_law_word" "_law_word" (L2.defArgs s__law_word) (L2.defBody s__law_word) (L2.defScope s__law_word) .none kV25 dc25 pm25 an25 cd25 ct25), sl25⟩)
    (c25 : PySem.W.codeIn K cd25 "_law_word" = true)
    (k25 : PySem.W.keepIn K (.ref x25) = true)
    (a26 : PySem.W.nsIn K mainGlobals "_law_words" = some (some (.ref x26)))
    (l26 : K.lookup x26 = some ⟨oc26, od26, .func (PySem.W.fnOf "_law_words" "_law_words" (L2.defArgs s__law_words) (L2.defBody s__law_words) (L2.defScope s__law_words) .none kV26 dc26 pm26 an26 cd26 ct26), sl26⟩)
    (c26 : PySem.W.codeIn K cd26 "_law_words" = true)
    (k26 : PySem.W.keepIn K (.ref x26) = true)
    (a27 : PySem.W.nsIn K mainGlobals "_law_senses" = some (some (.ref x27)))
    (l27 : K.lookup x27 = some ⟨oc27, od27, .func (PySem.W.fnOf "_law_senses" "_law_senses" (L2.defArgs s__law_senses) (L2.defBody s__law_senses) (L2.defScope s__law_senses) .none kV27 dc27 pm27 an27 cd27 ct27), sl27⟩)
    (c27 : PySem.W.codeIn K cd27 "_law_senses" = true)
    (k27 : PySem.W.keepIn K (.ref x27) = true)
    (a28 : PySem.W.nsIn K mainGlobals "_law_book" = some (some (.ref x28)))
    (l28 : K.lookup x28 = some ⟨oc28, od28, .func (PySem.W.fnOf "_law_book" "_law_book" (L2.defArgs s__law_book) (L2.defBody s__law_book) (L2.defScope s__law_book) .none kV28 dc28 pm28 an28 cd28 ct28), sl28⟩)
    (c28 : PySem.W.codeIn K cd28 "_law_book" = true)
    (k28 : PySem.W.keepIn K (.ref x28) = true)
    (a29 : PySem.W.nsIn K mainGlobals "_law_named" = some (some (.ref x29)))
    (l29 : K.lookup x29 = some ⟨oc29, od29, .func (PySem.W.fnOf "_law_named" "_law_named" (L2.defArgs s__law_named) (L2.defBody s__law_named) (L2.defScope s__law_named) .none kV29 dc29 pm29 an29 cd29 ct29), sl29⟩)
    (c29 : PySem.W.codeIn K cd29 "_law_named" = true)
    (k29 : PySem.W.keepIn K (.ref x29) = true)
    (a30 : PySem.W.nsIn K mainGlobals "_law_entry" = some (some (.ref x30)))
    (l30 : K.lookup x30 = some ⟨oc30, od30, .func (PySem.W.fnOf "_law_entry" "_law_entry" (L2.defArgs s__law_entry) (L2.defBody s__law_entry) (L2.defScope s__law_entry) .none kV30 dc30 pm30 an30 cd30 ct30), sl30⟩)
    (c30 : PySem.W.codeIn K cd30 "_law_entry" = true)
    (k30 : PySem.W.keepIn K (.ref x30) = true)
    (a31 : PySem.W.nsIn K mainGlobals "_law_copied" = some (some (.ref x31)))
    (l31 : K.lookup x31 = some ⟨oc31, od31, .func (PySem.W.fnOf "_law_copied" "_law_copied" (L2.defArgs s__law_copied) (L2.defBody s__law_copied) (L2.defScope s__law_copied) .none kV31 dc31 pm31 an31 cd31 ct31), sl31⟩)
    (c31 : PySem.W.codeIn K cd31 "_law_copied" = true)
    (k31 : PySem.W.keepIn K (.ref x31) = true)
    (a32 : PySem.W.nsIn K mainGlobals "_law_way" = some (some (.ref x32)))
    (l32 : K.lookup x32 = some ⟨oc32, od32, .func (PySem.W.fnOf "_law_way" "_law_way" (L2.defArgs s__law_way) (L2.defBody s__law_way) (L2.defScope s__law_way) .none kV32 dc32 pm32 an32 cd32 ct32), sl32⟩)
    (c32 : PySem.W.codeIn K cd32 "_law_way" = true)
    (k32 : PySem.W.keepIn K (.ref x32) = true)
    (a33 : PySem.W.nsIn K mainGlobals "_law_whole" = some (some (.ref x33)))
    (l33 : K.lookup x33 = some ⟨oc33, od33, .func (PySem.W.fnOf "_law_whole" "_law_whole" (L2.defArgs s__law_whole) (L2.defBody s__law_whole) (L2.defScope s__law_whole) .none kV33 dc33 pm33 an33 cd33 ct33), sl33⟩)
    (c33 : PySem.W.codeIn K cd33 "_law_whole" = true)
    (k33 : PySem.W.keepIn K (.ref x33) = true)
    (a34 : PySem.W.nsIn K mainGlobals "_law_says" = some (some (.ref x34)))
    (l34 : K.lookup x34 = some ⟨oc34, od34, .func (PySem.W.fnOf "_law_says" "_law_says" (L2.defArgs s__law_says) (L2.defBody s__law_says) (L2.defScope s__law_says) .none kV34 dc34 pm34 an34 cd34 ct34), sl34⟩)
    (c34 : PySem.W.codeIn K cd34 "_law_says" = true)
    (k34 : PySem.W.keepIn K (.ref x34) = true)
    (a35 : PySem.W.nsIn K mainGlobals "_law_due" = some (some (.ref x35)))
    (l35 : K.lookup x35 = some ⟨oc35, od35, .func (PySem.W.fnOf "_law_due" "_law_due" (L2.defArgs s__law_due) (L2.defBody s__law_due) (L2.defScope s__law_due) .none kV35 dc35 pm35 an35 cd35 ct35), sl35⟩)
    (c35 : PySem.W.codeIn K cd35 "_law_due" = true)
    (k35 : PySem.W.keepIn K (.ref x35) = true)
    (a36 : PySem.W.nsIn K mainGlobals "_law_right" = some (some (.ref x36)))
    (l36 : K.lookup x36 = some ⟨oc36, od36, .func (PySem.W.fnOf "_law_right" "_law_right" (L2.defArgs s__law_right) (L2.defBody s__law_right) (L2.defScope s__law_right) .none kV36 dc36 pm36 an36 cd36 ct36), sl36⟩)
    (c36 : PySem.W.codeIn K cd36 "_law_right" = true)
    (k36 : PySem.W.keepIn K (.ref x36) = true)
    (a37 : PySem.W.nsIn K mainGlobals "law" = some (some (.ref x37)))
    (l37 : K.lookup x37 = some ⟨oc37, od37, .func (PySem.W.fnOf "law" "law" (L2.defArgs s_law) (L2.defBody s_law) (L2.defScope s_law) .none kV37 dc37 pm37 an37 cd37 ct37), sl37⟩)
    (c37 : PySem.W.codeIn K cd37 "law" = true)
    (k37 : PySem.W.keepIn K (.ref x37) = true)
    (fm9 : PySem.W.isFn K (.ref x9) = true)
    (fm10 : PySem.W.isFn K (.ref x10) = true)
    (fm11 : PySem.W.isFn K (.ref x11) = true)
    (fm12 : PySem.W.isFn K (.ref x12) = true)
    (fm13 : PySem.W.isFn K (.ref x13) = true)
    (fm14 : PySem.W.isFn K (.ref x14) = true)
    (fm16 : PySem.W.isFn K (.ref x16) = true)
    (fm17 : PySem.W.isFn K (.ref x17) = true)
    (fm18 : PySem.W.isFn K (.ref x18) = true)
    (fm19 : PySem.W.isFn K (.ref x19) = true)
    (pg4 : PySem.W.plainGet K C4 Str.empty = true)
    (hd4 : PySem.W.hasDictIn K C4 = true)
    (po4 : PySem.W.plainOver K C4 = true)
    (sa4 : PySem.W.findIn K (.ref C4) "__setattr__" = some (some (.builtin "object.__setattr__")))
    (pg5 : PySem.W.plainGet K C5 Str.empty = true)
    (hd5 : PySem.W.hasDictIn K C5 = true)
    (po5 : PySem.W.plainOver K C5 = true)
    (sa5 : PySem.W.findIn K (.ref C5) "__setattr__" = some (some (.builtin "object.__setattr__")))
    (pg6 : PySem.W.plainGet K C6 Str.empty = true)
    (hd6 : PySem.W.hasDictIn K C6 = true)
    (po6 : PySem.W.plainOver K C6 = true)
    (sa6 : PySem.W.findIn K (.ref C6) "__setattr__" = some (some (.builtin "object.__setattr__")))
    (pg7 : PySem.W.plainGet K C7 Str.empty = true)
    (hd7 : PySem.W.hasDictIn K C7 = true)
    (po7 : PySem.W.plainOver K C7 = true)
    (sa7 : PySem.W.findIn K (.ref C7) "__setattr__" = some (some (.builtin "object.__setattr__")))
    (pg8 : PySem.W.plainGet K C8 Str.empty = true)
    (hd8 : PySem.W.hasDictIn K C8 = true)
    (po8 : PySem.W.plainOver K C8 = true)
    (sa8 : PySem.W.findIn K (.ref C8) "__setattr__" = some (some (.builtin "object.__setattr__")))
    (mk4 : PySem.W.makesIn K C4 = true)
    (kc4 : PySem.W.keepIn K (.ref C4) = true)
    (ha4 : PySem.W.findIn K (.ref C4) "__class__" = some (some (.builtin "object.__class__")))
    (hm4 : PySem.W.mroIn K C4 (.type "object") = some true)
    (nf4_0 : PySem.W.findIn K (.ref C4) "way" = some none)
    (nf4_1 : PySem.W.findIn K (.ref C4) "place" = some none)
    (nf4_2 : PySem.W.findIn K (.ref C4) "order" = some none)
    (nf4_3 : PySem.W.findIn K (.ref C4) "words" = some none)
    (mk5 : PySem.W.makesIn K C5 = true)
    (kc5 : PySem.W.keepIn K (.ref C5) = true)
    (ha5 : PySem.W.findIn K (.ref C5) "__class__" = some (some (.builtin "object.__class__")))
    (hm5 : PySem.W.mroIn K C5 (.type "object") = some true)
    (nf5_0 : PySem.W.findIn K (.ref C5) "way" = some none)
    (nf5_1 : PySem.W.findIn K (.ref C5) "place" = some none)
    (nf5_2 : PySem.W.findIn K (.ref C5) "order" = some none)
    (nf5_3 : PySem.W.findIn K (.ref C5) "words" = some none)
    (mk6 : PySem.W.makesIn K C6 = true)
    (kc6 : PySem.W.keepIn K (.ref C6) = true)
    (ha6 : PySem.W.findIn K (.ref C6) "__class__" = some (some (.builtin "object.__class__")))
    (hm6 : PySem.W.mroIn K C6 (.type "object") = some true)
    (nf6_0 : PySem.W.findIn K (.ref C6) "way" = some none)
    (nf6_1 : PySem.W.findIn K (.ref C6) "place" = some none)
    (nf6_2 : PySem.W.findIn K (.ref C6) "order" = some none)
    (nf6_3 : PySem.W.findIn K (.ref C6) "words" = some none)
    (mk7 : PySem.W.makesIn K C7 = true)
    (kc7 : PySem.W.keepIn K (.ref C7) = true)
    (ha7 : PySem.W.findIn K (.ref C7) "__class__" = some (some (.builtin "object.__class__")))
    (hm7 : PySem.W.mroIn K C7 (.type "object") = some true)
    (nf7_0 : PySem.W.findIn K (.ref C7) "way" = some none)
    (nf7_1 : PySem.W.findIn K (.ref C7) "place" = some none)
    (nf7_2 : PySem.W.findIn K (.ref C7) "order" = some none)
    (nf7_3 : PySem.W.findIn K (.ref C7) "words" = some none)
    (mk8 : PySem.W.makesIn K C8 = true)
    (kc8 : PySem.W.keepIn K (.ref C8) = true)
    (ha8 : PySem.W.findIn K (.ref C8) "__class__" = some (some (.builtin "object.__class__")))
    (hm8 : PySem.W.mroIn K C8 (.type "object") = some true)
    (nf8_0 : PySem.W.findIn K (.ref C8) "way" = some none)
    (nf8_1 : PySem.W.findIn K (.ref C8) "place" = some none)
    (nf8_2 : PySem.W.findIn K (.ref C8) "order" = some none)
    (nf8_3 : PySem.W.findIn K (.ref C8) "words" = some none)
    (hn : PySem.W.specialIn K (.builtin "object.__class__") "__get__" = some (some (.builtin "getset_descriptor.__get__")))
    (ht : PySem.W.takesIn K (.builtin "object.__class__") = some true)
    (ki6 : PySem.W.clsIn K C6 = some cdt6)
    (kty6 : PySem.W.typeIn K (.ref C6) = some (.type "type"))
    (kse6 : PySem.W.subIn K (.ref C6) (.ref C6) = some true)
    (kt6_NoneType : PySem.W.subIn K (.type "NoneType") (.ref C6) = some false)
    (kt6_bool : PySem.W.subIn K (.type "bool") (.ref C6) = some false)
    (kt6_int : PySem.W.subIn K (.type "int") (.ref C6) = some false)
    (kt6_str : PySem.W.subIn K (.type "str") (.ref C6) = some false)
    (kt6_list : PySem.W.subIn K (.type "list") (.ref C6) = some false)
    (kt6_tuple : PySem.W.subIn K (.type "tuple") (.ref C6) = some false)
    (kt6_dict : PySem.W.subIn K (.type "dict") (.ref C6) = some false)
    (ko6_4 : PySem.W.subIn K (.ref C4) (.ref C6) = some false)
    (ko6_5 : PySem.W.subIn K (.ref C5) (.ref C6) = some false)
    (ko6_6 : PySem.W.subIn K (.ref C6) (.ref C6) = some true)
    (ko6_7 : PySem.W.subIn K (.ref C7) (.ref C6) = some false)
    (ko6_8 : PySem.W.subIn K (.ref C8) (.ref C6) = some false)
    (kbstr_4 : PySem.W.subIn K (.ref C4) (.type "str") = some false)
    (kbstr_5 : PySem.W.subIn K (.ref C5) (.type "str") = some false)
    (kbstr_6 : PySem.W.subIn K (.ref C6) (.type "str") = some false)
    (kbstr_7 : PySem.W.subIn K (.ref C7) (.type "str") = some false)
    (kbstr_8 : PySem.W.subIn K (.ref C8) (.type "str") = some false)
    (kblist_4 : PySem.W.subIn K (.ref C4) (.type "list") = some false)
    (kblist_5 : PySem.W.subIn K (.ref C5) (.type "list") = some false)
    (kblist_6 : PySem.W.subIn K (.ref C6) (.type "list") = some false)
    (kblist_7 : PySem.W.subIn K (.ref C7) (.type "list") = some false)
    (kblist_8 : PySem.W.subIn K (.ref C8) (.type "list") = some false)
    (kbint_4 : PySem.W.subIn K (.ref C4) (.type "int") = some false)
    (kbint_5 : PySem.W.subIn K (.ref C5) (.type "int") = some false)
    (kbint_6 : PySem.W.subIn K (.ref C6) (.type "int") = some false)
    (kbint_7 : PySem.W.subIn K (.ref C7) (.type "int") = some false)
    (kbint_8 : PySem.W.subIn K (.ref C8) (.type "int") = some false)
    (kbbool_4 : PySem.W.subIn K (.ref C4) (.type "bool") = some false)
    (kbbool_5 : PySem.W.subIn K (.ref C5) (.type "bool") = some false)
    (kbbool_6 : PySem.W.subIn K (.ref C6) (.type "bool") = some false)
    (kbbool_7 : PySem.W.subIn K (.ref C7) (.type "bool") = some false)
    (kbbool_8 : PySem.W.subIn K (.ref C8) (.type "bool") = some false)
    (ki5 : PySem.W.clsIn K C5 = some cdt5)
    (kty5 : PySem.W.typeIn K (.ref C5) = some (.type "type"))
    (kse5 : PySem.W.subIn K (.ref C5) (.ref C5) = some true)
    (kt5_NoneType : PySem.W.subIn K (.type "NoneType") (.ref C5) = some false)
    (kt5_bool : PySem.W.subIn K (.type "bool") (.ref C5) = some false)
    (kt5_int : PySem.W.subIn K (.type "int") (.ref C5) = some false)
    (kt5_str : PySem.W.subIn K (.type "str") (.ref C5) = some false)
    (kt5_list : PySem.W.subIn K (.type "list") (.ref C5) = some false)
    (kt5_tuple : PySem.W.subIn K (.type "tuple") (.ref C5) = some false)
    (kt5_dict : PySem.W.subIn K (.type "dict") (.ref C5) = some false)
    (ko5_4 : PySem.W.subIn K (.ref C4) (.ref C5) = some false)
    (ko5_5 : PySem.W.subIn K (.ref C5) (.ref C5) = some true)
    (ko5_6 : PySem.W.subIn K (.ref C6) (.ref C5) = some false)
    (ko5_7 : PySem.W.subIn K (.ref C7) (.ref C5) = some false)
    (ko5_8 : PySem.W.subIn K (.ref C8) (.ref C5) = some false)
    (kbtuple_4 : PySem.W.subIn K (.ref C4) (.type "tuple") = some false)
    (kbtuple_5 : PySem.W.subIn K (.ref C5) (.type "tuple") = some false)
    (kbtuple_6 : PySem.W.subIn K (.ref C6) (.type "tuple") = some false)
    (kbtuple_7 : PySem.W.subIn K (.ref C7) (.type "tuple") = some false)
    (kbtuple_8 : PySem.W.subIn K (.ref C8) (.type "tuple") = some false)
    (ki4 : PySem.W.clsIn K C4 = some cdt4)
    (kty4 : PySem.W.typeIn K (.ref C4) = some (.type "type"))
    (kse4 : PySem.W.subIn K (.ref C4) (.ref C4) = some true)
    (kt4_NoneType : PySem.W.subIn K (.type "NoneType") (.ref C4) = some false)
    (kt4_bool : PySem.W.subIn K (.type "bool") (.ref C4) = some false)
    (kt4_int : PySem.W.subIn K (.type "int") (.ref C4) = some false)
    (kt4_str : PySem.W.subIn K (.type "str") (.ref C4) = some false)
    (kt4_list : PySem.W.subIn K (.type "list") (.ref C4) = some false)
    (kt4_tuple : PySem.W.subIn K (.type "tuple") (.ref C4) = some false)
    (kt4_dict : PySem.W.subIn K (.type "dict") (.ref C4) = some false)
    (ko4_4 : PySem.W.subIn K (.ref C4) (.ref C4) = some true)
    (ko4_5 : PySem.W.subIn K (.ref C5) (.ref C4) = some false)
    (ko4_6 : PySem.W.subIn K (.ref C6) (.ref C4) = some false)
    (ko4_7 : PySem.W.subIn K (.ref C7) (.ref C4) = some false)
    (ko4_8 : PySem.W.subIn K (.ref C8) (.ref C4) = some false)
    (ki7 : PySem.W.clsIn K C7 = some cdt7)
    (kty7 : PySem.W.typeIn K (.ref C7) = some (.type "type"))
    (kse7 : PySem.W.subIn K (.ref C7) (.ref C7) = some true)
    (kt7_NoneType : PySem.W.subIn K (.type "NoneType") (.ref C7) = some false)
    (kt7_bool : PySem.W.subIn K (.type "bool") (.ref C7) = some false)
    (kt7_int : PySem.W.subIn K (.type "int") (.ref C7) = some false)
    (kt7_str : PySem.W.subIn K (.type "str") (.ref C7) = some false)
    (kt7_list : PySem.W.subIn K (.type "list") (.ref C7) = some false)
    (kt7_tuple : PySem.W.subIn K (.type "tuple") (.ref C7) = some false)
    (kt7_dict : PySem.W.subIn K (.type "dict") (.ref C7) = some false)
    (ko7_4 : PySem.W.subIn K (.ref C4) (.ref C7) = some false)
    (ko7_5 : PySem.W.subIn K (.ref C5) (.ref C7) = some false)
    (ko7_6 : PySem.W.subIn K (.ref C6) (.ref C7) = some false)
    (ko7_7 : PySem.W.subIn K (.ref C7) (.ref C7) = some true)
    (ko7_8 : PySem.W.subIn K (.ref C8) (.ref C7) = some false)
    (ki8 : PySem.W.clsIn K C8 = some cdt8)
    (kty8 : PySem.W.typeIn K (.ref C8) = some (.type "type"))
    (kse8 : PySem.W.subIn K (.ref C8) (.ref C8) = some true)
    (kt8_NoneType : PySem.W.subIn K (.type "NoneType") (.ref C8) = some false)
    (kt8_bool : PySem.W.subIn K (.type "bool") (.ref C8) = some false)
    (kt8_int : PySem.W.subIn K (.type "int") (.ref C8) = some false)
    (kt8_str : PySem.W.subIn K (.type "str") (.ref C8) = some false)
    (kt8_list : PySem.W.subIn K (.type "list") (.ref C8) = some false)
    (kt8_tuple : PySem.W.subIn K (.type "tuple") (.ref C8) = some false)
    (kt8_dict : PySem.W.subIn K (.type "dict") (.ref C8) = some false)
    (ko8_4 : PySem.W.subIn K (.ref C4) (.ref C8) = some false)
    (ko8_5 : PySem.W.subIn K (.ref C5) (.ref C8) = some false)
    (ko8_6 : PySem.W.subIn K (.ref C6) (.ref C8) = some false)
    (ko8_7 : PySem.W.subIn K (.ref C7) (.ref C8) = some false)
    (ko8_8 : PySem.W.subIn K (.ref C8) (.ref C8) = some true)
    (ki3 : PySem.W.clsIn K C3 = some cdt3)
    (kty3 : PySem.W.typeIn K (.ref C3) = some (.type "type"))
    (kse3 : PySem.W.subIn K (.ref C3) (.ref C3) = some true)
    (kt3_NoneType : PySem.W.subIn K (.type "NoneType") (.ref C3) = some false)
    (kt3_bool : PySem.W.subIn K (.type "bool") (.ref C3) = some false)
    (kt3_int : PySem.W.subIn K (.type "int") (.ref C3) = some false)
    (kt3_str : PySem.W.subIn K (.type "str") (.ref C3) = some false)
    (kt3_list : PySem.W.subIn K (.type "list") (.ref C3) = some false)
    (kt3_tuple : PySem.W.subIn K (.type "tuple") (.ref C3) = some false)
    (kt3_dict : PySem.W.subIn K (.type "dict") (.ref C3) = some false)
    (ko3_4 : PySem.W.subIn K (.ref C4) (.ref C3) = some true)
    (ko3_5 : PySem.W.subIn K (.ref C5) (.ref C3) = some true)
    (ko3_6 : PySem.W.subIn K (.ref C6) (.ref C3) = some true)
    (ko3_7 : PySem.W.subIn K (.ref C7) (.ref C3) = some true)
    (ko3_8 : PySem.W.subIn K (.ref C8) (.ref C3) = some true)
    (g_LETTERS : PySem.W.nsIn K mainGlobals "LETTERS" = some (some (.str "abcdefghijklmnopqrstuvwxyz" t_LETTERS)))
    (g_LONGEST : PySem.W.nsIn K mainGlobals "LONGEST" = some (some (.int 4 t_LONGEST)))
    (g_MOST_SENSES : PySem.W.nsIn K mainGlobals "MOST_SENSES" = some (some (.int 2 t_MOST_SENSES)))
    (g_MOST_WORDS : PySem.W.nsIn K mainGlobals "MOST_WORDS" = some (some (.int 3 t_MOST_WORDS)))
    (g_MOST_ENTRIES : PySem.W.nsIn K mainGlobals "MOST_ENTRIES" = some (some (.int 40 t_MOST_ENTRIES)))
    (z_len : PySem.W.nsIn K mainGlobals "len" = some none)
    (z_all : PySem.W.nsIn K mainGlobals "all" = some none)
    (z_any : PySem.W.nsIn K mainGlobals "any" = some none)
    (z_list : PySem.W.nsIn K mainGlobals "list" = some none)
    (z_dict : PySem.W.nsIn K mainGlobals "dict" = some none)
    (z_max : PySem.W.nsIn K mainGlobals "max" = some none)
    (z_min : PySem.W.nsIn K mainGlobals "min" = some none)
    (z_sorted : PySem.W.nsIn K mainGlobals "sorted" = some none)
    (z_abs : PySem.W.nsIn K mainGlobals "abs" = some none)
    (z_tuple : PySem.W.nsIn K mainGlobals "tuple" = some none)
    (z_str : PySem.W.nsIn K mainGlobals "str" = some none)
    (z_isinstance : PySem.W.nsIn K mainGlobals "isinstance" = some none)
    (z_range : PySem.W.nsIn K mainGlobals "range" = some none)
    (z_enumerate : PySem.W.nsIn K mainGlobals "enumerate" = some none)
    (z_zip : PySem.W.nsIn K mainGlobals "zip" = some none)
    (z_int : PySem.W.nsIn K mainGlobals "int" = some none)
    (z_bool : PySem.W.nsIn K mainGlobals "bool" = some none)
    (z_set : PySem.W.nsIn K mainGlobals "set" = some none) :
    ∃ (G : Gc) (ca : Nat → Addr) (fd : FuncData), ∀ sa, Tx ⟨K, ca, sa⟩ T G mg ∧ FnDx ⟨K, ca, sa⟩ T G 37 fa fd ["_law_script"] := by
  refine ⟨G, fun i => [C0, C1, C2, C3, C4, C5, C6, C7, C8].getD i 0, PySem.W.fnOf "law" "law" (L2.defArgs s_law) (L2.defBody s_law) (L2.defScope s_law) .none kV37 dc37 pm37 an37 cd37 ct37, fun sa => ?_⟩
  have e := hfa.symm.trans (PySem.W.mg_of X Gm a37)
  cases e
  have d0 := h_is_text (F := ⟨K, fun i => [C0, C1, C2, C3, C4, C5, C6, C7, C8].getD i 0, sa⟩) (fnH_mk l0 c0 k0)
  have d1 := h_is_word (F := ⟨K, fun i => [C0, C1, C2, C3, C4, C5, C6, C7, C8].getD i 0, sa⟩) (fnH_mk l1 c1 k1)
  have d2 := h_is_sense (F := ⟨K, fun i => [C0, C1, C2, C3, C4, C5, C6, C7, C8].getD i 0, sa⟩) (fnH_mk l2 c2 k2)
  have d3 := h_is_entry (F := ⟨K, fun i => [C0, C1, C2, C3, C4, C5, C6, C7, C8].getD i 0, sa⟩) (fnH_mk l3 c3 k3)
  have d4 := h_are_rising (F := ⟨K, fun i => [C0, C1, C2, C3, C4, C5, C6, C7, C8].getD i 0, sa⟩) (fnH_mk l4 c4 k4)
  have d5 := h_check_book (F := ⟨K, fun i => [C0, C1, C2, C3, C4, C5, C6, C7, C8].getD i 0, sa⟩) (fnH_mk l5 c5 k5)
  have d6 := h_check_word (F := ⟨K, fun i => [C0, C1, C2, C3, C4, C5, C6, C7, C8].getD i 0, sa⟩) (fnH_mk l6 c6 k6)
  have d7 := h_known_by (F := ⟨K, fun i => [C0, C1, C2, C3, C4, C5, C6, C7, C8].getD i 0, sa⟩) (fnH_mk l7 c7 k7)
  have d8 := h_is_led (F := ⟨K, fun i => [C0, C1, C2, C3, C4, C5, C6, C7, C8].getD i 0, sa⟩) (fnH_mk l8 c8 k8)
  have d9 := h_Head___init__ (F := ⟨K, fun i => [C0, C1, C2, C3, C4, C5, C6, C7, C8].getD i 0, sa⟩) (fnH_mk l9 c9 k9)
  have d10 := h_Head_shows (F := ⟨K, fun i => [C0, C1, C2, C3, C4, C5, C6, C7, C8].getD i 0, sa⟩) (fnH_mk l10 c10 k10)
  have d11 := h_Lost___init__ (F := ⟨K, fun i => [C0, C1, C2, C3, C4, C5, C6, C7, C8].getD i 0, sa⟩) (fnH_mk l11 c11 k11)
  have d12 := h_Lost_shows (F := ⟨K, fun i => [C0, C1, C2, C3, C4, C5, C6, C7, C8].getD i 0, sa⟩) (fnH_mk l12 c12 k12)
  have d13 := h_Ring___init__ (F := ⟨K, fun i => [C0, C1, C2, C3, C4, C5, C6, C7, C8].getD i 0, sa⟩) (fnH_mk l13 c13 k13)
  have d14 := h_Ring_shows (F := ⟨K, fun i => [C0, C1, C2, C3, C4, C5, C6, C7, C8].getD i 0, sa⟩) (fnH_mk l14 c14 k14)
  have d15 := h_is_told_by (F := ⟨K, fun i => [C0, C1, C2, C3, C4, C5, C6, C7, C8].getD i 0, sa⟩) (fnH_mk l15 c15 k15)
  have d16 := h_Grasped___init__ (F := ⟨K, fun i => [C0, C1, C2, C3, C4, C5, C6, C7, C8].getD i 0, sa⟩) (fnH_mk l16 c16 k16)
  have d17 := h_Grasped_shows (F := ⟨K, fun i => [C0, C1, C2, C3, C4, C5, C6, C7, C8].getD i 0, sa⟩) (fnH_mk l17 c17 k17)
  have d18 := h_Dark___init__ (F := ⟨K, fun i => [C0, C1, C2, C3, C4, C5, C6, C7, C8].getD i 0, sa⟩) (fnH_mk l18 c18 k18)
  have d19 := h_Dark_shows (F := ⟨K, fun i => [C0, C1, C2, C3, C4, C5, C6, C7, C8].getD i 0, sa⟩) (fnH_mk l19 c19 k19)
  have d20 := h_looked_of (F := ⟨K, fun i => [C0, C1, C2, C3, C4, C5, C6, C7, C8].getD i 0, sa⟩) (fnH_mk l20 c20 k20)
  have d21 := h_looked (F := ⟨K, fun i => [C0, C1, C2, C3, C4, C5, C6, C7, C8].getD i 0, sa⟩) (fnH_mk l21 c21 k21)
  have d22 := h__law_cell_at (F := ⟨K, fun i => [C0, C1, C2, C3, C4, C5, C6, C7, C8].getD i 0, sa⟩) (fnH_mk l22 c22 k22)
  have d23 := h__law_draw (F := ⟨K, fun i => [C0, C1, C2, C3, C4, C5, C6, C7, C8].getD i 0, sa⟩) (fnH_mk l23 c23 k23)
  have d24 := h__law_number (F := ⟨K, fun i => [C0, C1, C2, C3, C4, C5, C6, C7, C8].getD i 0, sa⟩) (fnH_mk l24 c24 k24)
  have d25 := h__law_word (F := ⟨K, fun i => [C0, C1, C2, C3, C4, C5, C6, C7, C8].getD i 0, sa⟩) (fnH_mk l25 c25 k25)
  have d26 := h__law_words (F := ⟨K, fun i => [C0, C1, C2, C3, C4, C5, C6, C7, C8].getD i 0, sa⟩) (fnH_mk l26 c26 k26)
  have d27 := h__law_senses (F := ⟨K, fun i => [C0, C1, C2, C3, C4, C5, C6, C7, C8].getD i 0, sa⟩) (fnH_mk l27 c27 k27)
  have d28 := h__law_book (F := ⟨K, fun i => [C0, C1, C2, C3, C4, C5, C6, C7, C8].getD i 0, sa⟩) (fnH_mk l28 c28 k28)
  have d29 := h__law_named (F := ⟨K, fun i => [C0, C1, C2, C3, C4, C5, C6, C7, C8].getD i 0, sa⟩) (fnH_mk l29 c29 k29)
  have d30 := h__law_entry (F := ⟨K, fun i => [C0, C1, C2, C3, C4, C5, C6, C7, C8].getD i 0, sa⟩) (fnH_mk l30 c30 k30)
  have d31 := h__law_copied (F := ⟨K, fun i => [C0, C1, C2, C3, C4, C5, C6, C7, C8].getD i 0, sa⟩) (fnH_mk l31 c31 k31)
  have d32 := h__law_way (F := ⟨K, fun i => [C0, C1, C2, C3, C4, C5, C6, C7, C8].getD i 0, sa⟩) (fnH_mk l32 c32 k32)
  have d33 := h__law_whole (F := ⟨K, fun i => [C0, C1, C2, C3, C4, C5, C6, C7, C8].getD i 0, sa⟩) (fnH_mk l33 c33 k33)
  have d34 := h__law_says (F := ⟨K, fun i => [C0, C1, C2, C3, C4, C5, C6, C7, C8].getD i 0, sa⟩) (fnH_mk l34 c34 k34)
  have d35 := h__law_due (F := ⟨K, fun i => [C0, C1, C2, C3, C4, C5, C6, C7, C8].getD i 0, sa⟩) (fnH_mk l35 c35 k35)
  have d36 := h__law_right (F := ⟨K, fun i => [C0, C1, C2, C3, C4, C5, C6, C7, C8].getD i 0, sa⟩) (fnH_mk l36 c36 k36)
  have d37 := h_law (F := ⟨K, fun i => [C0, C1, C2, C3, C4, C5, C6, C7, C8].getD i 0, sa⟩) (fnH_mk l37 c37 k37)
  have K4 : L2.Cls K C4 := ⟨pg4, hd4, po4, sa4⟩
  have K5 : L2.Cls K C5 := ⟨pg5, hd5, po5, sa5⟩
  have K6 : L2.Cls K C6 := ⟨pg6, hd6, po6, sa6⟩
  have K7 : L2.Cls K C7 := ⟨pg7, hd7, po7, sa7⟩
  have K8 : L2.Cls K C8 := ⟨pg8, hd8, po8, sa8⟩
  refine ⟨tx_of ?_ ?_ ?_ ?_ ?_ ?_ ?_ ?_ ?_, d37⟩
  · exact ⟨PySem.W.mg_none_of X Gm z_len, PySem.W.mg_none_of X Gm z_all, PySem.W.mg_none_of X Gm z_any, PySem.W.mg_none_of X Gm z_list, PySem.W.mg_none_of X Gm z_dict, PySem.W.mg_none_of X Gm z_max, PySem.W.mg_none_of X Gm z_min, PySem.W.mg_none_of X Gm z_sorted, PySem.W.mg_none_of X Gm z_abs, PySem.W.mg_none_of X Gm z_tuple, PySem.W.mg_none_of X Gm z_str, PySem.W.mg_none_of X Gm z_isinstance, PySem.W.mg_none_of X Gm z_range, PySem.W.mg_none_of X Gm z_enumerate, PySem.W.mg_none_of X Gm z_zip, PySem.W.mg_none_of X Gm z_int, PySem.W.mg_none_of X Gm z_bool, PySem.W.mg_none_of X Gm z_set, trivial⟩
  · exact ⟨fun _ => ⟨_, PySem.W.mg_of X Gm a0, d0.fnD⟩, fun _ => ⟨_, PySem.W.mg_of X Gm a1, d1.fnD⟩, fun _ => ⟨_, PySem.W.mg_of X Gm a2, d2.fnD⟩, fun _ => ⟨_, PySem.W.mg_of X Gm a3, d3.fnD⟩, fun _ => ⟨_, PySem.W.mg_of X Gm a4, d4.fnD⟩, fun _ => ⟨_, PySem.W.mg_of X Gm a5, d5.fnD⟩, fun _ => ⟨_, PySem.W.mg_of X Gm a6, d6.fnD⟩, fun _ => ⟨_, PySem.W.mg_of X Gm a7, d7.fnD⟩, fun _ => ⟨_, PySem.W.mg_of X Gm a8, d8.fnD⟩, fun q => absurd rfl q, fun q => absurd rfl q, fun q => absurd rfl q, fun q => absurd rfl q, fun q => absurd rfl q, fun q => absurd rfl q, fun _ => ⟨_, PySem.W.mg_of X Gm a15, d15.fnD⟩, fun q => absurd rfl q, fun q => absurd rfl q, fun q => absurd rfl q, fun q => absurd rfl q, fun _ => ⟨_, PySem.W.mg_of X Gm a20, d20.fnD⟩, fun _ => ⟨_, PySem.W.mg_of X Gm a21, d21.fnD⟩, fun _ => ⟨_, PySem.W.mg_of X Gm a22, d22.fnD⟩, fun _ => ⟨_, PySem.W.mg_of X Gm a23, d23.fnD⟩, fun _ => ⟨_, PySem.W.mg_of X Gm a24, d24.fnD⟩, fun _ => ⟨_, PySem.W.mg_of X Gm a25, d25.fnD⟩, fun _ => ⟨_, PySem.W.mg_of X Gm a26, d26.fnD⟩, fun _ => ⟨_, PySem.W.mg_of X Gm a27, d27.fnD⟩, fun _ => ⟨_, PySem.W.mg_of X Gm a28, d28.fnD⟩, fun _ => ⟨_, PySem.W.mg_of X Gm a29, d29.fnD⟩, fun _ => ⟨_, PySem.W.mg_of X Gm a30, d30.fnD⟩, fun _ => ⟨_, PySem.W.mg_of X Gm a31, d31.fnD⟩, fun _ => ⟨_, PySem.W.mg_of X Gm a32, d32.fnD⟩, fun _ => ⟨_, PySem.W.mg_of X Gm a33, d33.fnD⟩, fun _ => ⟨_, PySem.W.mg_of X Gm a34, d34.fnD⟩, fun _ => ⟨_, PySem.W.mg_of X Gm a35, d35.fnD⟩, fun _ => ⟨_, PySem.W.mg_of X Gm a36, d36.fnD⟩, fun _ => ⟨_, PySem.W.mg_of X Gm a37, d37.fnD⟩, trivial⟩
  · exact ⟨fun q => (by cases q), fun q => (by cases q), fun q => (by cases q), fun q => (by cases q), fun _ => ⟨_, _, rfl, ⟨mk4, a9, fm9, kc4⟩, d9.fnD⟩, fun _ => ⟨_, _, rfl, ⟨mk5, a11, fm11, kc5⟩, d11.fnD⟩, fun _ => ⟨_, _, rfl, ⟨mk6, a13, fm13, kc6⟩, d13.fnD⟩, fun _ => ⟨_, _, rfl, ⟨mk7, a16, fm16, kc7⟩, d16.fnD⟩, fun _ => ⟨_, _, rfl, ⟨mk8, a18, fm18, kc8⟩, d18.fnD⟩, trivial⟩
  · exact ⟨PySem.W.mg_of X Gm cl0, PySem.W.mg_of X Gm cl1, PySem.W.mg_of X Gm cl2, PySem.W.mg_of X Gm cl3, PySem.W.mg_of X Gm cl4, PySem.W.mg_of X Gm cl5, PySem.W.mg_of X Gm cl6, PySem.W.mg_of X Gm cl7, PySem.W.mg_of X Gm cl8, trivial⟩
  · exact ⟨⟨_, K4, ⟨a10, fm10, k10⟩, d10.fnD⟩, ⟨_, K5, ⟨a12, fm12, k12⟩, d12.fnD⟩, ⟨_, K6, ⟨a14, fm14, k14⟩, d14.fnD⟩, ⟨_, K7, ⟨a17, fm17, k17⟩, d17.fnD⟩, ⟨_, K8, ⟨a19, fm19, k19⟩, d19.fnD⟩, trivial⟩
  · exact ⟨fun q => (by cases q), fun q => (by cases q), fun q => (by cases q), fun q => (by cases q), fun _ => ⟨K4, ha4, hn, ht, hm4⟩, fun _ => ⟨K5, ha5, hn, ht, hm5⟩, fun _ => ⟨K6, ha6, hn, ht, hm6⟩, fun _ => ⟨K7, ha7, hn, ht, hm7⟩, fun _ => ⟨K8, ha8, hn, ht, hm8⟩, trivial⟩
  · exact ⟨fun q => (by cases q), fun q => (by cases q), fun q => (by cases q), fun q => (by cases q), fun _ => ⟨nf4_0, nf4_1, nf4_2, nf4_3, trivial⟩, fun _ => ⟨nf5_0, nf5_1, nf5_2, nf5_3, trivial⟩, fun _ => ⟨nf6_0, nf6_1, nf6_2, nf6_3, trivial⟩, fun _ => ⟨nf7_0, nf7_1, nf7_2, nf7_3, trivial⟩, fun _ => ⟨nf8_0, nf8_1, nf8_2, nf8_3, trivial⟩, trivial⟩
  · exact ⟨⟨kit_to ki6 kty6 kt6_NoneType, kit_to ki6 kty6 kt6_bool, kit_to ki6 kty6 kt6_int, kit_to ki6 kty6 kt6_str, kit_to ki6 kty6 kt6_list, kit_to ki6 kty6 kt6_tuple, kit_to ki6 kty6 kt6_dict, (by intro k hk; obtain ⟨t, e, i⟩ := okC_get hk; revert e i; exact AtL.get0 (Pr := fun k t => t.init.isSome = true → PySem.W.kitOne K (.ref ([C0, C1, C2, C3, C4, C5, C6, C7, C8].getD k 0)) (ciV ⟨K, fun i => [C0, C1, C2, C3, C4, C5, C6, C7, C8].getD i 0, sa⟩ (.own 6)) = some (isOwn T k (.own 6))) (l := T.clss) ⟨fun q => (by cases q), fun q => (by cases q), fun q => (by cases q), fun q => (by cases q), fun _ => kit_oo ki6 kty6 kse6 ko6_4, fun _ => kit_oo ki6 kty6 kse6 ko6_5, fun _ => kit_oo ki6 kty6 kse6 ko6_6, fun _ => kit_oo ki6 kty6 kse6 ko6_7, fun _ => kit_oo ki6 kty6 kse6 ko6_8, trivial⟩ k t)⟩, ⟨kit_b (c := .str) rfl rfl, kit_b (c := .str) rfl rfl, kit_b (c := .str) rfl rfl, kit_b (c := .str) rfl rfl, kit_b (c := .str) rfl rfl, kit_b (c := .str) rfl rfl, kit_b (c := .str) rfl rfl, (by intro k hk; obtain ⟨t, e, i⟩ := okC_get hk; revert e i; exact AtL.get0 (Pr := fun k t => t.init.isSome = true → PySem.W.kitOne K (.ref ([C0, C1, C2, C3, C4, C5, C6, C7, C8].getD k 0)) (ciV ⟨K, fun i => [C0, C1, C2, C3, C4, C5, C6, C7, C8].getD i 0, sa⟩ (.str)) = some (isOwn T k (.str))) (l := T.clss) ⟨fun q => (by cases q), fun q => (by cases q), fun q => (by cases q), fun q => (by cases q), fun _ => kit_ot rfl kbstr_4, fun _ => kit_ot rfl kbstr_5, fun _ => kit_ot rfl kbstr_6, fun _ => kit_ot rfl kbstr_7, fun _ => kit_ot rfl kbstr_8, trivial⟩ k t)⟩, ⟨kit_b (c := .lst) rfl rfl, kit_b (c := .lst) rfl rfl, kit_b (c := .lst) rfl rfl, kit_b (c := .lst) rfl rfl, kit_b (c := .lst) rfl rfl, kit_b (c := .lst) rfl rfl, kit_b (c := .lst) rfl rfl, (by intro k hk; obtain ⟨t, e, i⟩ := okC_get hk; revert e i; exact AtL.get0 (Pr := fun k t => t.init.isSome = true → PySem.W.kitOne K (.ref ([C0, C1, C2, C3, C4, C5, C6, C7, C8].getD k 0)) (ciV ⟨K, fun i => [C0, C1, C2, C3, C4, C5, C6, C7, C8].getD i 0, sa⟩ (.lst)) = some (isOwn T k (.lst))) (l := T.clss) ⟨fun q => (by cases q), fun q => (by cases q), fun q => (by cases q), fun q => (by cases q), fun _ => kit_ot rfl kblist_4, fun _ => kit_ot rfl kblist_5, fun _ => kit_ot rfl kblist_6, fun _ => kit_ot rfl kblist_7, fun _ => kit_ot rfl kblist_8, trivial⟩ k t)⟩, ⟨kit_b (c := .int) rfl rfl, kit_b (c := .int) rfl rfl, kit_b (c := .int) rfl rfl, kit_b (c := .int) rfl rfl, kit_b (c := .int) rfl rfl, kit_b (c := .int) rfl rfl, kit_b (c := .int) rfl rfl, (by intro k hk; obtain ⟨t, e, i⟩ := okC_get hk; revert e i; exact AtL.get0 (Pr := fun k t => t.init.isSome = true → PySem.W.kitOne K (.ref ([C0, C1, C2, C3, C4, C5, C6, C7, C8].getD k 0)) (ciV ⟨K, fun i => [C0, C1, C2, C3, C4, C5, C6, C7, C8].getD i 0, sa⟩ (.int)) = some (isOwn T k (.int))) (l := T.clss) ⟨fun q => (by cases q), fun q => (by cases q), fun q => (by cases q), fun q => (by cases q), fun _ => kit_ot rfl kbint_4, fun _ => kit_ot rfl kbint_5, fun _ => kit_ot rfl kbint_6, fun _ => kit_ot rfl kbint_7, fun _ => kit_ot rfl kbint_8, trivial⟩ k t)⟩, ⟨kit_b (c := .bool) rfl rfl, kit_b (c := .bool) rfl rfl, kit_b (c := .bool) rfl rfl, kit_b (c := .bool) rfl rfl, kit_b (c := .bool) rfl rfl, kit_b (c := .bool) rfl rfl, kit_b (c := .bool) rfl rfl, (by intro k hk; obtain ⟨t, e, i⟩ := okC_get hk; revert e i; exact AtL.get0 (Pr := fun k t => t.init.isSome = true → PySem.W.kitOne K (.ref ([C0, C1, C2, C3, C4, C5, C6, C7, C8].getD k 0)) (ciV ⟨K, fun i => [C0, C1, C2, C3, C4, C5, C6, C7, C8].getD i 0, sa⟩ (.bool)) = some (isOwn T k (.bool))) (l := T.clss) ⟨fun q => (by cases q), fun q => (by cases q), fun q => (by cases q), fun q => (by cases q), fun _ => kit_ot rfl kbbool_4, fun _ => kit_ot rfl kbbool_5, fun _ => kit_ot rfl kbbool_6, fun _ => kit_ot rfl kbbool_7, fun _ => kit_ot rfl kbbool_8, trivial⟩ k t)⟩, ⟨kit_to ki5 kty5 kt5_NoneType, kit_to ki5 kty5 kt5_bool, kit_to ki5 kty5 kt5_int, kit_to ki5 kty5 kt5_str, kit_to ki5 kty5 kt5_list, kit_to ki5 kty5 kt5_tuple, kit_to ki5 kty5 kt5_dict, (by intro k hk; obtain ⟨t, e, i⟩ := okC_get hk; revert e i; exact AtL.get0 (Pr := fun k t => t.init.isSome = true → PySem.W.kitOne K (.ref ([C0, C1, C2, C3, C4, C5, C6, C7, C8].getD k 0)) (ciV ⟨K, fun i => [C0, C1, C2, C3, C4, C5, C6, C7, C8].getD i 0, sa⟩ (.own 5)) = some (isOwn T k (.own 5))) (l := T.clss) ⟨fun q => (by cases q), fun q => (by cases q), fun q => (by cases q), fun q => (by cases q), fun _ => kit_oo ki5 kty5 kse5 ko5_4, fun _ => kit_oo ki5 kty5 kse5 ko5_5, fun _ => kit_oo ki5 kty5 kse5 ko5_6, fun _ => kit_oo ki5 kty5 kse5 ko5_7, fun _ => kit_oo ki5 kty5 kse5 ko5_8, trivial⟩ k t)⟩, ⟨kit_b (c := .tup) rfl rfl, kit_b (c := .tup) rfl rfl, kit_b (c := .tup) rfl rfl, kit_b (c := .tup) rfl rfl, kit_b (c := .tup) rfl rfl, kit_b (c := .tup) rfl rfl, kit_b (c := .tup) rfl rfl, (by intro k hk; obtain ⟨t, e, i⟩ := okC_get hk; revert e i; exact AtL.get0 (Pr := fun k t => t.init.isSome = true → PySem.W.kitOne K (.ref ([C0, C1, C2, C3, C4, C5, C6, C7, C8].getD k 0)) (ciV ⟨K, fun i => [C0, C1, C2, C3, C4, C5, C6, C7, C8].getD i 0, sa⟩ (.tup)) = some (isOwn T k (.tup))) (l := T.clss) ⟨fun q => (by cases q), fun q => (by cases q), fun q => (by cases q), fun q => (by cases q), fun _ => kit_ot rfl kbtuple_4, fun _ => kit_ot rfl kbtuple_5, fun _ => kit_ot rfl kbtuple_6, fun _ => kit_ot rfl kbtuple_7, fun _ => kit_ot rfl kbtuple_8, trivial⟩ k t)⟩, ⟨kit_to ki4 kty4 kt4_NoneType, kit_to ki4 kty4 kt4_bool, kit_to ki4 kty4 kt4_int, kit_to ki4 kty4 kt4_str, kit_to ki4 kty4 kt4_list, kit_to ki4 kty4 kt4_tuple, kit_to ki4 kty4 kt4_dict, (by intro k hk; obtain ⟨t, e, i⟩ := okC_get hk; revert e i; exact AtL.get0 (Pr := fun k t => t.init.isSome = true → PySem.W.kitOne K (.ref ([C0, C1, C2, C3, C4, C5, C6, C7, C8].getD k 0)) (ciV ⟨K, fun i => [C0, C1, C2, C3, C4, C5, C6, C7, C8].getD i 0, sa⟩ (.own 4)) = some (isOwn T k (.own 4))) (l := T.clss) ⟨fun q => (by cases q), fun q => (by cases q), fun q => (by cases q), fun q => (by cases q), fun _ => kit_oo ki4 kty4 kse4 ko4_4, fun _ => kit_oo ki4 kty4 kse4 ko4_5, fun _ => kit_oo ki4 kty4 kse4 ko4_6, fun _ => kit_oo ki4 kty4 kse4 ko4_7, fun _ => kit_oo ki4 kty4 kse4 ko4_8, trivial⟩ k t)⟩, ⟨kit_to ki7 kty7 kt7_NoneType, kit_to ki7 kty7 kt7_bool, kit_to ki7 kty7 kt7_int, kit_to ki7 kty7 kt7_str, kit_to ki7 kty7 kt7_list, kit_to ki7 kty7 kt7_tuple, kit_to ki7 kty7 kt7_dict, (by intro k hk; obtain ⟨t, e, i⟩ := okC_get hk; revert e i; exact AtL.get0 (Pr := fun k t => t.init.isSome = true → PySem.W.kitOne K (.ref ([C0, C1, C2, C3, C4, C5, C6, C7, C8].getD k 0)) (ciV ⟨K, fun i => [C0, C1, C2, C3, C4, C5, C6, C7, C8].getD i 0, sa⟩ (.own 7)) = some (isOwn T k (.own 7))) (l := T.clss) ⟨fun q => (by cases q), fun q => (by cases q), fun q => (by cases q), fun q => (by cases q), fun _ => kit_oo ki7 kty7 kse7 ko7_4, fun _ => kit_oo ki7 kty7 kse7 ko7_5, fun _ => kit_oo ki7 kty7 kse7 ko7_6, fun _ => kit_oo ki7 kty7 kse7 ko7_7, fun _ => kit_oo ki7 kty7 kse7 ko7_8, trivial⟩ k t)⟩, ⟨kit_to ki8 kty8 kt8_NoneType, kit_to ki8 kty8 kt8_bool, kit_to ki8 kty8 kt8_int, kit_to ki8 kty8 kt8_str, kit_to ki8 kty8 kt8_list, kit_to ki8 kty8 kt8_tuple, kit_to ki8 kty8 kt8_dict, (by intro k hk; obtain ⟨t, e, i⟩ := okC_get hk; revert e i; exact AtL.get0 (Pr := fun k t => t.init.isSome = true → PySem.W.kitOne K (.ref ([C0, C1, C2, C3, C4, C5, C6, C7, C8].getD k 0)) (ciV ⟨K, fun i => [C0, C1, C2, C3, C4, C5, C6, C7, C8].getD i 0, sa⟩ (.own 8)) = some (isOwn T k (.own 8))) (l := T.clss) ⟨fun q => (by cases q), fun q => (by cases q), fun q => (by cases q), fun q => (by cases q), fun _ => kit_oo ki8 kty8 kse8 ko8_4, fun _ => kit_oo ki8 kty8 kse8 ko8_5, fun _ => kit_oo ki8 kty8 kse8 ko8_6, fun _ => kit_oo ki8 kty8 kse8 ko8_7, fun _ => kit_oo ki8 kty8 kse8 ko8_8, trivial⟩ k t)⟩, ⟨kit_to ki3 kty3 kt3_NoneType, kit_to ki3 kty3 kt3_bool, kit_to ki3 kty3 kt3_int, kit_to ki3 kty3 kt3_str, kit_to ki3 kty3 kt3_list, kit_to ki3 kty3 kt3_tuple, kit_to ki3 kty3 kt3_dict, (by intro k hk; obtain ⟨t, e, i⟩ := okC_get hk; revert e i; exact AtL.get0 (Pr := fun k t => t.init.isSome = true → PySem.W.kitOne K (.ref ([C0, C1, C2, C3, C4, C5, C6, C7, C8].getD k 0)) (ciV ⟨K, fun i => [C0, C1, C2, C3, C4, C5, C6, C7, C8].getD i 0, sa⟩ (.own 3)) = some (isOwn T k (.own 3))) (l := T.clss) ⟨fun q => (by cases q), fun q => (by cases q), fun q => (by cases q), fun q => (by cases q), fun _ => kit_oo ki3 kty3 kse3 ko3_4, fun _ => kit_oo ki3 kty3 kse3 ko3_5, fun _ => kit_oo ki3 kty3 kse3 ko3_6, fun _ => kit_oo ki3 kty3 kse3 ko3_7, fun _ => kit_oo ki3 kty3 kse3 ko3_8, trivial⟩ k t)⟩, trivial⟩
  · exact ⟨⟨_, PySem.W.mg_of X Gm g_LETTERS, fun _ => trivial, fun _ => rfl, ⟨_, rfl⟩⟩, ⟨_, PySem.W.mg_of X Gm g_LONGEST, fun _ => trivial, fun _ => rfl, ⟨_, rfl⟩⟩, ⟨_, PySem.W.mg_of X Gm g_MOST_SENSES, fun _ => trivial, fun _ => rfl, ⟨_, rfl⟩⟩, ⟨_, PySem.W.mg_of X Gm g_MOST_WORDS, fun _ => trivial, fun _ => rfl, ⟨_, rfl⟩⟩, ⟨_, PySem.W.mg_of X Gm g_MOST_ENTRIES, fun _ => trivial, fun _ => rfl, ⟨_, rfl⟩⟩, trivial⟩
end K01
open PySem PySem.W PyProof.Rows in
set_option maxRecDepth 100000 in
set_option maxHeartbeats 0 in
theorem PySem.Challenge.cw_wordmeanings_k01_whole_lookups_holds : PySem.Challenge.rw_wordmeanings_k01_whole_lookups.Holds := by
  w_on; o_law; k_head; (case hw => w_witness2)
  k_fill
  refine MP.walk_law (n := 63) (k := 39) (f := 37) (x := "_law_script") K01.T rfl (by decide) rfl ⟨rfl, by decide, by decide⟩ (fun w h Y => PySem.W.kIn_of Y) (fun ns hl => MH.law_sim (K01.plain ns hl).choose_spec) ?F
  case F =>
    intro w mg fa h KX G hmg
    refine' K01.facts KX G hmg ?cl0 ?cl1 ?cl2 ?cl3 ?cl4 ?cl5 ?cl6 ?cl7 ?cl8 ?a0 ?l0 ?c0 ?k0 ?a1 ?l1 ?c1 ?k1 ?a2 ?l2 ?c2 ?k2 ?a3 ?l3 ?c3 ?k3 ?a4 ?l4 ?c4 ?k4 ?a5 ?l5 ?c5 ?k5 ?a6 ?l6 ?c6 ?k6 ?a7 ?l7 ?c7 ?k7 ?a8 ?l8 ?c8 ?k8 ?a9 ?l9 ?c9 ?k9 ?a10 ?l10 ?c10 ?k10 ?a11 ?l11 ?c11 ?k11 ?a12 ?l12 ?c12 ?k12 ?a13 ?l13 ?c13 ?k13 ?a14 ?l14 ?c14 ?k14 ?a15 ?l15 ?c15 ?k15 ?a16 ?l16 ?c16 ?k16 ?a17 ?l17 ?c17 ?k17 ?a18 ?l18 ?c18 ?k18 ?a19 ?l19 ?c19 ?k19 ?a20 ?l20 ?c20 ?k20 ?a21 ?l21 ?c21 ?k21 ?a22 ?l22 ?c22 ?k22 ?a23 ?l23 ?c23 ?k23 ?a24 ?l24 ?c24 ?k24 ?a25 ?l25 ?c25 ?k25 ?a26 ?l26 ?c26 ?k26 ?a27 ?l27 ?c27 ?k27 ?a28 ?l28 ?c28 ?k28 ?a29 ?l29 ?c29 ?k29 ?a30 ?l30 ?c30 ?k30 ?a31 ?l31 ?c31 ?k31 ?a32 ?l32 ?c32 ?k32 ?a33 ?l33 ?c33 ?k33 ?a34 ?l34 ?c34 ?k34 ?a35 ?l35 ?c35 ?k35 ?a36 ?l36 ?c36 ?k36 ?a37 ?l37 ?c37 ?k37 ?fm9 ?fm10 ?fm11 ?fm12 ?fm13 ?fm14 ?fm16 ?fm17 ?fm18 ?fm19 ?pg4 ?hd4 ?po4 ?sa4 ?pg5 ?hd5 ?po5 ?sa5 ?pg6 ?hd6 ?po6 ?sa6 ?pg7 ?hd7 ?po7 ?sa7 ?pg8 ?hd8 ?po8 ?sa8 ?mk4 ?kc4 ?ha4 ?hm4 ?nf4_0 ?nf4_1 ?nf4_2 ?nf4_3 ?mk5 ?kc5 ?ha5 ?hm5 ?nf5_0 ?nf5_1 ?nf5_2 ?nf5_3 ?mk6 ?kc6 ?ha6 ?hm6 ?nf6_0 ?nf6_1 ?nf6_2 ?nf6_3 ?mk7 ?kc7 ?ha7 ?hm7 ?nf7_0 ?nf7_1 ?nf7_2 ?nf7_3 ?mk8 ?kc8 ?ha8 ?hm8 ?nf8_0 ?nf8_1 ?nf8_2 ?nf8_3 ?hn ?ht ?ki6 ?kty6 ?kse6 ?kt6_NoneType ?kt6_bool ?kt6_int ?kt6_str ?kt6_list ?kt6_tuple ?kt6_dict ?ko6_4 ?ko6_5 ?ko6_6 ?ko6_7 ?ko6_8 ?kbstr_4 ?kbstr_5 ?kbstr_6 ?kbstr_7 ?kbstr_8 ?kblist_4 ?kblist_5 ?kblist_6 ?kblist_7 ?kblist_8 ?kbint_4 ?kbint_5 ?kbint_6 ?kbint_7 ?kbint_8 ?kbbool_4 ?kbbool_5 ?kbbool_6 ?kbbool_7 ?kbbool_8 ?ki5 ?kty5 ?kse5 ?kt5_NoneType ?kt5_bool ?kt5_int ?kt5_str ?kt5_list ?kt5_tuple ?kt5_dict ?ko5_4 ?ko5_5 ?ko5_6 ?ko5_7 ?ko5_8 ?kbtuple_4 ?kbtuple_5 ?kbtuple_6 ?kbtuple_7 ?kbtuple_8 ?ki4 ?kty4 ?kse4 ?kt4_NoneType ?kt4_bool ?kt4_int ?kt4_str ?kt4_list ?kt4_tuple ?kt4_dict ?ko4_4 ?ko4_5 ?ko4_6 ?ko4_7 ?ko4_8 ?ki7 ?kty7 ?kse7 ?kt7_NoneType ?kt7_bool ?kt7_int ?kt7_str ?kt7_list ?kt7_tuple ?kt7_dict ?ko7_4 ?ko7_5 ?ko7_6 ?ko7_7 ?ko7_8 ?ki8 ?kty8 ?kse8 ?kt8_NoneType ?kt8_bool ?kt8_int ?kt8_str ?kt8_list ?kt8_tuple ?kt8_dict ?ko8_4 ?ko8_5 ?ko8_6 ?ko8_7 ?ko8_8 ?ki3 ?kty3 ?kse3 ?kt3_NoneType ?kt3_bool ?kt3_int ?kt3_str ?kt3_list ?kt3_tuple ?kt3_dict ?ko3_4 ?ko3_5 ?ko3_6 ?ko3_7 ?ko3_8 ?g_LETTERS ?g_LONGEST ?g_MOST_SENSES ?g_MOST_WORDS ?g_MOST_ENTRIES ?z_len ?z_all ?z_any ?z_list ?z_dict ?z_max ?z_min ?z_sorted ?z_abs ?z_tuple ?z_str ?z_isinstance ?z_range ?z_enumerate ?z_zip ?z_int ?z_bool ?z_set
    (case cl0 => k_is)
    (case cl1 => k_is)
    (case cl2 => k_is)
    (case cl3 => k_is)
    (case cl4 => k_is)
    (case cl5 => k_is)
    (case cl6 => k_is)
    (case cl7 => k_is)
    (case cl8 => k_is)
    (case a0 => k_is)
    (case l0 => k_is)
    (case c0 => k_is)
    (case k0 => k_is)
    (case a1 => k_is)
    (case l1 => k_is)
    (case c1 => k_is)
    (case k1 => k_is)
    (case a2 => k_is)
    (case l2 => k_is)
    (case c2 => k_is)
    (case k2 => k_is)
    (case a3 => k_is)
    (case l3 => k_is)
    (case c3 => k_is)
    (case k3 => k_is)
    (case a4 => k_is)
    (case l4 => k_is)
    (case c4 => k_is)
    (case k4 => k_is)
    (case a5 => k_is)
    (case l5 => k_is)
    (case c5 => k_is)
    (case k5 => k_is)
    (case a6 => k_is)
    (case l6 => k_is)
    (case c6 => k_is)
    (case k6 => k_is)
    (case a7 => k_is)
    (case l7 => k_is)
    (case c7 => k_is)
    (case k7 => k_is)
    (case a8 => k_is)
    (case l8 => k_is)
    (case c8 => k_is)
    (case k8 => k_is)
    (case a9 => k_is)
    (case l9 => k_is)
    (case c9 => k_is)
    (case k9 => k_is)
    (case a10 => k_is)
    (case l10 => k_is)
    (case c10 => k_is)
    (case k10 => k_is)
    (case a11 => k_is)
    (case l11 => k_is)
    (case c11 => k_is)
    (case k11 => k_is)
    (case a12 => k_is)
    (case l12 => k_is)
    (case c12 => k_is)
    (case k12 => k_is)
    (case a13 => k_is)
    (case l13 => k_is)
    (case c13 => k_is)
    (case k13 => k_is)
    (case a14 => k_is)
    (case l14 => k_is)
    (case c14 => k_is)
    (case k14 => k_is)
    (case a15 => k_is)
    (case l15 => k_is)
    (case c15 => k_is)
    (case k15 => k_is)
    (case a16 => k_is)
    (case l16 => k_is)
    (case c16 => k_is)
    (case k16 => k_is)
    (case a17 => k_is)
    (case l17 => k_is)
    (case c17 => k_is)
    (case k17 => k_is)
    (case a18 => k_is)
    (case l18 => k_is)
    (case c18 => k_is)
    (case k18 => k_is)
    (case a19 => k_is)
    (case l19 => k_is)
    (case c19 => k_is)
    (case k19 => k_is)
    (case a20 => k_is)
    (case l20 => k_is)
    (case c20 => k_is)
    (case k20 => k_is)
    (case a21 => k_is)
    (case l21 => k_is)
    (case c21 => k_is)
    (case k21 => k_is)
    (case a22 => k_is)
    (case l22 => k_is)
    (case c22 => k_is)
    (case k22 => k_is)
    (case a23 => k_is)
    (case l23 => k_is)
    (case c23 => k_is)
    (case k23 => k_is)
    (case a24 => k_is)
    (case l24 => k_is)
    (case c24 => k_is)
    (case k24 => k_is)
    (case a25 => k_is)
    (case l25 => k_is)
    (case c25 => k_is)
    (case k25 => k_is)
    (case a26 => k_is)
    (case l26 => k_is)
    (case c26 => k_is)
    (case k26 => k_is)
    (case a27 => k_is)
    (case l27 => k_is)
    (case c27 => k_is)
    (case k27 => k_is)
    (case a28 => k_is)
    (case l28 => k_is)
    (case c28 => k_is)
    (case k28 => k_is)
    (case a29 => k_is)
    (case l29 => k_is)
    (case c29 => k_is)
    (case k29 => k_is)
    (case a30 => k_is)
    (case l30 => k_is)
    (case c30 => k_is)
    (case k30 => k_is)
    (case a31 => k_is)
    (case l31 => k_is)
    (case c31 => k_is)
    (case k31 => k_is)
    (case a32 => k_is)
    (case l32 => k_is)
    (case c32 => k_is)
    (case k32 => k_is)
    (case a33 => k_is)
    (case l33 => k_is)
    (case c33 => k_is)
    (case k33 => k_is)
    (case a34 => k_is)
    (case l34 => k_is)
    (case c34 => k_is)
    (case k34 => k_is)
    (case a35 => k_is)
    (case l35 => k_is)
    (case c35 => k_is)
    (case k35 => k_is)
    (case a36 => k_is)
    (case l36 => k_is)
    (case c36 => k_is)
    (case k36 => k_is)
    (case a37 => k_is)
    (case l37 => k_is)
    (case c37 => k_is)
    (case k37 => k_is)
    (case fm9 => k_is)
    (case fm10 => k_is)
    (case fm11 => k_is)
    (case fm12 => k_is)
    (case fm13 => k_is)
    (case fm14 => k_is)
    (case fm16 => k_is)
    (case fm17 => k_is)
    (case fm18 => k_is)
    (case fm19 => k_is)
    (case pg4 => k_is)
    (case hd4 => k_is)
    (case po4 => k_is)
    (case sa4 => k_is)
    (case pg5 => k_is)
    (case hd5 => k_is)
    (case po5 => k_is)
    (case sa5 => k_is)
    (case pg6 => k_is)
    (case hd6 => k_is)
    (case po6 => k_is)
    (case sa6 => k_is)
    (case pg7 => k_is)
    (case hd7 => k_is)
    (case po7 => k_is)
    (case sa7 => k_is)
    (case pg8 => k_is)
    (case hd8 => k_is)
    (case po8 => k_is)
    (case sa8 => k_is)
    (case mk4 => k_is)
    (case kc4 => k_is)
    (case ha4 => k_is)
    (case hm4 => k_is)
    (case nf4_0 => k_is)
    (case nf4_1 => k_is)
    (case nf4_2 => k_is)
    (case nf4_3 => k_is)
    (case mk5 => k_is)
    (case kc5 => k_is)
    (case ha5 => k_is)
    (case hm5 => k_is)
    (case nf5_0 => k_is)
    (case nf5_1 => k_is)
    (case nf5_2 => k_is)
    (case nf5_3 => k_is)
    (case mk6 => k_is)
    (case kc6 => k_is)
    (case ha6 => k_is)
    (case hm6 => k_is)
    (case nf6_0 => k_is)
    (case nf6_1 => k_is)
    (case nf6_2 => k_is)
    (case nf6_3 => k_is)
    (case mk7 => k_is)
    (case kc7 => k_is)
    (case ha7 => k_is)
    (case hm7 => k_is)
    (case nf7_0 => k_is)
    (case nf7_1 => k_is)
    (case nf7_2 => k_is)
    (case nf7_3 => k_is)
    (case mk8 => k_is)
    (case kc8 => k_is)
    (case ha8 => k_is)
    (case hm8 => k_is)
    (case nf8_0 => k_is)
    (case nf8_1 => k_is)
    (case nf8_2 => k_is)
    (case nf8_3 => k_is)
    (case hn => k_is)
    (case ht => k_is)
    (case ki6 => k_is)
    (case kty6 => k_is)
    (case kse6 => k_is)
    (case kt6_NoneType => k_is)
    (case kt6_bool => k_is)
    (case kt6_int => k_is)
    (case kt6_str => k_is)
    (case kt6_list => k_is)
    (case kt6_tuple => k_is)
    (case kt6_dict => k_is)
    (case ko6_4 => k_is)
    (case ko6_5 => k_is)
    (case ko6_6 => k_is)
    (case ko6_7 => k_is)
    (case ko6_8 => k_is)
    (case kbstr_4 => k_is)
    (case kbstr_5 => k_is)
    (case kbstr_6 => k_is)
    (case kbstr_7 => k_is)
    (case kbstr_8 => k_is)
    (case kblist_4 => k_is)
    (case kblist_5 => k_is)
    (case kblist_6 => k_is)
    (case kblist_7 => k_is)
    (case kblist_8 => k_is)
    (case kbint_4 => k_is)
    (case kbint_5 => k_is)
    (case kbint_6 => k_is)
    (case kbint_7 => k_is)
    (case kbint_8 => k_is)
    (case kbbool_4 => k_is)
    (case kbbool_5 => k_is)
    (case kbbool_6 => k_is)
    (case kbbool_7 => k_is)
    (case kbbool_8 => k_is)
    (case ki5 => k_is)
    (case kty5 => k_is)
    (case kse5 => k_is)
    (case kt5_NoneType => k_is)
    (case kt5_bool => k_is)
    (case kt5_int => k_is)
    (case kt5_str => k_is)
    (case kt5_list => k_is)
    (case kt5_tuple => k_is)
    (case kt5_dict => k_is)
    (case ko5_4 => k_is)
    (case ko5_5 => k_is)
    (case ko5_6 => k_is)
    (case ko5_7 => k_is)
    (case ko5_8 => k_is)
    (case kbtuple_4 => k_is)
    (case kbtuple_5 => k_is)
    (case kbtuple_6 => k_is)
    (case kbtuple_7 => k_is)
    (case kbtuple_8 => k_is)
    (case ki4 => k_is)
    (case kty4 => k_is)
    (case kse4 => k_is)
    (case kt4_NoneType => k_is)
    (case kt4_bool => k_is)
    (case kt4_int => k_is)
    (case kt4_str => k_is)
    (case kt4_list => k_is)
    (case kt4_tuple => k_is)
    (case kt4_dict => k_is)
    (case ko4_4 => k_is)
    (case ko4_5 => k_is)
    (case ko4_6 => k_is)
    (case ko4_7 => k_is)
    (case ko4_8 => k_is)
    (case ki7 => k_is)
    (case kty7 => k_is)
    (case kse7 => k_is)
    (case kt7_NoneType => k_is)
    (case kt7_bool => k_is)
    (case kt7_int => k_is)
    (case kt7_str => k_is)
    (case kt7_list => k_is)
    (case kt7_tuple => k_is)
    (case kt7_dict => k_is)
    (case ko7_4 => k_is)
    (case ko7_5 => k_is)
    (case ko7_6 => k_is)
    (case ko7_7 => k_is)
    (case ko7_8 => k_is)
    (case ki8 => k_is)
    (case kty8 => k_is)
    (case kse8 => k_is)
    (case kt8_NoneType => k_is)
    (case kt8_bool => k_is)
    (case kt8_int => k_is)
    (case kt8_str => k_is)
    (case kt8_list => k_is)
    (case kt8_tuple => k_is)
    (case kt8_dict => k_is)
    (case ko8_4 => k_is)
    (case ko8_5 => k_is)
    (case ko8_6 => k_is)
    (case ko8_7 => k_is)
    (case ko8_8 => k_is)
    (case ki3 => k_is)
    (case kty3 => k_is)
    (case kse3 => k_is)
    (case kt3_NoneType => k_is)
    (case kt3_bool => k_is)
    (case kt3_int => k_is)
    (case kt3_str => k_is)
    (case kt3_list => k_is)
    (case kt3_tuple => k_is)
    (case kt3_dict => k_is)
    (case ko3_4 => k_is)
    (case ko3_5 => k_is)
    (case ko3_6 => k_is)
    (case ko3_7 => k_is)
    (case ko3_8 => k_is)
    (case g_LETTERS => k_is)
    (case g_LONGEST => k_is)
    (case g_MOST_SENSES => k_is)
    (case g_MOST_WORDS => k_is)
    (case g_MOST_ENTRIES => k_is)
    (case z_len => k_is)
    (case z_all => k_is)
    (case z_any => k_is)
    (case z_list => k_is)
    (case z_dict => k_is)
    (case z_max => k_is)
    (case z_min => k_is)
    (case z_sorted => k_is)
    (case z_abs => k_is)
    (case z_tuple => k_is)
    (case z_str => k_is)
    (case z_isinstance => k_is)
    (case z_range => k_is)
    (case z_enumerate => k_is)
    (case z_zip => k_is)
    (case z_int => k_is)
    (case z_bool => k_is)
    (case z_set => k_is)
