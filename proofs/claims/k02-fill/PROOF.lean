import PyProof.Rows.All
import Wide.All
import OpenK.AllK
import Wide.FinOn
import PySem.Str
import HandS.ForMost
import HandS.ForExc
import HandS.IsInst
import HandS.Sort
import HandS.Ends
import HandS.SortRule
import HandS.SortInts
import HandS.Zip
import HandS.Wide
import HandS.List
import KE.GoesEnum
import PySem.Challenge.RW_gridstead_k02_fill_by_rank
set_option linter.all false
set_option Elab.async false
/-! Den: a functional reading of the programs: data, a store of live lists, results; one function for each construct. -/
namespace Dn
open PySem
/-- a condition that is not reckoned, only shown -/
noncomputable def gd {α : Type} (p : Prop) (a b : α) : α := @ite α p (Classical.propDecidable p) a b
theorem gd_pos {α : Type} {p : Prop} (h : p) (a b : α) : gd p a b = a := @if_pos p (Classical.propDecidable p) h α a b
theorem gd_neg {α : Type} {p : Prop} (h : ¬p) (a b : α) : gd p a b = b := @if_neg p (Classical.propDecidable p) h α a b
@[simp] theorem gd_true {α : Type} (a b : α) : gd True a b = a := gd_pos trivial a b
@[simp] theorem gd_false {α : Type} (a b : α) : gd False a b = b := gd_neg id a b
theorem gd_congr {α : Type} {p q : Prop} {a b : α} (h : p = q) : gd p a b = gd q a b := by rw [h]
noncomputable def dec (p : Prop) : Bool := @decide p (Classical.propDecidable p)
theorem dec_eq (p : Prop) [h : Decidable p] : dec p = decide p := by unfold dec; congr
@[simp] theorem dec_true : dec True = true := by rw [dec_eq]; rfl
@[simp] theorem dec_false : dec False = false := by rw [dec_eq]; rfl
@[simp] theorem dec_iff (p : Prop) : (dec p = true) = p := by unfold dec; simp
theorem dec_pos {p : Prop} (h : p) : dec p = true := by rw [dec_iff]; exact h
theorem dec_neg {p : Prop} (h : ¬p) : dec p = false := by
  cases q : dec p with
  | false => rfl
  | true => rw [dec_iff] at q; exact absurd q h

inductive D where
  | non | bl (b : Bool) | int (i : Int) | str (x : Str)
  | tup (xs : List D) | lst (xs : List D)
  /-- a list that is only read: the script, a constant -/
  | ro (xs : List D)
inductive A where
  | v (d : D) | ref (n : Nat)
inductive Cell where
  | lst (xs : List A) | frz (ds : List D)
abbrev Store := List Cell
abbrev Env := List (Option A)
structure Exc where
  c : Str
  ks : List Str
  ds : List D
inductive RE (α : Type) where
  | ok (a : α) (st : Store) | err (x : Exc) (st : Store) | bad
inductive RS where
  | nx (σ : Env) (st : Store) | rt (a : A) (st : Store) | bk (σ : Env) (st : Store) | ct (σ : Env) (st : Store)
  | err (x : Exc) (σ : Env) (st : Store) | bad
abbrev EF := Env → Store → RE A
abbrev LF := Env → Store → RE (List A)
abbrev TF := Env → Store → RE Bool
abbrev SF := Env → Store → RS
abbrev TgF := A → Env → Store → Option (Env × Store)

noncomputable def RE.bind {α β : Type} (r : RE α) (f : α → Store → RE β) : RE β := match r with
  | .ok a st => f a st
  | .err x st => .err x st
  | .bad => .bad
@[simp] theorem bind_ok {α β : Type} (a : α) (st : Store) (f : α → Store → RE β) : RE.bind (.ok a st) f = f a st := rfl
@[simp] theorem bind_err {α β : Type} (x : Exc) (st : Store) (f : α → Store → RE β) : RE.bind (.err x st) f = .err x st := rfl
@[simp] theorem bind_bad {α β : Type} (f : α → Store → RE β) : RE.bind .bad f = .bad := rfl
noncomputable def RE.of {α : Type} (o : Option α) (st : Store) : RE α := match o with
  | some a => .ok a st
  | none => .bad
@[simp] theorem of_some {α : Type} (a : α) (st : Store) : RE.of (some a) st = .ok a st := rfl
@[simp] theorem of_none {α : Type} (st : Store) : (RE.of none st : RE α) = .bad := rfl

noncomputable def vals : List A → Option (List D)
  | [] => some []
  | .v d :: r => (vals r).map (d :: ·)
  | .ref _ :: _ => none
@[simp] theorem vals_map (ds : List D) : vals (ds.map A.v) = some ds := by
  induction ds with
  | nil => rfl
  | cons d r ih => show (vals (r.map A.v)).map (d :: ·) = _; rw [ih]; rfl
/-- what is read of a value now -/
noncomputable def A.view (st : Store) : A → Option D
  | .v d => some d
  | .ref n => match st[n]? with
    | some (.lst xs) => (vals xs).map .lst
    | some (.frz ds) => some (.lst ds)
    | none => none
/-- the items of a sequence -/
noncomputable def A.elems (st : Store) : A → Option (List A)
  | .v (.lst ds) => some (ds.map .v)
  | .v (.tup ds) => some (ds.map .v)
  | .v (.ro ds) => some (ds.map .v)
  | .v _ => none
  | .ref n => match st[n]? with
    | some (.lst xs) => some xs
    | some (.frz ds) => some (ds.map .v)
    | none => none
/-- made data: a live list is closed -/
noncomputable def A.frz (st : Store) : A → Option (D × Store)
  | .v d => some (d, st)
  | .ref n => match st[n]? with
    | some (.lst xs) => (vals xs).map fun ds => (.lst ds, st.set n (.frz ds))
    | some (.frz ds) => some (.lst ds, st)
    | none => none
noncomputable def frzL : Store → List A → Option (List D × Store)
  | st, [] => some ([], st)
  | st, a :: r => (a.frz st).bind fun p => (frzL p.2 r).map fun q => (p.1 :: q.1, q.2)
@[simp] theorem frzL_vals (st : Store) (ds : List D) : frzL st (ds.map A.v) = some (ds, st) := by
  induction ds with
  | nil => rfl
  | cons d r ih => show ((frzL st (r.map A.v)).map fun q => (d :: q.1, q.2)) = _; rw [ih]; rfl
noncomputable def A.below (n : Nat) : A → Bool
  | .v _ => true
  | .ref m => decide (m < n)

/-! expressions -/
noncomputable def fVar (i : Nat) : EF := fun σ st => match σ[i]? with
  | some (some a) => .ok a st
  | _ => .bad
noncomputable def fC (d : D) : EF := fun _ st => .ok (.v d) st
noncomputable def fOp (o : D → D → Option D) (a b : EF) : EF := fun σ st => (a σ st).bind fun x st1 => (b σ st1).bind fun y st2 =>
  RE.of ((x.view st2).bind fun d => (y.view st2).bind fun e => (o d e).map .v) st2
noncomputable def fUn (o : D → Option D) (a : EF) : EF := fun σ st => (a σ st).bind fun x st1 => RE.of ((x.view st1).bind fun d => (o d).map .v) st1
noncomputable def fArgs : List EF → Env → Store → RE (List A)
  | [], _, st => .ok [] st
  | f :: fs, σ, st => (f σ st).bind fun a st1 => (fArgs fs σ st1).bind fun r st2 => .ok (a :: r) st2
noncomputable def viewL (st : Store) : List A → Option (List D)
  | [] => some []
  | a :: r => (a.view st).bind fun d => (viewL st r).map (d :: ·)
/-- a built-in of data -/
noncomputable def fB (o : List D → Option D) (as : List EF) : EF := fun σ st => (fArgs as σ st).bind fun xs st1 => RE.of ((viewL st1 xs).bind fun ds => (o ds).map .v) st1
noncomputable def fTup (as : List EF) : EF := fun σ st => (fArgs as σ st).bind fun xs st1 => match frzL st1 xs with
  | some (ds, st2) => .ok (.v (.tup ds)) st2
  | none => .bad
/-- a new list as data; kept live -/
noncomputable def fFrz (l : LF) : EF := fun σ st => (l σ st).bind fun xs st1 => match frzL st1 xs with
  | some (ds, st2) => .ok (.v (.lst ds)) st2
  | none => .bad
noncomputable def fLive (l : LF) : EF := fun σ st => (l σ st).bind fun xs st1 => if xs.all (A.below st1.length) = true then .ok (.ref st1.length) (st1 ++ [.lst xs]) else .bad
noncomputable def lDisp (as : List EF) : LF := fArgs as
noncomputable def lList (a : EF) : LF := fun σ st => (a σ st).bind fun x st1 => RE.of (x.elems st1) st1
def sizeMax : Nat := 16777216
noncomputable def ixOf (n : Nat) (i : Int) : Option Nat := gd (0 ≤ i) (gd (i < n) (some i.toNat) none) (gd (-(n : Int) ≤ i) (some (i + n).toNat) none)
noncomputable def A.int? : A → Option Int
  | .v (.int i) => some i
  | _ => none
noncomputable def fIx (a b : EF) : EF := fun σ st => (a σ st).bind fun x st1 => (b σ st1).bind fun y st2 =>
  RE.of ((x.elems st2).bind fun xs => y.int?.bind fun i => (ixOf xs.length i).bind fun j => xs[j]?) st2
noncomputable def fIf (t : TF) (a b : EF) : EF := fun σ st => (t σ st).bind fun c st1 => if c = true then a σ st1 else b σ st1
noncomputable def fCall (g : List A → Store → RE A) (as : List EF) : EF := fun σ st => (fArgs as σ st).bind fun xs st1 => g xs st1
noncomputable def lCall (g : List A → Store → RE (List A)) (as : List EF) : LF := fun σ st => (fArgs as σ st).bind fun xs st1 => g xs st1

/-! tests -/
noncomputable def truth (st : Store) : A → Option Bool
  | .v .non => some false
  | .v (.bl b) => some b
  | .v (.int i) => some (i != 0)
  | .v (.str _) => none
  | .v (.tup ds) => some (!ds.isEmpty)
  | .v (.lst ds) => some (!ds.isEmpty)
  | .v (.ro ds) => some (!ds.isEmpty)
  | .ref n => match st[n]? with
    | some (.lst xs) => some (!xs.isEmpty)
    | some (.frz ds) => some (!ds.isEmpty)
    | none => none
noncomputable def A.bl? : A → Option Bool
  | .v (.bl b) => some b
  | _ => none
/-- an expression as a test, by its truth -/
noncomputable def tOf (a : EF) : TF := fun σ st => (a σ st).bind fun x st1 => RE.of (truth st1 x) st1
/-- a comparison as a test -/
noncomputable def tCmp (a : EF) : TF := fun σ st => (a σ st).bind fun x st1 => RE.of x.bl? st1
noncomputable def tAnd (a b : TF) : TF := fun σ st => (a σ st).bind fun c st1 => if c = true then b σ st1 else .ok false st1
noncomputable def tOr (a b : TF) : TF := fun σ st => (a σ st).bind fun c st1 => if c = true then .ok true st1 else b σ st1
noncomputable def tNot (a : TF) : TF := fun σ st => (a σ st).bind fun c st1 => .ok (!c) st1
noncomputable def tYes : TF := fun _ st => .ok true st
/-- and, or as values, of truth values all but the last -/
noncomputable def fAnd (a b : EF) : EF := fun σ st => (a σ st).bind fun x st1 => match x.bl? with
  | some c => if c = true then b σ st1 else .ok (.v (.bl false)) st1
  | none => .bad
noncomputable def fOr (a b : EF) : EF := fun σ st => (a σ st).bind fun x st1 => match x.bl? with
  | some c => if c = true then .ok (.v (.bl true)) st1 else b σ st1
  | none => .bad
noncomputable def fNot (a : EF) : EF := fun σ st => (a σ st).bind fun x st1 => RE.of (x.bl?.map fun c => .v (.bl (!c))) st1
/-- two comparisons in a row -/
noncomputable def fChain (o o' : D → D → Option D) (a b c : EF) : EF := fun σ st => (a σ st).bind fun x st1 => (b σ st1).bind fun y st2 =>
  (RE.of ((x.view st2).bind fun d => (y.view st2).bind fun e => (o d e).bind fun z => (A.v z).bl?) st2 : RE Bool).bind fun k st3 =>
    if k = true then (c σ st3).bind fun w st4 => RE.of ((y.view st4).bind fun d => (w.view st4).bind fun e => (o' d e).map .v) st4 else .ok (.v (.bl false)) st3

/-! targets -/
noncomputable def tgName (i : Nat) : TgF := fun a σ st => some (σ.set i (some a), st)
noncomputable def tgSeq : List TgF → List D → Env → Store → Option (Env × Store)
  | [], [], σ, st => some (σ, st)
  | t :: ts, d :: ds, σ, st => (t (.v d) σ st).bind fun p => tgSeq ts ds p.1 p.2
  | _, _, _, _ => none
noncomputable def tgTup (ts : List TgF) : TgF := fun a σ st => match a with
  | .v (.tup ds) => tgSeq ts ds σ st
  | _ => none
/-- what is laid into the live list n -/
noncomputable def putA (n : Nat) (st : Store) (a : A) : Option (A × Store) := if a.below n = true then some (a, st) else (a.frz st).map fun p => (.v p.1, p.2)
noncomputable def setL (n : Nat) (i : Int) (a : A) (st : Store) : Option Store := (putA n st a).bind fun p => match p.2[n]? with
  | some (.lst xs) => (ixOf xs.length i).map fun j => p.2.set n (.lst (xs.set j p.1))
  | _ => none
noncomputable def tgSub (o i : EF) : TgF := fun a σ st => match o σ st with
  | .ok (.ref n) st1 => (match i σ st1 with
    | .ok (.v (.int k)) st2 => (setL n k a st2).map fun st3 => (σ, st3)
    | _ => none)
  | _ => none

/-! sequences to walk -/
structure Src where
  xs : List A
  g : Store → Prop
abbrev IF := Env → Store → RE Src
noncomputable def iSeq (a : EF) : IF := fun σ st => (a σ st).bind fun x st1 => match x with
  | .v (.lst ds) => .ok ⟨ds.map .v, fun _ => True⟩ st1
  | .v (.tup ds) => .ok ⟨ds.map .v, fun _ => True⟩ st1
  | .v (.ro ds) => .ok ⟨ds.map .v, fun _ => True⟩ st1
  | .v _ => .bad
  | .ref n => match st1[n]? with
    | some (.lst xs) => .ok ⟨xs, fun st => st[n]? = some (.lst xs)⟩ st1
    | some (.frz ds) => .ok ⟨ds.map .v, fun _ => True⟩ st1
    | none => .bad
noncomputable def rangeA (lo : Int) : Nat → List A
  | 0 => []
  | n + 1 => .v (.int lo) :: rangeA (lo + 1) n
def okR (i : Int) : Prop := -(2 ^ 62) ≤ i ∧ i < 2 ^ 62
noncomputable def iRange1 (a : EF) : IF := fun σ st => (a σ st).bind fun x st1 => match x with
  | .v (.int n) => gd (okR n) (.ok ⟨rangeA 0 n.toNat, fun _ => True⟩ st1) .bad
  | _ => .bad
noncomputable def iRange2 (a b : EF) : IF := fun σ st => (a σ st).bind fun x st1 => (b σ st1).bind fun y st2 => match x, y with
  | .v (.int i), .v (.int j) => gd (okR i ∧ okR j) (.ok ⟨rangeA i (j - i).toNat, fun _ => True⟩ st2) .bad
  | _, _ => .bad

/-- the data of a list or a tuple, and when it stands -/
noncomputable def A.seqd (st : Store) : A → Option (List D × (Store → Prop))
  | .v (.lst ds) => some (ds, fun _ => True)
  | .v (.tup ds) => some (ds, fun _ => True)
  | .v (.ro ds) => some (ds, fun _ => True)
  | .v _ => none
  | .ref n => match st[n]? with
    | some (.lst xs) => (vals xs).map fun ds => (ds, fun st => st[n]? = some (.lst xs))
    | some (.frz ds) => some (ds, fun _ => True)
    | none => none
noncomputable def enumA : Nat → List D → List A
  | _, [] => []
  | i, d :: r => .v (.tup [.int (i : Nat), d]) :: enumA (i + 1) r
noncomputable def iEnum (a : EF) : IF := fun σ st => (a σ st).bind fun x st1 => match x.seqd st1 with
  | some (ds, g) => .ok ⟨enumA 0 ds, g⟩ st1
  | none => .bad
noncomputable def zipA : List D → List D → List A
  | d :: r, e :: s => .v (.tup [d, e]) :: zipA r s
  | _, _ => []
noncomputable def iZip (a b : EF) : IF := fun σ st => (a σ st).bind fun x st1 => (b σ st1).bind fun y st2 => match x.seqd st2, y.seqd st2 with
  | some (ds, g), some (es, g') => .ok ⟨zipA ds es, fun st => g st ∧ g' st⟩ st2
  | _, _ => .bad
noncomputable def rangeC (lo c : Int) : Nat → List A
  | 0 => []
  | n + 1 => .v (.int lo) :: rangeC (lo + c) c n
/-- range(i, j, -1) -/
noncomputable def iRangeDn (a b : EF) : IF := fun σ st => (a σ st).bind fun x st1 => (b σ st1).bind fun y st2 => match x, y with
  | .v (.int i), .v (.int j) => gd (okR i ∧ okR j) (.ok ⟨rangeC i (-1) (i - j).toNat, fun _ => True⟩ st2) .bad
  | _, _ => .bad

/-! statements -/
noncomputable def sSeq (a b : SF) : SF := fun σ st => match a σ st with
  | .nx σ1 st1 => b σ1 st1
  | r => r
noncomputable def sNil : SF := fun σ st => .nx σ st
noncomputable def sPass : SF := fun σ st => .nx σ st
noncomputable def sBreak : SF := fun σ st => .bk σ st
noncomputable def sCont : SF := fun σ st => .ct σ st
noncomputable def RE.st {α : Type} (σ : Env) (r : RE α) (f : α → Store → RS) : RS := match r with
  | .ok a st => f a st
  | .err x st => .err x σ st
  | .bad => .bad
@[simp] theorem st_ok {α : Type} (σ : Env) (a : α) (st : Store) (f : α → Store → RS) : RE.st σ (.ok a st) f = f a st := rfl
@[simp] theorem st_err {α : Type} (σ : Env) (x : Exc) (st : Store) (f : α → Store → RS) : RE.st σ (.err x st) f = .err x σ st := rfl
@[simp] theorem st_bad {α : Type} (σ : Env) (f : α → Store → RS) : RE.st σ .bad f = .bad := rfl
noncomputable def sExpr (e : EF) : SF := fun σ st => (e σ st).st σ fun _ st1 => .nx σ st1
noncomputable def sRet (e : EF) : SF := fun σ st => (e σ st).st σ fun a st1 => .rt a st1
noncomputable def sRetN : SF := fun _ st => .rt (.v .non) st
noncomputable def sIf (t : TF) (a b : SF) : SF := fun σ st => (t σ st).st σ fun c st1 => if c = true then a σ st1 else b σ st1
noncomputable def sSet (i : Nat) (e : EF) : SF := fun σ st => (e σ st).st σ fun a st1 => .nx (σ.set i (some a)) st1
noncomputable def sAsg (e : EF) (t : TgF) : SF := fun σ st => (e σ st).st σ fun a st1 => match t a σ st1 with
  | some (σ2, st2) => .nx σ2 st2
  | none => .bad
noncomputable def sPar (i j : Nat) (a b : EF) : SF := fun σ st => (a σ st).st σ fun x st1 => (b σ st1).st σ fun y st2 => .nx ((σ.set i (some x)).set j (some y)) st2
noncomputable def sAug (i : Nat) (o : D → D → Option D) (e : EF) : SF := fun σ st => match σ[i]? with
  | some (some x) => (e σ st).st σ fun y st1 => match (x.view st1).bind fun d => (y.view st1).bind fun k => o d k with
    | some z => .nx (σ.set i (some (.v z))) st1
    | none => .bad
  | _ => .bad
/-- o[i] op= e, o a live list -/
noncomputable def sAugSub (p q : EF) (o : D → D → Option D) (e : EF) : SF := fun σ st => (p σ st).st σ fun x st1 => (q σ st1).st σ fun y st2 => match x, y with
  | .ref n, .v (.int k) => (match st2[n]? with
    | some (.lst xs) => (match (ixOf xs.length k).bind fun j => xs[j]? with
      | some old => (e σ st2).st σ fun w st3 => match (old.view st3).bind fun d => (w.view st3).bind fun u => o d u with
        | some z => (match setL n k (.v z) st3 with
          | some st4 => .nx σ st4
          | none => .bad)
        | none => .bad
      | none => .bad)
    | _ => .bad)
  | _, _ => .bad
open Classical in
noncomputable def forL (t : TgF) (b : SF) (g : Store → Prop) : List A → SF
  | [], σ, st => if g st then .nx σ st else .bad
  | x :: xs, σ, st => if g st then (match t x σ st with
    | some (σ1, st1) => (match b σ1 st1 with
      | .nx σ2 st2 => forL t b g xs σ2 st2
      | .ct σ2 st2 => forL t b g xs σ2 st2
      | .bk σ2 st2 => .nx σ2 st2
      | r => r)
    | none => .bad) else .bad
noncomputable def sFor (i : IF) (t : TgF) (b : SF) : SF := fun σ st => (i σ st).st σ fun s st1 => forL t b s.g s.xs σ st1
noncomputable def whileN (c : TF) (b : SF) : Nat → SF
  | 0, _, _ => .bad
  | n + 1, σ, st => (c σ st).st σ fun k st1 => if k = true then (match b σ st1 with
      | .nx σ2 st2 => whileN c b n σ2 st2
      | .ct σ2 st2 => whileN c b n σ2 st2
      | .bk σ2 st2 => .nx σ2 st2
      | r => r) else .nx σ st1
open Classical in
noncomputable def sWhile (c : TF) (b : SF) : SF := fun σ st => if h : ∃ n, whileN c b n σ st ≠ .bad then whileN c b (Classical.choose h) σ st else .bad
/-- the slots of a comprehension's own names forgotten -/
noncomputable def wipeE (σ : Env) : List Nat → Env
  | [] => σ
  | v :: vs => (wipeE σ vs).set v none
open Classical in
noncomputable def compL (t : TgF) (c : TF) (e : EF) (vs : List Nat) (g : Store → Prop) (σ : Env) : List A → List A → Store → RE (List A)
  | [], acc, st => if g st then .ok acc st else .bad
  | x :: xs, acc, st => if g st then (match t x (wipeE σ vs) st with
    | some (σ1, st1) => (match c σ1 st1 with
      | .ok true st2 => (match e σ1 st2 with
        | .ok a st3 => gd (acc.length < sizeMax) (compL t c e vs g σ xs (acc ++ [a]) st3) .bad
        | _ => .bad)
      | .ok false st2 => compL t c e vs g σ xs acc st2
      | _ => .bad)
    | none => .bad) else .bad
noncomputable def lComp (i : IF) (t : TgF) (c : TF) (e : EF) (vs : List Nat) : LF := fun σ st => (i σ st).bind fun s st1 => compL t c e vs s.g σ s.xs [] st1

/-! methods of live lists -/
noncomputable def fAppend (o e : EF) : EF := fun σ st => (o σ st).bind fun x st1 => match x with
  | .ref n => (e σ st1).bind fun a st2 => match putA n st2 a with
    | some (b, st3) => (match st3[n]? with
      | some (.lst xs) => gd (xs.length < sizeMax) (.ok (.v .non) (st3.set n (.lst (xs ++ [b])))) .bad
      | _ => .bad)
    | none => .bad
  | _ => .bad

/-! defs -/
noncomputable def retA (n : Nat) (a : A) (st : Store) : RE A := if a.below n = true then .ok a (st.take n) else match a.frz st with
  | some (d, st2) => .ok (.v d) (st2.take n)
  | none => .bad
noncomputable def fnV (N : Nat) (b : SF) (as : List A) (st : Store) : RE A := match b (as.map some ++ List.replicate (N - as.length) none) st with
  | .nx _ st' => .ok (.v .non) (st'.take st.length)
  | .rt a st' => retA st.length a st'
  | .err x _ st' => .err x (st'.take st.length)
  | _ => .bad
noncomputable def fnL (N : Nat) (b : SF) (as : List A) (st : Store) : RE (List A) := match b (as.map some ++ List.replicate (N - as.length) none) st with
  | .rt (.ref n) st' => gd (st.length ≤ n) (match st'[n]? with
    | some (.lst xs) => if xs.all (A.below st.length) = true then .ok xs (st'.take st.length) else .bad
    | _ => .bad) .bad
  | .err x _ st' => .err x (st'.take st.length)
  | _ => .bad

/-! operations of data -/
noncomputable def oAdd : D → D → Option D
  | .int i, .int j => some (.int (i + j))
  | _, _ => none
noncomputable def oSub : D → D → Option D
  | .int i, .int j => some (.int (i - j))
  | _, _ => none
set_option exponentiation.threshold 3000 in
def big : Nat := 2 ^ 2000
def divOk (j : Int) : Prop := j ≠ 0 ∧ j.natAbs < big
set_option exponentiation.threshold 3000 in
theorem lt_big {n : Nat} (h : n < 2 ^ 64) : n < big := Nat.lt_of_lt_of_le h (Nat.pow_le_pow_right (by decide) (by decide))
theorem divOk_of {j : Int} (h : j ≠ 0) (h2 : j.natAbs < 2 ^ 64) : divOk j := ⟨h, lt_big h2⟩
def mulOk (i j : Int) : Prop := ((-(2 ^ 64) < i ∧ i < 2 ^ 64) ∨ (-(2 ^ 64) < j ∧ j < 2 ^ 64)) ∨ (i.natAbs < big ∧ j.natAbs < big)
noncomputable def oMul : D → D → Option D
  | .int i, .int j => gd (mulOk i j) (some (.int (i * j))) none
  | _, _ => none
noncomputable def oDiv : D → D → Option D
  | .int i, .int j => gd (divOk j) (some (.int (i.fdiv j))) none
  | _, _ => none
noncomputable def oMod : D → D → Option D
  | .int i, .int j => gd (j ≠ 0) (some (.int (i.fmod j))) none
  | _, _ => none
noncomputable def oPow : D → D → Option D
  | .int i, .int j => gd (0 ≤ j ∧ j ≤ 1000000 ∧ i.natAbs < 2 ^ 64) (some (.int (i ^ j.toNat))) none
  | _, _ => none
noncomputable def oNeg : D → Option D
  | .int i => some (.int (-i))
  | _ => none
noncomputable def oLt : D → D → Option D
  | .int i, .int j => some (.bl (dec (i < j)))
  | _, _ => none
noncomputable def oLe : D → D → Option D
  | .int i, .int j => some (.bl (dec (i ≤ j)))
  | _, _ => none
noncomputable def oGt : D → D → Option D
  | .int i, .int j => some (.bl (dec (j < i)))
  | _, _ => none
noncomputable def oGe : D → D → Option D
  | .int i, .int j => some (.bl (dec (j ≤ i)))
  | _, _ => none
/-- equality of scalars; of anything with the empty list or an empty tuple -/
noncomputable def eqS : D → D → Option Bool
  | .int i, .int j => some (dec (i = j))
  | .bl i, .bl j => some (decide (i = j))
  | .str i, .str j => some (dec (i = j))
  | .non, .non => some true
  | .non, .int _ => some false
  | .int _, .non => some false
  | .non, .bl _ => some false
  | .bl _, .non => some false
  | .non, .str _ => some false
  | .str _, .non => some false
  | .int _, .str _ => some false
  | .str _, .int _ => some false
  | .bl _, .str _ => some false
  | .str _, .bl _ => some false
  | _, _ => none
noncomputable def oEqS (d e : D) : Option D := (eqS d e).map .bl
noncomputable def oNeS (d e : D) : Option D := (eqS d e).map fun b => .bl (!b)
noncomputable def oIsN : D → D → Option D
  | d, .non => some (.bl (match d with
    | .non => true
    | _ => false))
  | _, _ => none
noncomputable def oNotN : D → D → Option D
  | d, .non => some (.bl (match d with
    | .non => false
    | _ => true))
  | _, _ => none
noncomputable def flatD : D → Bool
  | .tup _ => false
  | .lst _ => false
  | .ro _ => false
  | _ => true
/-- == of flat things: True is 1 -/
noncomputable def eqF : D → D → Bool
  | .non, .non => true
  | .bl a, .bl b => a == b
  | .bl a, .int j => (if a then 1 else 0) == j
  | .int i, .bl b => i == (if b then 1 else 0)
  | .int i, .int j => i == j
  | .str x, .str y => x == y
  | _, _ => false
noncomputable def inF (x : D) (xs : List D) : Bool := xs.any fun y => eqF y x
noncomputable def oIn : D → D → Option D
  | x, .lst xs => if flatD x = true ∧ xs.all flatD = true then some (.bl (inF x xs)) else none
  | x, .tup xs => if flatD x = true ∧ xs.all flatD = true then some (.bl (inF x xs)) else none
  | _, _ => none
noncomputable def oNotIn : D → D → Option D
  | x, .lst xs => if flatD x = true ∧ xs.all flatD = true then some (.bl (!inF x xs)) else none
  | x, .tup xs => if flatD x = true ∧ xs.all flatD = true then some (.bl (!inF x xs)) else none
  | _, _ => none
noncomputable def bAbs : List D → Option D
  | [.int i] => some (.int (if i < 0 then -i else i))
  | _ => none
noncomputable def bMax2 : List D → Option D
  | [.int i, .int j] => some (.int (if j > i then j else i))
  | _ => none
noncomputable def bMin2 : List D → Option D
  | [.int i, .int j] => some (.int (if j < i then j else i))
  | _ => none
noncomputable def bInt : List D → Option D
  | [.int i] => some (.int i)
  | [.bl b] => some (.int (if b then 1 else 0))
  | _ => none
noncomputable def bLen : List D → Option D
  | [.lst xs] => some (.int xs.length)
  | [.tup xs] => some (.int xs.length)
  | _ => none
noncomputable def intsD : List D → Option (List Int)
  | [] => some []
  | .int i :: r => (intsD r).map (i :: ·)
  | _ :: _ => none
@[simp] theorem intsD_map (ns : List Int) : intsD (ns.map D.int) = some ns := by
  induction ns with
  | nil => rfl
  | cons d r ih => show (intsD (r.map D.int)).map (d :: ·) = _; rw [ih]; rfl
noncomputable def bSum : List D → Option D
  | [.lst xs] => (intsD xs).map fun ns => .int ns.sum
  | _ => none
/-- + of ints, tuples, lists -/
noncomputable def oAddU : D → D → Option D
  | .int i, .int j => some (.int (i + j))
  | .tup xs, .tup ys => gd (xs.length + ys.length ≤ sizeMax) (some (.tup (xs ++ ys))) none
  | .lst xs, .lst ys => gd (xs.length + ys.length ≤ sizeMax) (some (.lst (xs ++ ys))) none
  | _, _ => none
noncomputable def repD (n : Nat) (xs : List D) : List D := (List.replicate n xs).flatten
/-- * of ints, of a list and an int -/
noncomputable def oMulU : D → D → Option D
  | .int i, .int j => gd (mulOk i j) (some (.int (i * j))) none
  | .lst xs, .int k => gd (-(2 ^ 63) ≤ k ∧ k < 2 ^ 63 ∧ xs.length * k.toNat ≤ sizeMax) (some (.lst (repD k.toNat xs))) none
  | _, _ => none
/-- == of scalars, of a list with an empty one -/
noncomputable def eqU : D → D → Option Bool
  | .lst xs, .lst [] => some xs.isEmpty
  | .lst [], .lst (_ :: _) => some false
  | d, e => eqS d e
noncomputable def oEqU (d e : D) : Option D := (eqU d e).map .bl
noncomputable def oNeU (d e : D) : Option D := (eqU d e).map fun b => .bl (!b)
/-- is of anything with a truth value -/
noncomputable def oIsB : D → D → Option D
  | .bl a, .bl b => some (.bl (decide (a = b)))
  | _, .bl _ => some (.bl false)
  | _, _ => none
/-- len(x), x a list or a tuple, live ones too -/
noncomputable def fLen (a : EF) : EF := fun σ st => (a σ st).bind fun x st1 => RE.of ((x.elems st1).map fun xs => .v (.int xs.length)) st1
/-- tuple(x) -/
noncomputable def fTuple (a : EF) : EF := fun σ st => (a σ st).bind fun x st1 => match x.elems st1 with
  | some xs => (match frzL st1 xs with
    | some (ds, st2) => .ok (.v (.tup ds)) st2
    | none => .bad)
  | none => .bad
inductive Ty where
  | int | bool | str | tuple | list
noncomputable def isTy : D → Ty → Bool
  | .int _, .int => true
  | .bl _, .int => true
  | .bl _, .bool => true
  | .str _, .str => true
  | .tup _, .tuple => true
  | .lst _, .list => true
  | .ro _, .list => true
  | _, _ => false
noncomputable def fIsi (a : EF) (t : Ty) : EF := fun σ st => (a σ st).bind fun x st1 => RE.of ((x.view st1).map fun d => .v (.bl (isTy d t))) st1
noncomputable def insI (x : Int) : List Int → List Int
  | [] => [x]
  | y :: r => if x ≤ y then x :: y :: r else y :: insI x r
noncomputable def sortI : List Int → List Int
  | [] => []
  | x :: r => insI x (sortI r)
noncomputable def lSorted (a : EF) : LF := fun σ st => (a σ st).bind fun x st1 => RE.of ((x.view st1).bind fun d => match d with
  | .lst xs => (intsD xs).bind fun ns => gd (ns.length < 64) (some ((sortI ns).map fun i => .v (.int i))) none
  | _ => none) st1
noncomputable def lRange1 (a : EF) : LF := fun σ st => (a σ st).bind fun x st1 => match x with
  | .v (.int n) => gd (okR n ∧ n ≤ 16777216) (.ok (rangeA 0 n.toNat) st1) .bad
  | _ => .bad
noncomputable def maxI : List Int → Option Int
  | [] => none
  | x :: r => some (r.foldl (fun m y => if y > m then y else m) x)
noncomputable def minI : List Int → Option Int
  | [] => none
  | x :: r => some (r.foldl (fun m y => if y < m then y else m) x)
noncomputable def bMax : List D → Option D
  | [.lst xs] => (intsD xs).bind fun ns => (maxI ns).map .int
  | _ => none
noncomputable def bMin : List D → Option D
  | [.lst xs] => (intsD xs).bind fun ns => (minI ns).map .int
  | _ => none
noncomputable def boolsD : List D → Option (List Bool)
  | [] => some []
  | .bl i :: r => (boolsD r).map (i :: ·)
  | _ :: _ => none
@[simp] theorem boolsD_map (ns : List Bool) : boolsD (ns.map D.bl) = some ns := by
  induction ns with
  | nil => rfl
  | cons d r ih => show (boolsD (r.map D.bl)).map (d :: ·) = _; rw [ih]; rfl
noncomputable def bAll : List D → Option D
  | [.lst xs] => (boolsD xs).map fun bs => .bl (bs.all id)
  | _ => none
noncomputable def bAny : List D → Option D
  | [.lst xs] => (boolsD xs).map fun bs => .bl (bs.any id)
  | _ => none
noncomputable def pairD (p : Int × Int) : D := .tup [.int p.1, .int p.2]
noncomputable def pairsD : List D → Option (List (Int × Int))
  | [] => some []
  | .tup [.int i, .int j] :: r => (pairsD r).map ((i, j) :: ·)
  | _ :: _ => none
theorem pairsD_map (ps : List (Int × Int)) : pairsD (ps.map pairD) = some ps := by
  induction ps with
  | nil => rfl
  | cons p r ih => show (pairsD (r.map pairD)).map ((p.1, p.2) :: ·) = _; rw [ih]; rfl
def lePP (p q : Int × Int) : Prop := p.1 < q.1 ∨ (p.1 = q.1 ∧ p.2 ≤ q.2)
noncomputable def insP (x : Int × Int) : List (Int × Int) → List (Int × Int)
  | [] => [x]
  | y :: r => if dec (lePP x y) = true then x :: y :: r else y :: insP x r
noncomputable def sortP : List (Int × Int) → List (Int × Int)
  | [] => []
  | x :: r => insP x (sortP r)
/-- sorted(x), ints or pairs of ints, any number of them -/
noncomputable def lSortedU (a : EF) : LF := fun σ st => (a σ st).bind fun x st1 => RE.of ((x.view st1).bind fun d => match d with
  | .lst xs => match intsD xs with
    | some ns => some ((sortI ns).map fun i => .v (.int i))
    | none => (pairsD xs).map fun ps => (sortP ps).map fun p => .v (pairD p)
  | _ => none) st1
noncomputable def lexLtI : List Int → List Int → Bool
  | [], [] => false
  | [], _ :: _ => true
  | _ :: _, [] => false
  | x :: xs, y :: ys => if dec (x = y) = true then lexLtI xs ys else dec (x < y)
/-- < of ints, of tuples of ints -/
noncomputable def oLtU : D → D → Option D
  | .int i, .int j => some (.bl (dec (i < j)))
  | .tup xs, .tup ys => (intsD xs).bind fun ns => (intsD ys).map fun ms => .bl (lexLtI ns ms)
  | _, _ => none
/-- the items of a list or a tuple of data -/
noncomputable def seqD : D → Option (List D)
  | .lst xs => some xs
  | .tup xs => some xs
  | _ => none
noncomputable def bSumU : List D → Option D
  | [d] => (seqD d).bind fun xs => (intsD xs).map fun ns => .int ns.sum
  | _ => none
noncomputable def bMaxU : List D → Option D
  | [d] => (seqD d).bind fun xs => (intsD xs).bind fun ns => (maxI ns).map .int
  | _ => none
noncomputable def bMinU : List D → Option D
  | [d] => (seqD d).bind fun xs => (intsD xs).bind fun ns => (minI ns).map .int
  | _ => none
/-- an operation that makes a new list -/
noncomputable def lOp (o : D → D → Option (List D)) (a b : EF) : LF := fun σ st => (a σ st).bind fun x st1 => (b σ st1).bind fun y st2 =>
  RE.of ((x.view st2).bind fun d => (y.view st2).bind fun e => (o d e).map fun ds => ds.map .v) st2
noncomputable def oRepL : D → D → Option (List D)
  | .lst xs, .int k => gd (-(2 ^ 63) ≤ k ∧ k < 2 ^ 63 ∧ xs.length * k.toNat ≤ sizeMax) (some (repD k.toNat xs)) none
  | _, _ => none
noncomputable def oCatL : D → D → Option (List D)
  | .lst xs, .lst ys => gd (xs.length + ys.length ≤ sizeMax) (some (xs ++ ys)) none
  | _, _ => none
mutual
noncomputable def toPy : D → PyData
  | .non => .none
  | .bl b => .bool b
  | .int i => .int i
  | .str x => .str x
  | .tup xs => .tuple (toPyL xs)
  | .lst xs => .list (toPyL xs)
  | .ro xs => .list (toPyL xs)
noncomputable def toPyL : List D → List PyData
  | [] => []
  | d :: r => toPy d :: toPyL r
end
def shp (d : D) : Prop := SeqAt.shaped (toPy d) = true
noncomputable def eqDD (d e : D) : Bool := PyData.eqv (toPy d) (toPy e)
/-- == of anything -/
noncomputable def oEqG (d e : D) : Option D := match eqU d e with
  | some b => some (.bl b)
  | none => gd (shp d ∧ shp e) (some (.bl (eqDD d e))) none
noncomputable def oNeG (d e : D) : Option D := match eqS d e with
  | some b => some (.bl (!b))
  | none => gd (shp d ∧ shp e) (some (.bl (!eqDD d e))) none
end Dn

set_option linter.all false
set_option Elab.async false
/-! Sem: loops and comprehensions, in plain terms. -/
namespace Dn
open PySem
theorem bind_congr {α β : Type} {r r' : RE α} {f : α → Store → RE β} (h : r = r') : RE.bind r f = RE.bind r' f := by rw [h]
theorem st_congr {α : Type} {σ : Env} {r r' : RE α} {f : α → Store → RS} (h : r = r') : RE.st σ r f = RE.st σ r' f := by rw [h]
theorem obind_congr {α β : Type} {r r' : Option α} {f : α → Option β} (h : r = r') : Option.bind r f = Option.bind r' f := by rw [h]
def RS.seq (r : RS) (b : SF) : RS := match r with
  | .nx σ st => b σ st
  | r => r
theorem seq_eq (a b : SF) (σ : Env) (st : Store) : sSeq a b σ st = RS.seq (a σ st) b := rfl
theorem seq_congr {r r' : RS} {b : SF} (h : r = r') : RS.seq r b = RS.seq r' b := by rw [h]
@[simp] theorem seq_nx (σ : Env) (st : Store) (b : SF) : RS.seq (.nx σ st) b = b σ st := rfl
@[simp] theorem seq_rt (a : A) (st : Store) (b : SF) : RS.seq (.rt a st) b = .rt a st := rfl
@[simp] theorem seq_bk (σ : Env) (st : Store) (b : SF) : RS.seq (.bk σ st) b = .bk σ st := rfl
@[simp] theorem seq_ct (σ : Env) (st : Store) (b : SF) : RS.seq (.ct σ st) b = .ct σ st := rfl
@[simp] theorem seq_err (x : Exc) (σ : Env) (st : Store) (b : SF) : RS.seq (.err x σ st) b = .err x σ st := rfl
@[simp] theorem seq_bad (b : SF) : RS.seq .bad b = .bad := rfl
theorem seq_ite (c : Prop) [Decidable c] (x y : RS) (b : SF) : RS.seq (if c then x else y) b = if c then RS.seq x b else RS.seq y b := by split <;> rfl
theorem frzL_mapv {β : Type} (st : Store) (f : β → D) (ys : List β) : frzL st (ys.map fun y => A.v (f y)) = some (ys.map f, st) := by
  have := frzL_vals st (ys.map f)
  rw [List.map_map] at this
  exact this
theorem vals_mapv {β : Type} (f : β → D) (ys : List β) : vals (ys.map fun y => A.v (f y)) = some (ys.map f) := by
  have := vals_map (ys.map f)
  rw [List.map_map] at this
  exact this
theorem intsD_mapv {β : Type} (f : β → Int) (ys : List β) : intsD (ys.map fun y => D.int (f y)) = some (ys.map f) := by
  have := intsD_map (ys.map f)
  rw [List.map_map] at this
  exact this
theorem ixOf_lt {n : Nat} {i : Int} (h0 : 0 ≤ i) (h : i < n) : ixOf n i = some i.toNat := by
  unfold ixOf
  rw [gd_pos h0, gd_pos h]
theorem ixNat {n j : Nat} (h : j < n) : ixOf n (j : Int) = some j := by rw [ixOf_lt (by omega) (by omega)]; simp
theorem ixLast (n : Nat) : ixOf (n + 1) (-1) = some n := by
  unfold ixOf
  rw [gd_neg (by omega), gd_pos (by omega)]
  congr 1
  omega
theorem ix0 (n : Nat) : ixOf (n + 1) 0 = some 0 := ixNat (j := 0) (by omega)
theorem ix1 (n : Nat) : ixOf (n + 2) 1 = some 1 := ixNat (j := 1) (by omega)
theorem ix2 (n : Nat) : ixOf (n + 3) 2 = some 2 := ixNat (j := 2) (by omega)
theorem ix3 (n : Nat) : ixOf (n + 4) 3 = some 3 := ixNat (j := 3) (by omega)
theorem ix4 (n : Nat) : ixOf (n + 5) 4 = some 4 := ixNat (j := 4) (by omega)
theorem ix5 (n : Nat) : ixOf (n + 6) 5 = some 5 := ixNat (j := 5) (by omega)
theorem ix6 (n : Nat) : ixOf (n + 7) 6 = some 6 := ixNat (j := 6) (by omega)
theorem ix7 (n : Nat) : ixOf (n + 8) 7 = some 7 := ixNat (j := 7) (by omega)
theorem ix8 (n : Nat) : ixOf (n + 9) 8 = some 8 := ixNat (j := 8) (by omega)
theorem ix9 (n : Nat) : ixOf (n + 10) 9 = some 9 := ixNat (j := 9) (by omega)
theorem ix10 (n : Nat) : ixOf (n + 11) 10 = some 10 := ixNat (j := 10) (by omega)
theorem ix11 (n : Nat) : ixOf (n + 12) 11 = some 11 := ixNat (j := 11) (by omega)
theorem ix12 (n : Nat) : ixOf (n + 13) 12 = some 12 := ixNat (j := 12) (by omega)
theorem ix13 (n : Nat) : ixOf (n + 14) 13 = some 13 := ixNat (j := 13) (by omega)
theorem ix14 (n : Nat) : ixOf (n + 15) 14 = some 14 := ixNat (j := 14) (by omega)
theorem ix15 (n : Nat) : ixOf (n + 16) 15 = some 15 := ixNat (j := 15) (by omega)
theorem ix16 (n : Nat) : ixOf (n + 17) 16 = some 16 := ixNat (j := 16) (by omega)
theorem ix17 (n : Nat) : ixOf (n + 18) 17 = some 17 := ixNat (j := 17) (by omega)
theorem ix18 (n : Nat) : ixOf (n + 19) 18 = some 18 := ixNat (j := 18) (by omega)
theorem ix19 (n : Nat) : ixOf (n + 20) 19 = some 19 := ixNat (j := 19) (by omega)
theorem take_self (st : Store) : st.take st.length = st := List.take_length
theorem rangeA_eq (lo : Int) (n : Nat) : rangeA lo n = (List.range n).map fun i => A.v (.int (lo + (i : Nat))) := by
  induction n generalizing lo with
  | zero => rfl
  | succ n ih =>
    rw [List.range_succ_eq_map, List.map_cons, List.map_map]
    show A.v (D.int lo) :: rangeA (lo + 1) n = _
    rw [ih]
    congr 1
    · simp
    · apply List.map_congr_left
      intro i _
      simp only [Function.comp]
      congr 2
      omega
/-- a comprehension whose elements change nothing -/
theorem comp_pure {β : Type} (v : β → A) (p : β → Bool) (f : β → A) {t : TgF} {c : TF} {e : EF} {vs : List Nat} {g : Store → Prop} {σ : Env} {st : Store} (hg : g st) :
    ∀ (ys : List β) (acc : List A), (∀ y ∈ ys, ∃ σ1, t (v y) (wipeE σ vs) st = some (σ1, st) ∧ c σ1 st = .ok (p y) st ∧ (p y = true → e σ1 st = .ok (f y) st)) → acc.length + ys.length ≤ sizeMax →
      compL t c e vs g σ (ys.map v) acc st = .ok (acc ++ (ys.filter p).map f) st
  | [], acc, _, _ => by
    show compL t c e vs g σ [] acc st = _
    unfold compL
    rw [if_pos hg]
    simp
  | y :: ys, acc, h, hl => by
    obtain ⟨σ1, h1, h2, h3⟩ := h y List.mem_cons_self
    have hl' : acc.length + (ys.length + 1) ≤ sizeMax := hl
    rw [List.map_cons]
    unfold compL
    rw [if_pos hg, h1]
    dsimp only
    rw [h2]
    cases hp : p y with
    | true =>
      dsimp only
      rw [h3 hp]
      dsimp only
      rw [gd_pos (by omega), comp_pure v p f hg ys _ (fun z hz => h z (List.mem_cons_of_mem _ hz)) (by simp; omega)]
      simp [hp]
    | false =>
      dsimp only
      rw [comp_pure v p f hg ys _ (fun z hz => h z (List.mem_cons_of_mem _ hz)) (by omega)]
      simp [hp]
theorem fFrz_disp (as : List EF) (σ : Env) (st : Store) : fFrz (lDisp as) σ st = (fArgs as σ st).bind fun xs st1 => match frzL st1 xs with
  | some (ds, st2) => .ok (.v (.lst ds)) st2
  | none => .bad := rfl
theorem lDisp_eq (as : List EF) (σ : Env) (st : Store) : lDisp as σ st = fArgs as σ st := rfl
theorem fFrz_ok {l : LF} {σ : Env} {st st1 : Store} {ds : List D} (h : l σ st = .ok (ds.map .v) st1) : fFrz l σ st = .ok (.v (.lst ds)) st1 := by
  unfold fFrz
  rw [h]
  show (match frzL st1 (ds.map A.v) with
    | some (ds, st2) => RE.ok (A.v (D.lst ds)) st2
    | none => .bad) = _
  rw [frzL_vals]
/-- [f(y) for y in ys if p(y)] as data -/
theorem frz_comp {β : Type} (v : β → A) (fd : β → D) (p : β → Bool) (ys : List β) {i : IF} {t : TgF} {c : TF} {e : EF} {vs : List Nat} {g : Store → Prop} {σ : Env} {st : Store} (hi : i σ st = .ok ⟨ys.map v, g⟩ st) (hg : g st)
    (h : ∀ y ∈ ys, ∃ σ1, t (v y) (wipeE σ vs) st = some (σ1, st) ∧ c σ1 st = .ok (p y) st ∧ (p y = true → e σ1 st = .ok (.v (fd y)) st)) (hl : ys.length ≤ sizeMax) :
    fFrz (lComp i t c e vs) σ st = .ok (.v (.lst ((ys.filter p).map fd))) st := by
  apply fFrz_ok
  unfold lComp
  rw [hi]
  show compL t c e vs g σ (ys.map v) [] st = _
  rw [comp_pure v p (fun y => .v (fd y)) hg ys [] h (by simpa using hl)]
  simp
theorem frz_map {β : Type} (v : β → A) (fd : β → D) (ys : List β) {i : IF} {t : TgF} {c : TF} {e : EF} {vs : List Nat} {g : Store → Prop} {σ : Env} {st : Store} (hi : i σ st = .ok ⟨ys.map v, g⟩ st) (hg : g st)
    (h : ∀ y ∈ ys, ∃ σ1, t (v y) (wipeE σ vs) st = some (σ1, st) ∧ c σ1 st = .ok true st ∧ e σ1 st = .ok (.v (fd y)) st) (hl : ys.length ≤ sizeMax) :
    fFrz (lComp i t c e vs) σ st = .ok (.v (.lst (ys.map fd))) st := by
  rw [frz_comp v fd (fun _ => true) ys hi hg (fun y hy => by
    obtain ⟨σ1, h1, h2, h3⟩ := h y hy
    exact ⟨σ1, h1, h2, fun _ => h3⟩) hl, List.filter_eq_self.mpr (fun _ _ => rfl)]
/-- .. whose elements change the store -/
theorem frz_inv {β S : Type} (v : β → A) (I : S → Store) (R : β → D → Prop) (ys : List β) (s : S) {i : IF} {t : TgF} {c : TF} {e : EF} {vs : List Nat} {g : Store → Prop} {σ : Env} (hi : ∀ s, i σ (I s) = .ok ⟨ys.map v, g⟩ (I s)) (hg : ∀ s, g (I s))
    (h : ∀ y ∈ ys, ∀ s, ∃ σ1 s1 d, t (v y) (wipeE σ vs) (I s) = some (σ1, I s) ∧ c σ1 (I s) = .ok true (I s) ∧ e σ1 (I s) = .ok (.v d) (I s1) ∧ R y d) (hl : ys.length ≤ sizeMax) :
    ∃ (ds : List D) (s' : S), fFrz (lComp i t c e vs) σ (I s) = .ok (.v (.lst ds)) (I s') ∧ ds.length = ys.length ∧ ∀ (j : Nat) (y : β) (d : D), ys[j]? = some y → ds[j]? = some d → R y d := by
  have go : ∀ (ys : List β) (acc : List A) (s : S), (∀ y ∈ ys, ∀ s, ∃ σ1 s1 d, t (v y) (wipeE σ vs) (I s) = some (σ1, I s) ∧ c σ1 (I s) = .ok true (I s) ∧ e σ1 (I s) = .ok (.v d) (I s1) ∧ R y d) → acc.length + ys.length ≤ sizeMax →
      ∃ (ds : List D) (s' : S), compL t c e vs g σ (ys.map v) acc (I s) = .ok (acc ++ ds.map A.v) (I s') ∧ ds.length = ys.length ∧ ∀ (j : Nat) (y : β) (d : D), ys[j]? = some y → ds[j]? = some d → R y d := by
    intro ys
    induction ys with
    | nil =>
      intro acc s _ _
      refine ⟨[], s, ?_, rfl, fun j y d h => by simp at h⟩
      show compL t c e vs g σ [] acc (I s) = _
      unfold compL
      rw [if_pos (hg s)]
      simp
    | cons y ys ih =>
      intro acc s h hl
      have hl' : acc.length + (ys.length + 1) ≤ sizeMax := hl
      obtain ⟨σ1, s1, d, h1, h2, h3, h4⟩ := h y List.mem_cons_self s
      obtain ⟨ds, s', q1, q2, q3⟩ := ih (acc ++ [.v d]) s1 (fun z hz => h z (List.mem_cons_of_mem _ hz)) (by simp; omega)
      refine ⟨d :: ds, s', ?_, by simp [q2], fun j z w hz hw => ?_⟩
      · rw [List.map_cons]
        unfold compL
        rw [if_pos (hg s), h1]
        dsimp only
        rw [h2]
        dsimp only
        rw [h3]
        dsimp only
        rw [gd_pos (by omega), q1]
        simp
      · cases j with
        | zero => simp at hz hw; subst hz hw; exact h4
        | succ j => exact q3 j z w (by simpa using hz) (by simpa using hw)
  obtain ⟨ds, s', h1, h2, h3⟩ := go ys [] s h (by simpa using hl)
  refine ⟨ds, s', fFrz_ok ?_, h2, h3⟩
  unfold lComp
  rw [hi]
  exact h1
theorem insI_perm (x : Int) : ∀ l : List Int, (insI x l).Perm (x :: l)
  | [] => .refl _
  | y :: r => by
    unfold insI
    split
    · exact .refl _
    · exact ((insI_perm x r).cons y).trans (.swap x y r)
theorem sortI_perm : ∀ l : List Int, (sortI l).Perm l
  | [] => .refl _
  | x :: r => (insI_perm x _).trans ((sortI_perm r).cons x)
theorem insI_pw (x : Int) : ∀ l : List Int, l.Pairwise (· ≤ ·) → (insI x l).Pairwise (· ≤ ·)
  | [], _ => by unfold insI; exact List.pairwise_singleton _ _
  | y :: r, h => by
    unfold insI
    have h' := List.pairwise_cons.mp h
    split
    · rename_i hxy
      refine List.pairwise_cons.mpr ⟨fun z hz => ?_, h⟩
      rcases List.mem_cons.mp hz with q | q
      · rw [q]; exact hxy
      · exact Int.le_trans hxy (h'.1 z q)
    · rename_i hxy
      refine List.pairwise_cons.mpr ⟨fun z hz => ?_, insI_pw x r h'.2⟩
      rcases List.mem_cons.mp ((insI_perm x r).mem_iff.mp hz) with q | q
      · rw [q]; omega
      · exact h'.1 z q
theorem sortI_pw : ∀ l : List Int, (sortI l).Pairwise (· ≤ ·)
  | [] => .nil
  | x :: r => insI_pw x _ (sortI_pw r)
theorem sort_uniq {a b : List Int} (hp : a.Perm b) (ha : a.Pairwise (· ≤ ·)) (hb : b.Pairwise (· ≤ ·)) : a = b :=
  List.Perm.eq_of_pairwise (fun x y _ _ h1 h2 => Int.le_antisymm h1 h2) ha hb hp
/-! loops over written lists -/
noncomputable def RS.lp (r : RS) (k : SF) : RS := match r with
  | .nx σ st => k σ st
  | .ct σ st => k σ st
  | .bk σ st => .nx σ st
  | r => r
theorem lp_congr {r r' : RS} {b : SF} (h : r = r') : RS.lp r b = RS.lp r' b := by rw [h]
theorem lp_nx (σ : Env) (st : Store) (b : SF) : RS.lp (.nx σ st) b = b σ st := rfl
theorem lp_ct (σ : Env) (st : Store) (b : SF) : RS.lp (.ct σ st) b = b σ st := rfl
theorem lp_bk (σ : Env) (st : Store) (b : SF) : RS.lp (.bk σ st) b = .nx σ st := rfl
theorem lp_rt (a : A) (st : Store) (b : SF) : RS.lp (.rt a st) b = .rt a st := rfl
theorem lp_err (x : Exc) (σ : Env) (st : Store) (b : SF) : RS.lp (.err x σ st) b = .err x σ st := rfl
theorem forT_nil (t : TgF) (b : SF) (σ : Env) (st : Store) : forL t b (fun _ => True) [] σ st = .nx σ st := by
  unfold forL
  rw [if_pos trivial]
theorem forT_cons (i : Nat) (b : SF) (x : A) (xs : List A) (σ : Env) (st : Store) : forL (tgName i) b (fun _ => True) (x :: xs) σ st = RS.lp (b (σ.set i (some x)) st) (forL (tgName i) b (fun _ => True) xs) := by
  rw [forL, if_pos trivial]
  show (match b (σ.set i (some x)) st with
      | .nx σ2 st2 => forL (tgName i) b (fun _ => True) xs σ2 st2
      | .ct σ2 st2 => forL (tgName i) b (fun _ => True) xs σ2 st2
      | .bk σ2 st2 => .nx σ2 st2
      | r => r) = _
  unfold RS.lp
  cases b (σ.set i (some x)) st <;> rfl
inductive All2 {α β : Type} (R : α → β → Prop) : List α → List β → Prop
  | nil : All2 R [] []
  | cons {a : α} {b : β} {as : List α} {bs : List β} : R a b → All2 R as bs → All2 R (a :: as) (b :: bs)
theorem All2.len {α β : Type} {R : α → β → Prop} : ∀ {as : List α} {bs : List β}, All2 R as bs → as.length = bs.length
  | _, _, .nil => rfl
  | _, _, .cons _ t => by rw [List.length_cons, List.length_cons, t.len]
theorem All2.right {α β : Type} {R : α → β → Prop} {P : β → Prop} (h : ∀ a b, R a b → P b) : ∀ {as : List α} {bs : List β}, All2 R as bs → ∀ b ∈ bs, P b
  | _, _, .nil, _, hb => by cases hb
  | _, _, .cons r t, b, hb => by
    rcases List.mem_cons.mp hb with q | q
    · rw [q]; exact h _ _ r
    · exact t.right h b q
/-- a comprehension whose elements change the store, within the invariant I -/
theorem comp_inv {β S : Type} (v : β → A) (I : S → Store) (R : β → A → Prop) {t : TgF} {c : TF} {e : EF} {vs : List Nat} {g : Store → Prop} {σ : Env} (hg : ∀ s, g (I s)) :
    ∀ (ys : List β) (acc : List A) (s : S), (∀ y ∈ ys, ∀ s, ∃ σ1 s1 a, t (v y) (wipeE σ vs) (I s) = some (σ1, I s) ∧ c σ1 (I s) = .ok true (I s) ∧ e σ1 (I s) = .ok a (I s1) ∧ R y a) → acc.length + ys.length ≤ sizeMax →
      ∃ as s', compL t c e vs g σ (ys.map v) acc (I s) = .ok (acc ++ as) (I s') ∧ All2 R ys as
  | [], acc, s, _, _ => ⟨[], s, by
    show compL t c e vs g σ [] acc (I s) = _
    unfold compL
    rw [if_pos (hg s)]
    simp, .nil⟩
  | y :: ys, acc, s, h, hl => by
    obtain ⟨σ1, s1, a, h1, h2, h3, h4⟩ := h y List.mem_cons_self s
    have hl' : acc.length + (ys.length + 1) ≤ sizeMax := hl
    obtain ⟨as, s', q1, q2⟩ := comp_inv v I R hg ys (acc ++ [a]) s1 (fun z hz => h z (List.mem_cons_of_mem _ hz)) (by simp; omega)
    refine ⟨a :: as, s', ?_, .cons h4 q2⟩
    rw [List.map_cons]
    unfold compL
    rw [if_pos (hg s), h1]
    dsimp only
    rw [h2]
    dsimp only
    rw [h3]
    dsimp only
    rw [gd_pos (by omega), q1]
    simp
/-- .. and whose test may drop some -/
theorem comp_invF {β S : Type} (v : β → A) (I : S → Store) (R : β → A → Prop) {t : TgF} {c : TF} {e : EF} {vs : List Nat} {g : Store → Prop} {σ : Env} (hg : ∀ s, g (I s)) :
    ∀ (ys : List β) (acc : List A) (s : S), (∀ y ∈ ys, ∀ s, ∃ σ1 s1 b, t (v y) (wipeE σ vs) (I s) = some (σ1, I s) ∧ c σ1 (I s) = .ok b (I s1) ∧ (b = true → ∃ s2 a, e σ1 (I s1) = .ok a (I s2) ∧ R y a)) → acc.length + ys.length ≤ sizeMax →
      ∃ as s' zs, compL t c e vs g σ (ys.map v) acc (I s) = .ok (acc ++ as) (I s') ∧ zs.Sublist ys ∧ All2 R zs as
  | [], acc, s, _, _ => ⟨[], s, [], by
    show compL t c e vs g σ [] acc (I s) = _
    unfold compL
    rw [if_pos (hg s)]
    simp, .refl _, .nil⟩
  | y :: ys, acc, s, h, hl => by
    obtain ⟨σ1, s1, b, h1, h2, h3⟩ := h y List.mem_cons_self s
    have hl' : acc.length + (ys.length + 1) ≤ sizeMax := hl
    cases b with
    | true =>
      obtain ⟨s2, a, h4, h5⟩ := h3 rfl
      obtain ⟨as, s', zs, q1, q2, q3⟩ := comp_invF v I R hg ys (acc ++ [a]) s2 (fun z hz => h z (List.mem_cons_of_mem _ hz)) (by simp; omega)
      refine ⟨a :: as, s', y :: zs, ?_, q2.cons_cons _, .cons h5 q3⟩
      rw [List.map_cons]
      unfold compL
      rw [if_pos (hg s), h1]
      dsimp only
      rw [h2]
      dsimp only
      rw [h4]
      dsimp only
      rw [gd_pos (by omega), q1]
      simp
    | false =>
      obtain ⟨as, s', zs, q1, q2, q3⟩ := comp_invF v I R hg ys acc s1 (fun z hz => h z (List.mem_cons_of_mem _ hz)) (by omega)
      refine ⟨as, s', zs, ?_, q2.cons _, q3⟩
      rw [List.map_cons]
      unfold compL
      rw [if_pos (hg s), h1]
      dsimp only
      rw [h2]
      dsimp only
      rw [q1]
/-- a loop by its invariant; a turn may also leave it with a result of Q -/
theorem for_inv {β : Type} (v : β → A) {t : TgF} {b : SF} {g : Store → Prop} (all : List β) (P : List β → Env → Store → Prop) (Q : RS → Prop) (hg : ∀ pre σ st, P pre σ st → g st)
    (hs : ∀ pre y post σ st, all = pre ++ y :: post → P pre σ st → ∃ σ1 st1, t (v y) σ st = some (σ1, st1) ∧
      ((∃ σ2 st2, (b σ1 st1 = .nx σ2 st2 ∨ b σ1 st1 = .ct σ2 st2) ∧ P (pre ++ [y]) σ2 st2) ∨ (∃ σ2 st2, b σ1 st1 = .bk σ2 st2 ∧ Q (.nx σ2 st2)) ∨ (∃ a st2, b σ1 st1 = .rt a st2 ∧ Q (.rt a st2)))) :
    ∀ (ys pre : List β) (σ : Env) (st : Store), all = pre ++ ys → P pre σ st → (∃ σ' st', forL t b g (ys.map v) σ st = .nx σ' st' ∧ P all σ' st') ∨ Q (forL t b g (ys.map v) σ st)
  | [], pre, σ, st, he, hp => .inl ⟨σ, st, by
    show forL t b g [] σ st = _
    unfold forL
    rw [if_pos (hg _ _ _ hp)], by rw [he, List.append_nil]; exact hp⟩
  | y :: ys, pre, σ, st, he, hp => by
    obtain ⟨σ1, st1, h1, h2⟩ := hs pre y ys σ st he hp
    rw [List.map_cons]
    have e : forL t b g (v y :: ys.map v) σ st = (match b σ1 st1 with
        | .nx σ2 st2 => forL t b g (ys.map v) σ2 st2
        | .ct σ2 st2 => forL t b g (ys.map v) σ2 st2
        | .bk σ2 st2 => .nx σ2 st2
        | r => r) := by
      rw [forL, if_pos (hg _ _ _ hp), h1] <;> (dsimp only; cases b σ1 st1 <;> rfl)
    rw [e]
    rcases h2 with ⟨σ2, st2, h3, h4⟩ | ⟨σ2, st2, h3, h4⟩ | ⟨a, st2, h3, h4⟩
    · have ih := for_inv v all P Q hg hs ys (pre ++ [y]) σ2 st2 (by rw [he]; simp) h4
      rcases h3 with h3 | h3
      · rw [h3]; exact ih
      · rw [h3]; exact ih
    · rw [h3]; exact .inr h4
    · rw [h3]; exact .inr h4
theorem for_all {β : Type} (v : β → A) {t : TgF} {b : SF} {g : Store → Prop} (all : List β) (P : List β → Env → Store → Prop) (hg : ∀ pre σ st, P pre σ st → g st)
    (hs : ∀ pre y post σ st, all = pre ++ y :: post → P pre σ st → ∃ σ1 st1 σ2 st2, t (v y) σ st = some (σ1, st1) ∧ (b σ1 st1 = .nx σ2 st2 ∨ b σ1 st1 = .ct σ2 st2) ∧ P (pre ++ [y]) σ2 st2) {σ : Env} {st : Store} (h0 : P [] σ st) :
    ∃ σ' st', forL t b g (all.map v) σ st = .nx σ' st' ∧ P all σ' st' := by
  rcases for_inv v all P (fun _ => False) hg (fun pre y post σ st e p => by
    obtain ⟨σ1, st1, σ2, st2, h1, h2, h3⟩ := hs pre y post σ st e p
    exact ⟨σ1, st1, h1, .inl ⟨σ2, st2, h2, h3⟩⟩) all [] σ st rfl h0 with h | h
  · exact h
  · exact h.elim
theorem All2.eq {α β : Type} {f : α → β} : ∀ {as : List α} {bs : List β}, All2 (fun a b => b = f a) as bs → bs = as.map f
  | _, _, .nil => rfl
  | _, _, .cons h t => by rw [List.map_cons, h, t.eq]
/-- [y for y in ys if drawn] -/
theorem frz_invF {β S : Type} (v : β → A) (I : S → Store) (fd : β → D) (ys : List β) (s : S) {i : IF} {t : TgF} {c : TF} {e : EF} {vs : List Nat} {g : Store → Prop} {σ : Env} (hi : ∀ s, i σ (I s) = .ok ⟨ys.map v, g⟩ (I s)) (hg : ∀ s, g (I s))
    (h : ∀ y ∈ ys, ∀ s, ∃ σ1 s1 b, t (v y) (wipeE σ vs) (I s) = some (σ1, I s) ∧ c σ1 (I s) = .ok b (I s1) ∧ (b = true → e σ1 (I s1) = .ok (.v (fd y)) (I s1))) (hl : ys.length ≤ sizeMax) :
    ∃ (zs : List β) (s' : S), fFrz (lComp i t c e vs) σ (I s) = .ok (.v (.lst (zs.map fd))) (I s') ∧ zs.Sublist ys := by
  obtain ⟨as, s', zs, h1, h2, h3⟩ := comp_invF v I (fun y a => a = .v (fd y)) (t := t) (c := c) (e := e) (vs := vs) (g := g) (σ := σ) hg ys [] s (fun y hy s => by
    obtain ⟨σ1, s1, b, q1, q2, q3⟩ := h y hy s
    exact ⟨σ1, s1, b, q1, q2, fun hb => ⟨s1, _, q3 hb, rfl⟩⟩) (by simpa using hl)
  have e1 := h3.eq
  refine ⟨zs, s', fFrz_ok ?_, h2⟩
  unfold lComp
  rw [hi]
  show compL t c e vs g σ (ys.map v) [] (I s) = _
  rw [h1, e1, List.nil_append, List.map_map]
  rfl
theorem insP_perm (x : Int × Int) : ∀ l, (insP x l).Perm (x :: l)
  | [] => .refl _
  | y :: r => by
    unfold insP
    split
    · exact .refl _
    · exact (List.Perm.cons y (insP_perm x r)).trans (.swap _ _ _)
theorem sortP_perm : ∀ l, (sortP l).Perm l
  | [] => .refl _
  | x :: r => (insP_perm x (sortP r)).trans (.cons x (sortP_perm r))
theorem lePP_total {p q : Int × Int} (h : ¬ lePP p q) : lePP q p := by unfold lePP at *; omega
theorem lePP_trans {p q r : Int × Int} (h : lePP p q) (h2 : lePP q r) : lePP p r := by unfold lePP at *; omega
theorem lePP_anti {p q : Int × Int} (h : lePP p q) (h2 : lePP q p) : p = q := by
  unfold lePP at *
  exact Prod.ext (by omega) (by omega)
theorem insP_pw (x : Int × Int) : ∀ {l}, l.Pairwise lePP → (insP x l).Pairwise lePP
  | [], _ => List.pairwise_singleton _ _
  | y :: r, h => by
    have ⟨h1, h2⟩ := List.pairwise_cons.mp h
    unfold insP
    split
    · rename_i q
      rw [dec_iff] at q
      refine List.pairwise_cons.mpr ⟨fun z hz => ?_, h⟩
      rcases List.mem_cons.mp hz with e | hz
      · rw [e]; exact q
      · exact lePP_trans q (h1 z hz)
    · rename_i q
      rw [dec_iff] at q
      refine List.pairwise_cons.mpr ⟨fun z hz => ?_, insP_pw x h2⟩
      rcases List.mem_cons.mp ((insP_perm x r).mem_iff.mp hz) with e | hz
      · rw [e]; exact lePP_total q
      · exact h1 z hz
theorem sortP_pw : ∀ l, (sortP l).Pairwise lePP
  | [] => .nil
  | x :: r => insP_pw x (sortP_pw r)
theorem pair_uniq : ∀ {l m : List (Int × Int)}, l.Perm m → l.Pairwise lePP → m.Pairwise lePP → l = m
  | [], m, p, _, _ => (List.Perm.eq_nil p.symm).symm
  | x :: l, [], p, _, _ => absurd p.length_eq (by simp)
  | x :: l, y :: m, p, hl, hm => by
    have ⟨a1, a2⟩ := List.pairwise_cons.mp hl
    have ⟨b1, b2⟩ := List.pairwise_cons.mp hm
    have e : x = y := by
      rcases List.mem_cons.mp (p.mem_iff.mp List.mem_cons_self) with e | hx
      · exact e
      · rcases List.mem_cons.mp (p.mem_iff.mpr List.mem_cons_self) with e | hy
        · exact e.symm
        · exact lePP_anti (a1 y hy) (b1 x hx)
    subst e
    rw [pair_uniq p.cons_inv a2 b2]
theorem maxI_spec : ∀ {ns : List Int} {m : Int}, maxI ns = some m → m ∈ ns ∧ ∀ y ∈ ns, y ≤ m := by
  have go : ∀ (r : List Int) (x : Int), (r.foldl (fun m y => if y > m then y else m) x = x ∨ r.foldl (fun m y => if y > m then y else m) x ∈ r) ∧ x ≤ r.foldl (fun m y => if y > m then y else m) x ∧ ∀ y ∈ r, y ≤ r.foldl (fun m y => if y > m then y else m) x := by
    intro r
    induction r with
    | nil => intro x; exact ⟨.inl rfl, Int.le_refl _, fun _ h => by cases h⟩
    | cons z r ih =>
      intro x
      obtain ⟨h1, h2, h3⟩ := ih (if z > x then z else x)
      rw [List.foldl_cons]
      refine ⟨?_, ?_, fun y hy => ?_⟩
      · rcases h1 with h1 | h1
        · rw [h1]
          split
          · exact .inr List.mem_cons_self
          · exact .inl rfl
        · exact .inr (List.mem_cons_of_mem _ h1)
      · refine Int.le_trans ?_ h2
        split <;> omega
      · rcases List.mem_cons.mp hy with q | q
        · rw [q]
          refine Int.le_trans ?_ h2
          split <;> omega
        · exact h3 y q
  intro ns m h
  cases ns with
  | nil => cases h
  | cons x r =>
    cases h
    obtain ⟨h1, h2, h3⟩ := go r x
    refine ⟨?_, fun y hy => ?_⟩
    · rcases h1 with h1 | h1
      · rw [h1]; exact List.mem_cons_self
      · exact List.mem_cons_of_mem _ h1
    · rcases List.mem_cons.mp hy with q | q
      · rw [q]; exact h2
      · exact h3 y q
theorem minI_spec : ∀ {ns : List Int} {m : Int}, minI ns = some m → m ∈ ns ∧ ∀ y ∈ ns, m ≤ y := by
  have go : ∀ (r : List Int) (x : Int), (r.foldl (fun m y => if y < m then y else m) x = x ∨ r.foldl (fun m y => if y < m then y else m) x ∈ r) ∧ r.foldl (fun m y => if y < m then y else m) x ≤ x ∧ ∀ y ∈ r, r.foldl (fun m y => if y < m then y else m) x ≤ y := by
    intro r
    induction r with
    | nil => intro x; exact ⟨.inl rfl, Int.le_refl _, fun _ h => by cases h⟩
    | cons z r ih =>
      intro x
      obtain ⟨h1, h2, h3⟩ := ih (if z < x then z else x)
      rw [List.foldl_cons]
      refine ⟨?_, ?_, fun y hy => ?_⟩
      · rcases h1 with h1 | h1
        · rw [h1]
          split
          · exact .inr List.mem_cons_self
          · exact .inl rfl
        · exact .inr (List.mem_cons_of_mem _ h1)
      · refine Int.le_trans h2 ?_
        split <;> omega
      · rcases List.mem_cons.mp hy with q | q
        · rw [q]
          refine Int.le_trans h2 ?_
          split <;> omega
        · exact h3 y q
  intro ns m h
  cases ns with
  | nil => cases h
  | cons x r =>
    cases h
    obtain ⟨h1, h2, h3⟩ := go r x
    refine ⟨?_, fun y hy => ?_⟩
    · rcases h1 with h1 | h1
      · rw [h1]; exact List.mem_cons_self
      · exact List.mem_cons_of_mem _ h1
    · rcases List.mem_cons.mp hy with q | q
      · rw [q]; exact h2
      · exact h3 y q

theorem maxI_some {ns : List Int} (h : ns ≠ []) : ∃ m, maxI ns = some m := by
  cases ns with
  | nil => exact absurd rfl h
  | cons x r => exact ⟨_, rfl⟩
theorem minI_some {ns : List Int} (h : ns ≠ []) : ∃ m, minI ns = some m := by
  cases ns with
  | nil => exact absurd rfl h
  | cons x r => exact ⟨_, rfl⟩
/-! while -/
theorem whileN_succ (c : TF) (b : SF) (n : Nat) (σ : Env) (st : Store) : whileN c b (n + 1) σ st = (c σ st).st σ fun k st1 => if k = true then (match b σ st1 with
      | .nx σ2 st2 => whileN c b n σ2 st2
      | .ct σ2 st2 => whileN c b n σ2 st2
      | .bk σ2 st2 => .nx σ2 st2
      | r => r) else .nx σ st1 := rfl
theorem while_step {c : TF} {b : SF} {n : Nat} {σ σ2 : Env} {st st1 st2 : Store} (hc : c σ st = .ok true st1) (hb : b σ st1 = .nx σ2 st2) : whileN c b (n + 1) σ st = whileN c b n σ2 st2 := by
  rw [whileN_succ, hc, st_ok, if_pos rfl, hb]
theorem while_stop {c : TF} {b : SF} {n : Nat} {σ : Env} {st st1 : Store} (hc : c σ st = .ok false st1) : whileN c b (n + 1) σ st = .nx σ st1 := by
  rw [whileN_succ, hc, st_ok, if_neg (by decide)]
theorem whileN_mono {c : TF} {b : SF} : ∀ (n : Nat) (σ : Env) (st : Store), whileN c b n σ st ≠ .bad → ∀ m, n ≤ m → whileN c b m σ st = whileN c b n σ st
  | 0, σ, st, h, m, _ => absurd rfl h
  | n + 1, σ, st, h, 0, hm => by omega
  | n + 1, σ, st, h, m + 1, hm => by
    rw [whileN_succ] at h
    rw [whileN_succ, whileN_succ]
    cases q : c σ st with
    | bad => rfl
    | err x s => rfl
    | ok kk st1 =>
      rw [q] at h
      rw [st_ok] at h
      rw [st_ok, st_ok]
      cases kk with
      | false => rfl
      | true =>
        rw [if_pos rfl] at h
        rw [if_pos rfl, if_pos rfl]
        cases q2 : b σ st1 with
        | nx σ2 st2 => rw [q2] at h; exact whileN_mono n σ2 st2 h m (by omega)
        | ct σ2 st2 => rw [q2] at h; exact whileN_mono n σ2 st2 h m (by omega)
        | bk σ2 st2 => rfl
        | rt a st2 => rfl
        | err x s s2 => rfl
        | bad => rfl
theorem while_of {c : TF} {b : SF} {n : Nat} {σ : Env} {st : Store} {r : RS} (h : whileN c b n σ st = r) (hr : r ≠ .bad) : sWhile c b σ st = r := by
  have hx : ∃ n, whileN c b n σ st ≠ .bad := ⟨n, by rw [h]; exact hr⟩
  unfold sWhile
  rw [dif_pos hx]
  have h2 := Classical.choose_spec hx
  rcases Nat.le_total n (Classical.choose hx) with q | q
  · rw [whileN_mono n σ st (by rw [h]; exact hr) _ q, h]
  · rw [← whileN_mono _ σ st h2 n q, h]
theorem ints_of {P : Int → Prop} : ∀ ds : List D, (∀ d ∈ ds, ∃ i, d = .int i ∧ P i) → ∃ ns : List Int, ds = ns.map D.int ∧ ∀ n ∈ ns, P n
  | [], _ => ⟨[], rfl, fun _ h => by cases h⟩
  | d :: r, h => by
    obtain ⟨i, rfl, hi⟩ := h d List.mem_cons_self
    obtain ⟨ns, rfl, hn⟩ := ints_of r fun e he => h e (List.mem_cons_of_mem _ he)
    refine ⟨i :: ns, rfl, fun n hm => ?_⟩
    rcases List.mem_cons.mp hm with q | q
    · rw [q]; exact hi
    · exact hn n q
theorem perm_sum {a b : List Int} (h : a.Perm b) : a.sum = b.sum := by
  induction h with
  | nil => rfl
  | cons x _ ih => rw [List.sum_cons, List.sum_cons, ih]
  | swap x y l => simp only [List.sum_cons]; omega
  | trans _ _ h1 h2 => rw [h1, h2]

theorem shp_nil : shp (.lst []) := by unfold shp toPy toPyL; decide +kernel
theorem eq_nil : eqDD (.lst []) (.lst []) = true := by unfold eqDD toPy toPyL; rfl

theorem oEqG_int (i j : Int) : oEqG (.int i) (.int j) = some (.bl (dec (i = j))) := rfl
theorem oEqG_bl (i j : Bool) : oEqG (.bl i) (.bl j) = some (.bl (decide (i = j))) := rfl
theorem oEqG_str (i j : Str) : oEqG (.str i) (.str j) = some (.bl (dec (i = j))) := rfl
theorem oEqG_nn : oEqG .non .non = some (.bl true) := rfl
theorem oEqG_ni (i : Int) : oEqG .non (.int i) = some (.bl false) := rfl
theorem oEqG_in (i : Int) : oEqG (.int i) .non = some (.bl false) := rfl
theorem oEqG_nil (xs : List D) : oEqG (.lst xs) (.lst []) = some (.bl xs.isEmpty) := by cases xs <;> rfl
theorem oEqG_nil2 (x : D) (xs : List D) : oEqG (.lst []) (.lst (x :: xs)) = some (.bl false) := rfl
theorem oNeG_int (i j : Int) : oNeG (.int i) (.int j) = some (.bl (!dec (i = j))) := rfl
theorem oNeG_bl (i j : Bool) : oNeG (.bl i) (.bl j) = some (.bl (!decide (i = j))) := rfl
theorem oNeG_str (i j : Str) : oNeG (.str i) (.str j) = some (.bl (!dec (i = j))) := rfl
theorem oNeG_nn : oNeG .non .non = some (.bl false) := rfl
theorem oNeG_ni (i : Int) : oNeG .non (.int i) = some (.bl true) := rfl
theorem oNeG_in (i : Int) : oNeG (.int i) .non = some (.bl true) := rfl
theorem oNeG_nil0 : oNeG (.lst []) (.lst []) = some (.bl false) := by
  show gd (shp (.lst []) ∧ shp (.lst [])) (some (D.bl (!eqDD (.lst []) (.lst [])))) none = _
  rw [gd_pos ⟨shp_nil, shp_nil⟩, eq_nil]
  rfl
theorem oNeG_nil {xs : List D} (h : shp (.lst xs)) : oNeG (.lst xs) (.lst []) = some (.bl (!xs.isEmpty)) := by
  have e : eqDD (.lst xs) (.lst []) = xs.isEmpty := by
    cases xs with
    | nil => exact eq_nil
    | cons x r => unfold eqDD toPy toPyL; rfl
  show gd (shp (.lst xs) ∧ shp (.lst [])) (some (D.bl (!eqDD (.lst xs) (.lst [])))) none = _
  rw [gd_pos ⟨h, shp_nil⟩, e]
end Dn

set_option linter.all false
set_option Elab.async false
set_option maxRecDepth 100000
/-! The functions that all laws share. -/
namespace Pre
open PySem Dn
noncomputable def b__law_pool : SF := (sSeq (sSet 2 (fC (.int 0)))
  (sSeq (sIf (tCmp (fOp oLtU (fVar 1) (fLen (fVar 0))))
  (sSet 2 (fOp oAddU (fOp oMulU (fC (.int 2)) (fB bAbs [(fB bInt [(fIx (fVar 0) (fVar 1))])])) (fB bInt [(fOp oLtU (fIx (fVar 0) (fVar 1)) (fC (.int 0)))])))
  sNil)
  (sSeq (sSet 3 (fC (.int 0)))
  (sSeq (sIf (tCmp (fOp oGe (fVar 2) (fOp oPow (fC (.int 10)) (fC (.int 18)))))
  (sSet 3 (fVar 2))
  sNil)
  (sRet (fLive (lDisp [(fVar 3), (fOp oMod (fB bInt [(fOp oAddU (fVar 2) (fOp oMulU (fC (.int 1000003)) (fOp oAddU (fVar 1) (fC (.int 1)))))]) (fC (.int 2147483647))), (fC (.int 0))])))))))

noncomputable def d__law_pool : List A → Store → RE (List A) := fnL 4 b__law_pool

noncomputable def b__law_draw : SF := (sSeq (sIf (tCmp (fOp oGt (fIx (fVar 0) (fC (.int 0))) (fC (.int 0))))
  (sSeq (sSet 2 (fOp oMod (fB bInt [(fIx (fVar 0) (fC (.int 0)))]) (fVar 1)))
  (sSeq (sAsg (fOp oDiv (fIx (fVar 0) (fC (.int 0))) (fVar 1)) (tgSub (fVar 0) (fC (.int 0))))
  (sRet (fVar 2))))
  sNil)
  (sSeq (sAsg (fOp oAddU (fIx (fVar 0) (fC (.int 2))) (fC (.int 1))) (tgSub (fVar 0) (fC (.int 2))))
  (sSeq (sSet 3 (fOp oMod (fB bInt [(fOp oAddU (fIx (fVar 0) (fC (.int 1))) (fOp oMulU (fIx (fVar 0) (fC (.int 2))) (fC (.int 7368787))))]) (fC (.int 2147483647))))
  (sSeq (sSet 3 (fOp oMod (fB bInt [(fOp oAddU (fOp oAddU (fOp oMulU (fVar 3) (fVar 3)) (fOp oMulU (fC (.int 69621)) (fVar 3))) (fIx (fVar 0) (fC (.int 2))))]) (fC (.int 2147483629))))
  (sSeq (sSet 3 (fOp oMod (fB bInt [(fOp oAddU (fOp oAddU (fOp oMulU (fVar 3) (fVar 3)) (fOp oMulU (fC (.int 48271)) (fVar 3))) (fC (.int 12820163)))]) (fC (.int 2147483587))))
  (sRet (fOp oMod (fB bInt [(fOp oDiv (fVar 3) (fC (.int 8)))]) (fVar 1))))))))

noncomputable def d__law_draw : List A → Store → RE A := fnV 4 b__law_draw

noncomputable def b__law_pick : SF := (sRet (fIx (fVar 1) (fCall d__law_draw [(fVar 0), (fLen (fVar 1))])))

noncomputable def d__law_pick : List A → Store → RE A := fnV 2 b__law_pick

noncomputable def b__law_up : SF := (sSeq (sIf (tCmp (fOp oGt (fCall d__law_draw [(fVar 0), (fC (.int 4))]) (fC (.int 0))))
  (sRet (fCall d__law_draw [(fVar 0), (fVar 1)]))
  sNil)
  (sRet (fCall d__law_draw [(fVar 0), (fVar 2)])))

noncomputable def d__law_up : List A → Store → RE A := fnV 3 b__law_up

noncomputable def d__law_same : Nat → List A → Store → RE A
  | 0 => fun _ _ => .bad
  | n + 1 => fnV 3 ((sSeq (sIf (tOf (fIsi (fVar 1) .tuple))
  (sSeq (sIf (tOr (tNot (tOf (fIsi (fVar 0) .tuple))) (tCmp (fOp oNeG (fLen (fVar 0)) (fLen (fVar 1)))))
  (sRet (fC (.bl false)))
  sNil)
  (sRet (fOp oEqG (fFrz (lComp (iRange1 (fLen (fVar 1))) (tgName 2) (tNot (tOf (fCall (d__law_same n) [(fIx (fVar 0) (fVar 2)), (fIx (fVar 1) (fVar 2))]))) (fVar 2) [2])) (fFrz (lDisp [])))))
  sNil)
  (sSeq (sIf (tCmp (fOp oIsN (fVar 1) (fC .non)))
  (sRet (fOp oIsN (fVar 0) (fC .non)))
  sNil)
  (sSeq (sIf (tOr (tCmp (fOp oIsB (fVar 1) (fC (.bl true)))) (tCmp (fOp oIsB (fVar 1) (fC (.bl false)))))
  (sRet (fAnd (fIsi (fVar 0) .bool) (fOp oEqG (fVar 0) (fVar 1))))
  sNil)
  (sSeq (sIf (tOf (fIsi (fVar 1) .str))
  (sRet (fAnd (fIsi (fVar 0) .str) (fOp oEqG (fVar 0) (fVar 1))))
  sNil)
  (sRet (fAnd (fIsi (fVar 0) .int) (fAnd (fNot (fIsi (fVar 0) .bool)) (fOp oEqG (fVar 0) (fVar 1))))))))))

noncomputable def b__law_same (n : Nat) : SF := (sSeq (sIf (tOf (fIsi (fVar 1) .tuple))
  (sSeq (sIf (tOr (tNot (tOf (fIsi (fVar 0) .tuple))) (tCmp (fOp oNeG (fLen (fVar 0)) (fLen (fVar 1)))))
  (sRet (fC (.bl false)))
  sNil)
  (sRet (fOp oEqG (fFrz (lComp (iRange1 (fLen (fVar 1))) (tgName 2) (tNot (tOf (fCall (d__law_same n) [(fIx (fVar 0) (fVar 2)), (fIx (fVar 1) (fVar 2))]))) (fVar 2) [2])) (fFrz (lDisp [])))))
  sNil)
  (sSeq (sIf (tCmp (fOp oIsN (fVar 1) (fC .non)))
  (sRet (fOp oIsN (fVar 0) (fC .non)))
  sNil)
  (sSeq (sIf (tOr (tCmp (fOp oIsB (fVar 1) (fC (.bl true)))) (tCmp (fOp oIsB (fVar 1) (fC (.bl false)))))
  (sRet (fAnd (fIsi (fVar 0) .bool) (fOp oEqG (fVar 0) (fVar 1))))
  sNil)
  (sSeq (sIf (tOf (fIsi (fVar 1) .str))
  (sRet (fAnd (fIsi (fVar 0) .str) (fOp oEqG (fVar 0) (fVar 1))))
  sNil)
  (sRet (fAnd (fIsi (fVar 0) .int) (fAnd (fNot (fIsi (fVar 0) .bool)) (fOp oEqG (fVar 0) (fVar 1)))))))))

end Pre

set_option linter.all false
set_option Elab.async false
set_option maxRecDepth 100000
/-! Pre: what the shared functions do. -/
namespace Pre
open PySem Dn
structure Pool where
  f : Int
  s : Int
  c : Int
def pl (p : Pool) : Cell := .lst [.v (.int p.f), .v (.int p.s), .v (.int p.c)]
theorem mulOk_mod (x y : Int) (m : Int) (h : 0 < m := by decide) (h2 : m < 2 ^ 64 := by decide) : mulOk (x.fmod m) y := by
  have a := Int.fmod_nonneg_of_pos x h
  have b := Int.fmod_lt_of_pos x h
  exact .inl (.inl (by omega))
def mix1 (p : Pool) : Int := (p.s + (p.c + 1) * 7368787).fmod 2147483647
def mix2 (p : Pool) : Int := (mix1 p * mix1 p + 69621 * mix1 p + (p.c + 1)).fmod 2147483629
def mix3 (p : Pool) : Int := (mix2 p * mix2 p + 48271 * mix2 p + 12820163).fmod 2147483587
def drawV (p : Pool) (m : Int) : Int := if 0 < p.f then p.f.fmod m else (((mix3 p).fdiv 8).fmod m)
def drawP (p : Pool) (m : Int) : Pool := if 0 < p.f then ⟨p.f.fdiv m, p.s, p.c⟩ else ⟨p.f, p.s, p.c + 1⟩
theorem draw_lo (p : Pool) {m : Int} (h : 1 ≤ m) : 0 ≤ drawV p m := by
  unfold drawV
  split <;> exact Int.fmod_nonneg_of_pos _ (by omega)
theorem draw_hi (p : Pool) {m : Int} (h : 1 ≤ m) : drawV p m < m := by
  unfold drawV
  split <;> exact Int.fmod_lt_of_pos _ (by omega)
theorem draw_at (p : Pool) (m : Int) (h1 : 1 ≤ m) (h2 : m < 18446744073709551616) (i : Nat) (st : Store) (hi : st[i]? = some (pl p)) :
    d__law_draw [.ref i, .v (.int m)] st = .ok (.v (.int (drawV p m))) (st.set i (pl (drawP p m))) := by
  have e1 : m ≠ 0 := by omega
  have e2 : divOk m := divOk_of e1 (by omega)
  have e8 : divOk 8 := divOk_of (by decide) (by decide)
  have hl : i < st.length := (List.getElem?_eq_some_iff.mp hi).1
  have c1 : mulOk (p.c + 1) 7368787 := .inl (.inr (by decide))
  have c2 : ∀ x, mulOk 69621 x := fun x => .inl (.inl (by decide))
  have c3 : ∀ x, mulOk 48271 x := fun x => .inl (.inl (by decide))
  have d1 : ∀ x y, mulOk (Int.fmod x 2147483647) y := fun x y => mulOk_mod x y _
  have d2 : ∀ x y, mulOk (Int.fmod x 2147483629) y := fun x y => mulOk_mod x y _
  have s1 : ∀ a b : Cell, ((st.set i a).set i b) = st.set i b := fun a b => List.set_set ..
  have s2 : ∀ a : Cell, (st.set i a)[i]? = some a := fun a => List.getElem?_set_self hl
  have s3 : ∀ a : Cell, (st.set i a).take st.length = st.set i a := fun a => List.take_of_length_le (by simp)
  have hi' : st[i]? = some (Cell.lst [.v (.int p.f), .v (.int p.s), .v (.int p.c)]) := hi
  by_cases hf : 0 < p.f
  · simp [d__law_draw, b__law_draw, fnV, seq_eq, sIf, tCmp, fOp, fIx, fVar, fC, A.elems, A.int?, ixOf, A.view, oGt, A.bl?, hf, sSet, fB, fArgs, viewL, bInt, oMod, sAsg, tgSub, setL, putA, A.below, oDiv, sRet, retA, drawV, drawP, pl, e1, e2, e8, e8, hi', s1, s2, s3]
  · simp [d__law_draw, b__law_draw, fnV, seq_eq, sIf, tCmp, fOp, fIx, fVar, fC, A.elems, A.int?, ixOf, A.view, oGt, A.bl?, hf, sSet, fB, fArgs, viewL, bInt, oMod, sAsg, tgSub, setL, putA, A.below, oDiv, sRet, retA, drawV, drawP, pl, e1, e2, e8, oAddU, oMulU, c1, c2, c3, d1, d2, sNil, mix1, mix2, mix3, hi', s1, s2, s3]
theorem draw_spec (p : Pool) (m : Int) (h1 : 1 ≤ m) (h2 : m < 18446744073709551616) (st : Store) :
    d__law_draw [.ref 0, .v (.int m)] (pl p :: st) = .ok (.v (.int (drawV p m))) (pl (drawP p m) :: st) := draw_at p m h1 h2 0 _ rfl
/-- pick of a row: an item of it -/
theorem pick_elems (p : Pool) (a : A) (xs : List A) (st : Store) (h : ∀ q, a.elems (pl q :: st) = some xs) (hl : xs ≠ []) (hm : xs.length < 1073741824) :
    ∃ j x p', j < xs.length ∧ xs[j]? = some x ∧ d__law_pick [.ref 0, a] (pl p :: st) = retA (st.length + 1) x (pl p' :: st) := by
  have hp : 1 ≤ (xs.length : Int) := by
    cases xs with
    | nil => exact absurd rfl hl
    | cons _ _ => simp; omega
  have b1 := draw_lo p hp
  have b2 := draw_hi p hp
  have hj : (drawV p xs.length).toNat < xs.length := by omega
  refine ⟨(drawV p xs.length).toNat, xs[(drawV p xs.length).toNat], drawP p xs.length, hj, List.getElem?_eq_getElem hj, ?_⟩
  simp [d__law_pick, b__law_pick, fnV, sRet, fIx, fVar, fCall, fArgs, fLen, h, draw_spec p xs.length hp (by omega), A.int?, ixOf_lt b1 b2, hj]
theorem pick_vals (p : Pool) (a : A) (ds : List D) (st : Store) (h : ∀ q, a.elems (pl q :: st) = some (ds.map .v)) (hl : ds ≠ []) (hm : ds.length < 1073741824) :
    ∃ d p', d ∈ ds ∧ d__law_pick [.ref 0, a] (pl p :: st) = .ok (.v d) (pl p' :: st) := by
  obtain ⟨j, x, p', h1, h2, h3⟩ := pick_elems p a (ds.map .v) st h (by simpa using hl) (by simpa using hm)
  rw [List.length_map] at h1
  rw [List.getElem?_map, List.getElem?_eq_getElem h1] at h2
  cases h2
  refine ⟨ds[j], p', List.getElem_mem h1, ?_⟩
  rw [h3]
  show RE.ok _ ((pl p' :: st).take (st.length + 1)) = _
  rw [List.take_of_length_le (by simp)]
theorem pick_lst (p : Pool) (ds : List D) (st : Store) (hl : ds ≠ []) (hm : ds.length < 1073741824) :
    ∃ d p', d ∈ ds ∧ d__law_pick [.ref 0, .v (.lst ds)] (pl p :: st) = .ok (.v d) (pl p' :: st) := by
  obtain ⟨j, x, p', h1, h2, h3⟩ := pick_elems p (.v (.lst ds)) (ds.map .v) st (fun _ => rfl) (by simpa using hl) (by simpa using hm)
  rw [List.length_map] at h1
  rw [List.getElem?_map, List.getElem?_eq_getElem h1] at h2
  cases h2
  refine ⟨ds[j], p', List.getElem_mem h1, ?_⟩
  rw [h3]
  show RE.ok _ ((pl p' :: st).take (st.length + 1)) = _
  rw [List.take_of_length_le (by simp)]
theorem up_spec (p : Pool) (a b : Int) (h1 : 1 ≤ a) (h2 : a < 18446744073709551616) (h3 : 1 ≤ b) (h4 : b < 18446744073709551616) (st : Store) :
    ∃ v p', 0 ≤ v ∧ v < max a b ∧ d__law_up [.ref 0, .v (.int a), .v (.int b)] (pl p :: st) = .ok (.v (.int v)) (pl p' :: st) := by
  have q := draw_spec p 4 (by decide) (by decide) st
  have t : ∀ c : Cell, (c :: st).take (st.length + 1) = c :: st := fun c => List.take_of_length_le (by simp)
  by_cases hc : 0 < drawV p 4
  · have l1 := draw_lo (drawP p 4) h1
    have l2 := draw_hi (drawP p 4) h1
    refine ⟨drawV (drawP p 4) a, drawP (drawP p 4) a, l1, by omega, ?_⟩
    · simp [d__law_up, b__law_up, fnV, seq_eq, sIf, tCmp, fOp, fVar, fC, fCall, fArgs, q, A.view, oGt, hc, A.bl?, sRet, draw_spec _ a h1 h2, retA, A.below, t]
  · have l1 := draw_lo (drawP p 4) h3
    have l2 := draw_hi (drawP p 4) h3
    refine ⟨drawV (drawP p 4) b, drawP (drawP p 4) b, l1, by omega, ?_⟩
    · simp [d__law_up, b__law_up, fnV, seq_eq, sIf, tCmp, fOp, fVar, fC, fCall, fArgs, q, A.view, oGt, hc, A.bl?, sRet, draw_spec _ b h3 h4, retA, A.below, t, sNil]
theorem pool_spec (ns : List Int) (i : Nat) (st : Store) (hi : i ≤ 1000) : ∃ p : Pool, d__law_pool [.v (.ro (ns.map D.int)), .v (.int i)] st = .ok [.v (.int p.f), .v (.int p.s), .v (.int p.c)] st := by
  have c1 : ∀ x, mulOk 2 x := fun x => .inl (.inl (by decide))
  have c2 : ∀ x, mulOk 1000003 x := fun x => .inl (.inl (by decide))
  have t : st.take st.length = st := List.take_length
  have t1 : ∀ c : Cell, (st ++ [c]).take st.length = st := fun c => by simp
  by_cases hl : i < ns.length
  · have e : (ns.map D.int)[i]? = some (.int ns[i]) := by rw [List.getElem?_map, List.getElem?_eq_getElem hl]; rfl
    have hix : ixOf (ns.map D.int).length (i : Int) = some i := by rw [ixOf_lt (by omega) (by simpa using hl)]; simp
    have hix' : ixOf ns.length (i : Int) = some i := by simpa using hix
    have hlt : (i : Int) < (ns.length : Int) := by omega
    have key : ∀ z : Int, ns[i] = z → ∃ p : Pool, d__law_pool [.v (.ro (ns.map D.int)), .v (.int i)] st = .ok [.v (.int p.f), .v (.int p.s), .v (.int p.c)] st := by
      intro z hz
      rw [hz] at e
      by_cases hb : (1000000000000000000 : Int) ≤ (2 * if z < 0 then -z else z) + (if z < 0 then 1 else 0)
      · refine ⟨⟨(2 * if z < 0 then -z else z) + (if z < 0 then 1 else 0), (((2 * if z < 0 then -z else z) + (if z < 0 then 1 else 0)) + 1000003 * ((i : Int) + 1)).fmod 2147483647, 0⟩, ?_⟩
        simp [d__law_pool, b__law_pool, fnL, seq_eq, sSet, fC, sIf, tCmp, fOp, fVar, fLen, A.elems, A.view, oLt, oLtU, A.bl?, hlt, fB, fArgs, viewL, fIx, A.int?, hix', hl, hz, bInt, bAbs, oMulU, oAddU, c1, c2, oGe, oPow, hb, sRet, fLive, lDisp, oMod, A.below, t1]
      · refine ⟨⟨0, (((2 * if z < 0 then -z else z) + (if z < 0 then 1 else 0)) + 1000003 * ((i : Int) + 1)).fmod 2147483647, 0⟩, ?_⟩
        simp [d__law_pool, b__law_pool, fnL, seq_eq, sSet, fC, sIf, tCmp, fOp, fVar, fLen, A.elems, A.view, oLt, oLtU, A.bl?, hlt, fB, fArgs, viewL, fIx, A.int?, hix', hl, hz, bInt, bAbs, oMulU, oAddU, c1, c2, oGe, oPow, hb, sRet, fLive, lDisp, oMod, A.below, t1, sNil]
    exact key _ rfl
  · have hlt : ¬ (i : Int) < (ns.length : Int) := by omega
    refine ⟨⟨0, (0 + 1000003 * ((i : Int) + 1)).fmod 2147483647, 0⟩, ?_⟩
    simp [d__law_pool, b__law_pool, fnL, seq_eq, sSet, fC, sIf, tCmp, fOp, fVar, fLen, A.elems, A.view, oLt, oLtU, A.bl?, hlt, fB, fArgs, viewL, fIx, A.int?, bInt, bAbs, oMulU, oAddU, c1, c2, oGe, oPow, sRet, fLive, lDisp, oMod, A.below, t1, sNil]
/-- what _law_same may be asked -/
def Good : Nat → D → Prop
  | 0, _ => False
  | n + 1, .tup ds => ds.length ≤ sizeMax ∧ ∀ d ∈ ds, Good n d
  | _ + 1, .lst _ => False
  | _ + 1, .ro _ => False
  | _ + 1, _ => True
theorem same_key (n : Nat) (ds : List D) (st : Store) (h1 : ds.length ≤ sizeMax) (hg : ∀ d ∈ ds, d__law_same n [.v d, .v d] st = .ok (.v (.bl true)) st) :
    compL (tgName 2) (tNot (tOf (fCall (d__law_same n) [(fIx (fVar 0) (fVar 2)), (fIx (fVar 1) (fVar 2))]))) (fVar 2) [2] (fun _ => True) [some (.v (.tup ds)), some (.v (.tup ds)), none] (rangeA 0 ds.length) [] st = .ok [] st := by
  rw [rangeA_eq]
  have := comp_pure (fun i : Nat => A.v (.int (0 + (i : Nat)))) (fun _ => false) (fun i : Nat => A.v (.int (0 + (i : Nat)))) (t := tgName 2) (c := tNot (tOf (fCall (d__law_same n) [(fIx (fVar 0) (fVar 2)), (fIx (fVar 1) (fVar 2))]))) (e := fVar 2) (vs := [2]) (g := fun _ => True) (σ := [some (.v (.tup ds)), some (.v (.tup ds)), none]) (st := st) trivial (List.range ds.length) [] (fun y hy => ?_) (by simpa using h1)
  · rw [this]; simp
  · have hy' : y < ds.length := List.mem_range.mp hy
    have hgy := hg ds[y] (List.getElem_mem hy')
    have hix : ixOf ds.length (y : Int) = some y := by rw [ixOf_lt (by omega) (by omega)]; simp
    refine ⟨_, rfl, ?_, fun z => by cases z⟩
    simp [Dn.tNot, tOf, fCall, fArgs, fIx, fVar, A.elems, A.int?, hix, hy', hgy, truth, wipeE]
theorem same_tup (n : Nat) (ds : List D) (st : Store) (h1 : ds.length ≤ sizeMax) (hg : ∀ d ∈ ds, d__law_same n [.v d, .v d] st = .ok (.v (.bl true)) st) : d__law_same (n + 1) [.v (.tup ds), .v (.tup ds)] st = .ok (.v (.bl true)) st := by
  have t : st.take st.length = st := List.take_length
  have hok : okR (ds.length : Int) := by
    have h3 : ds.length ≤ 16777216 := h1
    exact ⟨by omega, by omega⟩
  have key := same_key n ds st h1 hg
  simp [d__law_same, fnV, seq_eq, sIf, tOf, Dn.tOr, Dn.tNot, tCmp, fIsi, fVar, A.view, isTy, truth, sNil, fOp, fC, A.bl?, sRet, retA, A.below, t, fLen, A.elems, oNeS, oNeG, eqS, fFrz, lComp, iRange1, hok, key, frzL, lDisp, fArgs, oEqU, oEqG, eqU]
theorem same_sc (n : Nat) (d : D) (st : Store) (h : Good (n + 1) d) (hd : ∀ ds, d ≠ .tup ds) : d__law_same (n + 1) [.v d, .v d] st = .ok (.v (.bl true)) st := by
  have t : st.take st.length = st := List.take_length
  cases d with
  | non => simp [d__law_same, fnV, seq_eq, sIf, tOf, Dn.tOr, tCmp, fIsi, fVar, A.view, isTy, truth, sNil, fOp, oIsN, fC, A.bl?, sRet, retA, A.below, t]
  | bl b => cases b <;> simp [d__law_same, fnV, seq_eq, sIf, tOf, Dn.tOr, tCmp, fIsi, fVar, A.view, isTy, truth, sNil, fOp, oIsN, oIsB, fC, A.bl?, sRet, retA, A.below, t, fAnd, oEqU, oEqG, eqU, eqS]
  | int i => simp [d__law_same, fnV, seq_eq, sIf, tOf, Dn.tOr, tCmp, fIsi, fVar, A.view, isTy, truth, sNil, fOp, oIsN, oIsB, fC, A.bl?, sRet, retA, A.below, t, fAnd, oEqU, oEqG, eqU, eqS, fNot]
  | str x => simp [d__law_same, fnV, seq_eq, sIf, tOf, Dn.tOr, tCmp, fIsi, fVar, A.view, isTy, truth, sNil, fOp, oIsN, oIsB, fC, A.bl?, sRet, retA, A.below, t, fAnd, oEqU, oEqG, eqU, eqS]
  | lst xs => exact h.elim
  | ro xs => exact h.elim
  | tup ds => exact absurd rfl (hd ds)
theorem same_refl (n : Nat) : ∀ (d : D) (st : Store), Good n d → d__law_same n [.v d, .v d] st = .ok (.v (.bl true)) st := by
  induction n with
  | zero => intro _ _ h; exact h.elim
  | succ n ih =>
    intro d st h
    cases d with
    | tup ds => exact same_tup n ds st h.1 fun d hd => ih d st (h.2 d hd)
    | _ => exact same_sc n _ st h (fun _ e => by cases e)

/-- [f(pool) for _ in range(n)], ints -/
theorem ints_comp (P : Int → Prop) (n k : Nat) (p : Pool) (st : Store) {i : IF} {e : EF} {g : Store → Prop} {σ : Dn.Env} (hi : ∀ q, i σ (pl q :: st) = .ok ⟨(List.range n).map fun j => A.v (.int (0 + (j : Nat))), g⟩ (pl q :: st)) (hg : ∀ q, g (pl q :: st))
    (h : ∀ (j : Nat) q, j < n → ∃ v q', e ((wipeE σ [k]).set k (some (.v (.int (0 + (j : Nat)))))) (pl q :: st) = .ok (.v (.int v)) (pl q' :: st) ∧ P v) (hl : n ≤ sizeMax) :
    ∃ (ns : List Int) (p' : Pool), fFrz (lComp i (tgName k) tYes e [k]) σ (pl p :: st) = .ok (.v (.lst (ns.map D.int))) (pl p' :: st) ∧ ns.length = n ∧ ∀ x ∈ ns, P x := by
  obtain ⟨ds, p', h1, h2, h3⟩ := frz_inv (fun j : Nat => A.v (.int (0 + (j : Nat)))) (fun q : Pool => pl q :: st) (fun _ d => ∃ v, d = .int v ∧ P v) (List.range n) p (t := tgName k) (c := tYes) (e := e) (vs := [k]) (g := g) (σ := σ) hi hg
    (fun y hy q => by
      obtain ⟨v, q', h4, h5⟩ := h y q (List.mem_range.mp hy)
      exact ⟨_, q', _, rfl, rfl, h4, v, rfl, h5⟩) (by rw [List.length_range]; exact hl)
  rw [List.length_range] at h2
  obtain ⟨ns, rfl, h5⟩ := ints_of (P := P) ds fun d hd => by
    obtain ⟨j, hj⟩ := List.getElem?_of_mem hd
    have hjl : j < n := by have := (List.getElem?_eq_some_iff.mp hj).1; omega
    exact h3 j j d (by rw [List.getElem?_range hjl]) hj
  exact ⟨ns, p', h1, by simpa using h2, h5⟩
end Pre

set_option linter.all false
set_option Elab.async false
set_option maxRecDepth 100000
/-! The functions of k02. -/
namespace Pk02
open PySem Dn Pre
noncomputable def e1_rank_fill : EF := (fTup [(fVar 8), (fVar 7)])

noncomputable def l2_rank_fill : SF := (sSeq (sAsg (fB bMin2 [(fIx (fVar 0) (fVar 6)), (fVar 4)]) (tgSub (fVar 3) (fVar 6)))
  (sAug 4 oSub (fIx (fVar 3) (fVar 6))))

noncomputable def b_rank_fill : SF := (sSeq (sSet 3 (fLive (lOp oRepL (fFrz (lDisp [(fC (.int 0))])) (fLen (fVar 0)))))
  (sSeq (sSet 4 (fVar 2))
  (sSeq (sFor (iSeq (fFrz (lSortedU (fFrz (lComp (iEnum (fVar 1)) (tgTup [(tgName 7), (tgName 8)]) tYes e1_rank_fill [7, 8]))))) (tgTup [(tgName 5), (tgName 6)])
  l2_rank_fill)
  (sRet (fTuple (fVar 3))))))

noncomputable def d_rank_fill : List A → Store → RE A := fnV 9 b_rank_fill

noncomputable def b_gain : SF := (sSeq (sIf (tCmp (fOp oEqG (fVar 1) (fC (.int 0))))
  (sRet (fVar 0))
  sNil)
  (sRet (fOp oSub (fVar 0) (fOp oDiv (fVar 0) (fVar 1)))))

noncomputable def d_gain : List A → Store → RE A := fnV 2 b_gain

noncomputable def t1_intake : TF := (tCmp (fOp oGt (fOp oAddU (fVar 3) (fCall d_gain [(fVar 4), (fVar 2)])) (fVar 0)))

noncomputable def l2_intake : SF := (sAug 4 oSub (fC (.int 1)))

noncomputable def b_intake : SF := (sSeq (sSet 4 (fVar 1))
  (sSeq (sWhile t1_intake
  l2_intake)
  (sRet (fVar 4))))

noncomputable def d_intake : List A → Store → RE A := fnV 5 b_intake

noncomputable def b__law_units : SF := (sSeq (sIf (tAnd (tOf (fVar 1)) (tCmp (fOp oEqG (fCall d__law_draw [(fVar 0), (fC (.int 2))]) (fC (.int 0)))))
  (sRet (fB bMin2 [(fOp oPow (fC (.int 10)) (fC (.int 9))), (fOp oAddU (fOp oMulU (fCall d__law_draw [(fVar 0), (fC (.int 1001))]) (fOp oPow (fC (.int 10)) (fC (.int 6)))) (fCall d__law_draw [(fVar 0), (fOp oPow (fC (.int 10)) (fC (.int 6)))]))]))
  sNil)
  (sRet (fCall d__law_up [(fVar 0), (fC (.int 10)), (fC (.int 61))])))

noncomputable def d__law_units : List A → Store → RE A := fnV 2 b__law_units

noncomputable def c1__law_filled : TF := (tCmp (fOp oLtU (fTup [(fIx (fVar 1) (fVar 6)), (fVar 6)]) (fTup [(fIx (fVar 1) (fVar 4)), (fVar 4)])))

noncomputable def e2__law_filled : EF := (fIx (fVar 0) (fVar 6))

noncomputable def l3__law_filled : SF := (sSeq (sSet 5 (fB bSumU [(fFrz (lComp (iRange1 (fLen (fVar 0))) (tgName 6) c1__law_filled e2__law_filled [6]))]))
  (sExpr (fAppend (fVar 3) (fB bMin2 [(fIx (fVar 0) (fVar 4)), (fB bMax2 [(fC (.int 0)), (fOp oSub (fVar 2) (fVar 5))])]))))

noncomputable def b__law_filled : SF := (sSeq (sSet 3 (fLive (lDisp [])))
  (sSeq (sFor (iRange1 (fLen (fVar 0))) (tgName 4)
  l3__law_filled)
  (sRet (fTuple (fVar 3)))))

noncomputable def d__law_filled : List A → Store → RE A := fnV 7 b__law_filled

noncomputable def b__law_kept : SF := (sSeq (sIf (tCmp (fOp oEqG (fVar 1) (fC (.int 0))))
  (sRet (fVar 0))
  sNil)
  (sRet (fOp oSub (fVar 0) (fOp oDiv (fVar 0) (fVar 1)))))

noncomputable def d__law_kept : List A → Store → RE A := fnV 2 b__law_kept

noncomputable def b__law_gained : SF := (sSeq (sSet 2 (fCall d_gain [(fVar 0), (fVar 1)]))
  (sSeq (sIf (tOr (tNot (tOf (fIsi (fVar 2) .int))) (tOf (fIsi (fVar 2) .bool)))
  (sRet (fC (.bl false)))
  sNil)
  (sSeq (sSet 3 (fOp oSub (fVar 0) (fVar 2)))
  (sSeq (sIf (tCmp (fOp oEqG (fVar 1) (fC (.int 0))))
  (sRet (fOp oEqG (fVar 3) (fC (.int 0))))
  sNil)
  (sRet (fAnd (fOp oLe (fOp oMulU (fVar 3) (fVar 1)) (fVar 0)) (fOp oLtU (fVar 0) (fOp oMulU (fOp oAddU (fVar 3) (fC (.int 1))) (fVar 1)))))))))

noncomputable def d__law_gained : List A → Store → RE A := fnV 4 b__law_gained

noncomputable def e1_law : EF := (fCall d__law_units [(fVar 1), (fVar 2)])

noncomputable def e2_law : EF := (fOp oAddU (fC (.int 1)) (fCall d__law_up [(fVar 1), (fC (.int 2)), (fC (.int 9))]))

noncomputable def c3_law : TF := (tCmp (fOp oLe (fOp oAddU (fVar 16) (fCall d__law_kept [(fVar 18), (fVar 12)])) (fVar 14)))

noncomputable def c4_law : TF := (tNot (tOf (fCall d__law_gained [(fOp oAddU (fVar 13) (fVar 19)), (fVar 12)])))

noncomputable def b_law : SF := (sSeq (sSet 1 (fLive (lCall d__law_pool [(fVar 0), (fC (.int 0))])))
  (sSeq (sSet 2 (fOp oEqG (fCall d__law_draw [(fVar 1), (fC (.int 8))]) (fC (.int 0))))
  (sSeq (sSet 3 (fCall d__law_up [(fVar 1), (fC (.int 7)), (fC (.int 13))]))
  (sSeq (sSet 4 (fTuple (fFrz (lComp (iRange1 (fVar 3)) (tgName 5) tYes e1_law [5]))))
  (sSeq (sSet 6 (fTuple (fFrz (lComp (iRange1 (fVar 3)) (tgName 5) tYes e2_law [5]))))
  (sSeq (sSet 7 (fB bSumU [(fVar 4)]))
  (sSeq (sSet 8 (fCall d__law_draw [(fVar 1), (fOp oAddU (fVar 7) (fC (.int 2)))]))
  (sSeq (sSet 9 (fCall d__law_pick [(fVar 1), (fFrz (lDisp [(fC (.int 0)), (fVar 7), (fB bMax2 [(fC (.int 0)), (fOp oSub (fVar 7) (fC (.int 1)))]), (fOp oAddU (fVar 7) (fC (.int 1))), (fVar 8), (fVar 8), (fCall d__law_units [(fVar 1), (fC (.bl true))])]))]))
  (sSeq (sSet 9 (fB bMin2 [(fOp oPow (fC (.int 10)) (fC (.int 9))), (fVar 9)]))
  (sSeq (sSet 8 (fB bMin2 [(fOp oPow (fC (.int 10)) (fC (.int 9))), (fVar 8)]))
  (sSeq (sSet 10 (fCall d__law_filled [(fVar 4), (fVar 6), (fVar 9)]))
  (sSeq (sSet 11 (fCall d__law_filled [(fVar 4), (fVar 6), (fVar 8)]))
  (sSeq (sSet 12 (fCall d__law_pick [(fVar 1), (fFrz (lDisp [(fC (.int 0)), (fC (.int 2)), (fC (.int 3)), (fOp oAddU (fC (.int 2)) (fCall d__law_draw [(fVar 1), (fC (.int 8))]))]))]))
  (sSeq (sSet 13 (fB bMin2 [(fOp oSub (fOp oPow (fC (.int 10)) (fC (.int 9))) (fC (.int 2))), (fCall d__law_units [(fVar 1), (fVar 2)])]))
  (sSeq (sSet 14 (fCall d__law_up [(fVar 1), (fC (.int 10)), (fC (.int 31))]))
  (sSeq (sSet 15 (fCall d__law_up [(fVar 1), (fC (.int 10)), (fC (.int 31))]))
  (sSeq (sIf (tOf (fVar 2))
  (sSeq (sSet 14 (fCall d__law_draw [(fVar 1), (fC (.int 1000))]))
  (sSet 15 (fCall d__law_draw [(fVar 1), (fC (.int 1000))])))
  sNil)
  (sSeq (sSet 16 (fCall d__law_pick [(fVar 1), (fFrz (lDisp [(fVar 14), (fB bMax2 [(fC (.int 0)), (fOp oSub (fVar 14) (fC (.int 1)))]), (fC (.int 0)), (fCall d__law_draw [(fVar 1), (fOp oAddU (fVar 14) (fC (.int 1)))])]))]))
  (sSeq (sSet 17 (fB bMaxU [(fFrz (lComp (iRange1 (fOp oAddU (fVar 15) (fC (.int 1)))) (tgName 18) c3_law (fVar 18) [18]))]))
  (sSeq (sIf (tOr (tNot (tOf (fCall (d__law_same 12) [(fCall d_rank_fill [(fVar 4), (fVar 6), (fVar 9)]), (fVar 10)]))) (tNot (tOf (fCall (d__law_same 12) [(fCall d_rank_fill [(fVar 4), (fVar 6), (fVar 8)]), (fVar 11)]))))
  (sRet (fC (.bl false)))
  sNil)
  (sSeq (sIf (tCmp (fOp oNeG (fFrz (lComp (iRange1 (fC (.int 3))) (tgName 19) c4_law (fVar 19) [19])) (fFrz (lDisp []))))
  (sRet (fC (.bl false)))
  sNil)
  (sSeq (sIf (tNot (tOf (fCall (d__law_same 12) [(fCall d_intake [(fVar 14), (fVar 15), (fVar 12), (fVar 16)]), (fVar 17)])))
  (sRet (fC (.bl false)))
  sNil)
  (sRet (fCall (d__law_same 12) [(fCall d_rank_fill [(fVar 4), (fVar 6), (fVar 9)]), (fVar 10)]))))))))))))))))))))))))

noncomputable def d_law : List A → Store → RE A := fnV 20 b_law

end Pk02

set_option linter.all false
set_option Elab.async false
set_option maxRecDepth 100000
/-! The law k02: what the program and the law's own hand compute. -/
namespace Pk02
open PySem Dn Pre
abbrev iD (x : Nat) : D := .int (x : Nat)
theorem p9 : oPow (.int 10) (.int 9) = some (.int 1000000000) := by
  unfold oPow
  dsimp only
  rw [gd_pos ⟨by decide, by decide, by decide⟩]
  rfl
theorem p6 : oPow (.int 10) (.int 6) = some (.int 1000000) := by
  unfold oPow
  dsimp only
  rw [gd_pos ⟨by decide, by decide, by decide⟩]
  rfl
/-! ### draws of units -/
theorem units_spec (p : Pool) (b : Bool) (st : Store) : ∃ v p', d__law_units [.ref 0, .v (.bl b)] (pl p :: st) = .ok (.v (.int v)) (pl p' :: st) ∧ 0 ≤ v ∧ v ≤ 1000000000 := by
  have tk : ∀ c : Cell, (c :: st).take (st.length + 1) = c :: st := fun c => List.take_of_length_le (by simp)
  cases b with
  | false =>
    obtain ⟨v, p1, v1, v2, hu⟩ := up_spec p 10 61 (by decide) (by decide) (by decide) (by decide) st
    refine ⟨v, p1, ?_, v1, by omega⟩
    simp only [d__law_units, b__law_units, fnV, seq_eq, sIf, sSet, sRet, sRetN, sAsg, sExpr, sNil, sPar, sAug, sBreak, sCont, sPass, tCmp, tOf, Dn.tAnd, Dn.tOr, Dn.tNot, tYes, fVar, fC, fOp, fUn, fB, fArgs, viewL, fTup, frzL, A.frz, fFrz_disp, fLive, lDisp_eq, fIx, A.elems, A.int?, A.view, A.bl?, fLen, fTuple, fCall, lCall, fIf, truth, tgName, tgTup, tgSeq, retA, A.below, fAnd, fOr, fNot, fIsi, isTy, iSeq, iRange1, iRange2, iEnum, iZip, iRangeDn, A.seqd, vals, oAddU, oSub, oAdd, oLt, oLtU, lexLtI, intsD, oLe, oGt, oGe, oEqU, oEqG_int, oEqG_bl, oEqG_str, oEqG_nn, oEqG_ni, oEqG_in, oEqG_nil, oEqG_nil2, oNeG_int, oNeG_bl, oNeG_str, oNeG_nn, oNeG_ni, oNeG_in, oNeG_nil0, oNeS, eqU, eqS, oIsN, oNotN, oIsB, oNeg, bAbs, bMax2, bMin2, bInt, bSum, bSumU, bMaxU, bMinU, seqD, bLen, oMod, oDiv, oMulU, oMul, ix0, ix1, ix2, ix3, ix4, ix5, ix6, ix7, ix8, ix9, ix10, ix11, ix12, ix13, ix14, ix15, ix16, ix17, ix18, ix19, ixLast, bind_ok, bind_err, bind_bad, st_ok, st_err, st_bad, of_some, of_none, seq_nx, seq_rt, seq_bk, seq_ct, seq_err, seq_bad, gd_true, gd_false, dec_true, dec_false, dec_iff, Option.bind_some, Option.bind_none, Option.map_some, Option.map_none, List.getElem?_cons_zero, List.getElem?_cons_succ, List.set_cons_zero, List.set_cons_succ, List.map_cons, List.map_nil, List.map_map, List.length_map, List.length_cons, List.length_nil, List.getElem?_map, Function.comp_def, List.append_nil, List.nil_append, List.cons_append, List.all_cons, List.all_nil, Bool.and_true, Bool.and_self, Bool.true_and, decide_true, decide_false, Bool.false_eq_true, if_true, if_false, ite_true, ite_false, Bool.not_true, Bool.not_false, ne_eq, not_true_eq_false, not_false_eq_true, frzL_vals, vals_map, intsD_map, forT_nil, forT_cons, lp_nx, lp_ct, lp_bk, lp_rt, lp_err, frzL_mapv, vals_mapv, intsD_mapv, List.isEmpty_nil, List.isEmpty_cons, List.replicate, List.take_length, List.take_zero, and_true, true_and, and_self, Nat.reduceAdd, Nat.reduceSub, Int.ofNat_eq_natCast, hu, tk]
  | true =>
    have d2 := draw_spec p 2 (by decide) (by decide) st
    by_cases hz : drawV p 2 = 0
    · have d3 := draw_spec (drawP p 2) 1001 (by decide) (by decide) st
      have d4 := draw_spec (drawP (drawP p 2) 1001) 1000000 (by decide) (by decide) st
      have l3 := draw_lo (drawP p 2) (m := 1001) (by decide)
      have l4 := draw_lo (drawP (drawP p 2) 1001) (m := 1000000) (by decide)
      have c1 : ∀ x, mulOk x 1000000 := fun x => .inl (.inr (by decide))
      generalize drawV (drawP p 2) 1001 = x at *
      generalize drawV (drawP (drawP p 2) 1001) 1000000 = y at *
      refine ⟨if x * 1000000 + y < 1000000000 then x * 1000000 + y else 1000000000, drawP (drawP (drawP p 2) 1001) 1000000, ?_, ?_, ?_⟩
      rotate_left
      · split <;> omega
      · split <;> omega
      · simp only [d__law_units, b__law_units, fnV, seq_eq, sIf, sSet, sRet, sRetN, sAsg, sExpr, sNil, sPar, sAug, sBreak, sCont, sPass, tCmp, tOf, Dn.tAnd, Dn.tOr, Dn.tNot, tYes, fVar, fC, fOp, fUn, fB, fArgs, viewL, fTup, frzL, A.frz, fFrz_disp, fLive, lDisp_eq, fIx, A.elems, A.int?, A.view, A.bl?, fLen, fTuple, fCall, lCall, fIf, truth, tgName, tgTup, tgSeq, retA, A.below, fAnd, fOr, fNot, fIsi, isTy, iSeq, iRange1, iRange2, iEnum, iZip, iRangeDn, A.seqd, vals, oAddU, oSub, oAdd, oLt, oLtU, lexLtI, intsD, oLe, oGt, oGe, oEqU, oEqG_int, oEqG_bl, oEqG_str, oEqG_nn, oEqG_ni, oEqG_in, oEqG_nil, oEqG_nil2, oNeG_int, oNeG_bl, oNeG_str, oNeG_nn, oNeG_ni, oNeG_in, oNeG_nil0, oNeS, eqU, eqS, oIsN, oNotN, oIsB, oNeg, bAbs, bMax2, bMin2, bInt, bSum, bSumU, bMaxU, bMinU, seqD, bLen, oMod, oDiv, oMulU, oMul, ix0, ix1, ix2, ix3, ix4, ix5, ix6, ix7, ix8, ix9, ix10, ix11, ix12, ix13, ix14, ix15, ix16, ix17, ix18, ix19, ixLast, bind_ok, bind_err, bind_bad, st_ok, st_err, st_bad, of_some, of_none, seq_nx, seq_rt, seq_bk, seq_ct, seq_err, seq_bad, gd_true, gd_false, dec_true, dec_false, dec_iff, Option.bind_some, Option.bind_none, Option.map_some, Option.map_none, List.getElem?_cons_zero, List.getElem?_cons_succ, List.set_cons_zero, List.set_cons_succ, List.map_cons, List.map_nil, List.map_map, List.length_map, List.length_cons, List.length_nil, List.getElem?_map, Function.comp_def, List.append_nil, List.nil_append, List.cons_append, List.all_cons, List.all_nil, Bool.and_true, Bool.and_self, Bool.true_and, decide_true, decide_false, Bool.false_eq_true, if_true, if_false, ite_true, ite_false, Bool.not_true, Bool.not_false, ne_eq, not_true_eq_false, not_false_eq_true, frzL_vals, vals_map, intsD_map, forT_nil, forT_cons, lp_nx, lp_ct, lp_bk, lp_rt, lp_err, frzL_mapv, vals_mapv, intsD_mapv, List.isEmpty_nil, List.isEmpty_cons, List.replicate, List.take_length, List.take_zero, and_true, true_and, and_self, Nat.reduceAdd, Nat.reduceSub, Int.ofNat_eq_natCast, d2, hz, p9, p6, d3, d4, c1, tk]
    · obtain ⟨v, p1, v1, v2, hu⟩ := up_spec (drawP p 2) 10 61 (by decide) (by decide) (by decide) (by decide) st
      refine ⟨v, p1, ?_, v1, by omega⟩
      simp only [d__law_units, b__law_units, fnV, seq_eq, sIf, sSet, sRet, sRetN, sAsg, sExpr, sNil, sPar, sAug, sBreak, sCont, sPass, tCmp, tOf, Dn.tAnd, Dn.tOr, Dn.tNot, tYes, fVar, fC, fOp, fUn, fB, fArgs, viewL, fTup, frzL, A.frz, fFrz_disp, fLive, lDisp_eq, fIx, A.elems, A.int?, A.view, A.bl?, fLen, fTuple, fCall, lCall, fIf, truth, tgName, tgTup, tgSeq, retA, A.below, fAnd, fOr, fNot, fIsi, isTy, iSeq, iRange1, iRange2, iEnum, iZip, iRangeDn, A.seqd, vals, oAddU, oSub, oAdd, oLt, oLtU, lexLtI, intsD, oLe, oGt, oGe, oEqU, oEqG_int, oEqG_bl, oEqG_str, oEqG_nn, oEqG_ni, oEqG_in, oEqG_nil, oEqG_nil2, oNeG_int, oNeG_bl, oNeG_str, oNeG_nn, oNeG_ni, oNeG_in, oNeG_nil0, oNeS, eqU, eqS, oIsN, oNotN, oIsB, oNeg, bAbs, bMax2, bMin2, bInt, bSum, bSumU, bMaxU, bMinU, seqD, bLen, oMod, oDiv, oMulU, oMul, ix0, ix1, ix2, ix3, ix4, ix5, ix6, ix7, ix8, ix9, ix10, ix11, ix12, ix13, ix14, ix15, ix16, ix17, ix18, ix19, ixLast, bind_ok, bind_err, bind_bad, st_ok, st_err, st_bad, of_some, of_none, seq_nx, seq_rt, seq_bk, seq_ct, seq_err, seq_bad, gd_true, gd_false, dec_true, dec_false, dec_iff, Option.bind_some, Option.bind_none, Option.map_some, Option.map_none, List.getElem?_cons_zero, List.getElem?_cons_succ, List.set_cons_zero, List.set_cons_succ, List.map_cons, List.map_nil, List.map_map, List.length_map, List.length_cons, List.length_nil, List.getElem?_map, Function.comp_def, List.append_nil, List.nil_append, List.cons_append, List.all_cons, List.all_nil, Bool.and_true, Bool.and_self, Bool.true_and, decide_true, decide_false, Bool.false_eq_true, if_true, if_false, ite_true, ite_false, Bool.not_true, Bool.not_false, ne_eq, not_true_eq_false, not_false_eq_true, frzL_vals, vals_map, intsD_map, forT_nil, forT_cons, lp_nx, lp_ct, lp_bk, lp_rt, lp_err, frzL_mapv, vals_mapv, intsD_mapv, List.isEmpty_nil, List.isEmpty_cons, List.replicate, List.take_length, List.take_zero, and_true, true_and, and_self, Nat.reduceAdd, Nat.reduceSub, Int.ofNat_eq_natCast, d2, hz, hu, tk]
/-! ### what is due -/
def ltq (p q : Int × Int) : Prop := p.1 < q.1 ∨ (p.1 = q.1 ∧ p.2 < q.2)
theorem lex2 (a b c d : Int) : lexLtI [a, b] [c, d] = dec (ltq (a, b) (c, d)) := by
  have h0 : ∀ x y : Int, lexLtI [x] [y] = dec (x < y) := fun x y => by
    show (if dec (x = y) = true then lexLtI [] [] else dec (x < y)) = _
    by_cases h : x = y
    · rw [if_pos (dec_pos h), dec_neg (by omega)]; rfl
    · rw [if_neg (by rw [dec_neg h]; decide)]
  show (if dec (a = c) = true then lexLtI [b] [d] else dec (a < c)) = _
  rw [h0]
  unfold ltq
  by_cases h : a = c
  · rw [if_pos (dec_pos h)]
    congr 1
    apply propext
    dsimp only
    omega
  · rw [if_neg (by rw [dec_neg h]; decide)]
    congr 1
    apply propext
    dsimp only
    omega
def mn (i j : Int) : Int := if j < i then j else i
def ps (x : Int) : Int := if x > 0 then x else 0
noncomputable def ahead (ws dg : List Int) (n t : Nat) : Int := (((List.range n).filter fun x => dec (ltq (dg.getD x 0, (x : Nat)) (dg.getD t 0, (t : Nat)))).map fun x => ws.getD x 0).sum
noncomputable def dueV (ws dg : List Int) (n : Nat) (u : Int) (t : Nat) : Int := mn (ws.getD t 0) (ps (u - ahead ws dg n t))
noncomputable def due (ws dg : List Int) (n : Nat) (u : Int) : List Int := (List.range n).map (dueV ws dg n u)
theorem at_ (ws : List Int) (n : Nat) (hw : ws.length = n) (v : Nat) (hv : v < n) : ixOf n (v : Int) = some v ∧ ws[v]? = some (ws.getD v 0) :=
  ⟨ixNat hv, by rw [List.getD_eq_getElem?_getD, List.getElem?_eq_getElem (by omega)]; rfl⟩
theorem fb (ws dg : List Int) (n : Nat) (hw : ws.length = n) (hd : dg.length = n) (hn : n ≤ 13) (u : Int) (t : Nat) (ht : t < n) (acc : List Int) (ha : acc.length ≤ 13) (t5 t6 : Option A) (st : Store) :
    ∃ s5, l3__law_filled [some (.v (.tup (ws.map D.int))), some (.v (.tup (dg.map D.int))), some (.v (.int u)), some (.ref st.length), some (.v (iD t)), t5, t6] (st ++ [.lst (acc.map fun x => .v (.int x))]) =
      .nx [some (.v (.tup (ws.map D.int))), some (.v (.tup (dg.map D.int))), some (.v (.int u)), some (.ref st.length), some (.v (iD t)), s5, t6] (st ++ [.lst ((acc ++ [dueV ws dg n u t]).map fun x => .v (.int x))]) := by
  have okn : okR (n : Int) := ⟨by omega, by omega⟩
  have cm : ∀ (t3 t5 : Option A) (st : Store), fFrz (lComp (iRange1 (fLen (fVar 0))) (tgName 6) c1__law_filled e2__law_filled [6]) [some (.v (.tup (ws.map D.int))), some (.v (.tup (dg.map D.int))), some (.v (.int u)), t3, some (.v (iD t)), t5, t6] st =
      .ok (.v (.lst (((List.range n).filter fun x => dec (ltq (dg.getD x 0, (x : Nat)) (dg.getD t 0, (t : Nat)))).map fun x => D.int (ws.getD x 0)))) st := by
    intro t3 t5 st
    refine frz_comp (fun i : Nat => A.v (iD i)) (fun x => D.int (ws.getD x 0)) _ (List.range n) (g := fun _ => True) ?_ trivial (fun y hy => ⟨_, rfl, ?_, fun _ => ?_⟩) (by rw [List.length_range]; simp only [sizeMax]; omega)
    · simp only [fnV, seq_eq, sIf, sSet, sRet, sRetN, sAsg, sExpr, sNil, sPar, sAug, sBreak, sCont, sPass, tCmp, tOf, Dn.tAnd, Dn.tOr, Dn.tNot, tYes, fVar, fC, fOp, fUn, fB, fArgs, viewL, fTup, frzL, A.frz, fFrz_disp, fLive, lDisp_eq, fIx, A.elems, A.int?, A.view, A.bl?, fLen, fTuple, fCall, lCall, fIf, truth, tgName, tgTup, tgSeq, retA, A.below, fAnd, fOr, fNot, fIsi, isTy, iSeq, iRange1, iRange2, iEnum, iZip, iRangeDn, A.seqd, vals, ix0, ix1, ix2, ix3, ix4, ix5, ix6, ix7, ix8, ix9, ix10, ix11, ix12, ix13, ix14, ix15, ix16, ix17, ix18, ix19, ixLast, bind_ok, bind_err, bind_bad, st_ok, st_err, st_bad, of_some, of_none, seq_nx, seq_rt, seq_bk, seq_ct, seq_err, seq_bad, gd_true, gd_false, dec_true, dec_false, dec_iff, Option.bind_some, Option.bind_none, Option.map_some, Option.map_none, List.getElem?_cons_zero, List.getElem?_cons_succ, List.set_cons_zero, List.set_cons_succ, List.map_cons, List.map_nil, List.map_map, List.length_map, List.length_cons, List.length_nil, List.getElem?_map, Function.comp_def, List.append_nil, List.nil_append, List.cons_append, List.all_cons, List.all_nil, Bool.and_true, Bool.and_self, Bool.true_and, decide_true, decide_false, Bool.false_eq_true, if_true, if_false, ite_true, ite_false, Bool.not_true, Bool.not_false, ne_eq, not_true_eq_false, not_false_eq_true, frzL_vals, vals_map, intsD_map, forT_nil, forT_cons, lp_nx, lp_ct, lp_bk, lp_rt, lp_err, frzL_mapv, vals_mapv, intsD_mapv, List.isEmpty_nil, List.isEmpty_cons, List.replicate, List.take_length, List.take_zero, and_true, true_and, and_self, Nat.reduceAdd, Nat.reduceSub, Int.ofNat_eq_natCast, hw, okn, rangeA_eq, Int.toNat_natCast, Int.zero_add]
    · obtain ⟨a1, a2⟩ := at_ dg n hd y (List.mem_range.mp hy)
      obtain ⟨a3, a4⟩ := at_ dg n hd t ht
      have lx := lex2 (dg.getD y 0) (y : Nat) (dg.getD t 0) (t : Nat)
      simp only [c1__law_filled, wipeE, fTup, frzL, A.frz, tCmp, fOp, fIx, fVar, A.elems, A.int?, A.view, A.bl?, oLtU, intsD, fArgs, ix0, ix1, ix2, ix3, ix4, ix5, ix6, ix7, ix8, ix9, ix10, ix11, ix12, ix13, ix14, ix15, ix16, ix17, ix18, ix19, ixLast, bind_ok, bind_err, bind_bad, st_ok, st_err, st_bad, of_some, of_none, seq_nx, seq_rt, seq_bk, seq_ct, seq_err, seq_bad, gd_true, gd_false, dec_true, dec_false, dec_iff, Option.bind_some, Option.bind_none, Option.map_some, Option.map_none, List.getElem?_cons_zero, List.getElem?_cons_succ, List.set_cons_zero, List.set_cons_succ, List.map_cons, List.map_nil, List.map_map, List.length_map, List.length_cons, List.length_nil, List.getElem?_map, Function.comp_def, List.append_nil, List.nil_append, List.cons_append, List.all_cons, List.all_nil, Bool.and_true, Bool.and_self, Bool.true_and, decide_true, decide_false, Bool.false_eq_true, if_true, if_false, ite_true, ite_false, Bool.not_true, Bool.not_false, ne_eq, not_true_eq_false, not_false_eq_true, frzL_vals, vals_map, intsD_map, forT_nil, forT_cons, lp_nx, lp_ct, lp_bk, lp_rt, lp_err, frzL_mapv, vals_mapv, intsD_mapv, List.isEmpty_nil, List.isEmpty_cons, List.replicate, List.take_length, List.take_zero, and_true, true_and, and_self, Nat.reduceAdd, Nat.reduceSub, Int.ofNat_eq_natCast, hd, a1, a2, a3, a4, lx]
    · obtain ⟨a1, a2⟩ := at_ ws n hw y (List.mem_range.mp hy)
      simp only [e2__law_filled, wipeE, fnV, seq_eq, sIf, sSet, sRet, sRetN, sAsg, sExpr, sNil, sPar, sAug, sBreak, sCont, sPass, tCmp, tOf, Dn.tAnd, Dn.tOr, Dn.tNot, tYes, fVar, fC, fOp, fUn, fB, fArgs, viewL, fTup, frzL, A.frz, fFrz_disp, fLive, lDisp_eq, fIx, A.elems, A.int?, A.view, A.bl?, fLen, fTuple, fCall, lCall, fIf, truth, tgName, tgTup, tgSeq, retA, A.below, fAnd, fOr, fNot, fIsi, isTy, iSeq, iRange1, iRange2, iEnum, iZip, iRangeDn, A.seqd, vals, ix0, ix1, ix2, ix3, ix4, ix5, ix6, ix7, ix8, ix9, ix10, ix11, ix12, ix13, ix14, ix15, ix16, ix17, ix18, ix19, ixLast, bind_ok, bind_err, bind_bad, st_ok, st_err, st_bad, of_some, of_none, seq_nx, seq_rt, seq_bk, seq_ct, seq_err, seq_bad, gd_true, gd_false, dec_true, dec_false, dec_iff, Option.bind_some, Option.bind_none, Option.map_some, Option.map_none, List.getElem?_cons_zero, List.getElem?_cons_succ, List.set_cons_zero, List.set_cons_succ, List.map_cons, List.map_nil, List.map_map, List.length_map, List.length_cons, List.length_nil, List.getElem?_map, Function.comp_def, List.append_nil, List.nil_append, List.cons_append, List.all_cons, List.all_nil, Bool.and_true, Bool.and_self, Bool.true_and, decide_true, decide_false, Bool.false_eq_true, if_true, if_false, ite_true, ite_false, Bool.not_true, Bool.not_false, ne_eq, not_true_eq_false, not_false_eq_true, frzL_vals, vals_map, intsD_map, forT_nil, forT_cons, lp_nx, lp_ct, lp_bk, lp_rt, lp_err, frzL_mapv, vals_mapv, intsD_mapv, List.isEmpty_nil, List.isEmpty_cons, List.replicate, List.take_length, List.take_zero, and_true, true_and, and_self, Nat.reduceAdd, Nat.reduceSub, Int.ofNat_eq_natCast, hw, a1, a2]
  have g : ∀ c : Cell, (st ++ [c])[st.length]? = some c := fun c => by simp
  have g2 : ∀ c c' : Cell, (st ++ [c]).set st.length c' = st ++ [c'] := fun c c' => by simp
  have hz : acc.length < sizeMax := by simp only [sizeMax]; omega
  obtain ⟨a1, a2⟩ := at_ ws n hw t ht
  refine ⟨some (.v (.int (ahead ws dg n t))), ?_⟩
  simp only [l3__law_filled, fnV, seq_eq, sIf, sSet, sRet, sRetN, sAsg, sExpr, sNil, sPar, sAug, sBreak, sCont, sPass, tCmp, tOf, Dn.tAnd, Dn.tOr, Dn.tNot, tYes, fVar, fC, fOp, fUn, fB, fArgs, viewL, fTup, frzL, A.frz, fFrz_disp, fLive, lDisp_eq, fIx, A.elems, A.int?, A.view, A.bl?, fLen, fTuple, fCall, lCall, fIf, truth, tgName, tgTup, tgSeq, retA, A.below, fAnd, fOr, fNot, fIsi, isTy, iSeq, iRange1, iRange2, iEnum, iZip, iRangeDn, A.seqd, vals, bSumU, seqD, bMin2, bMax2, oSub, ix0, ix1, ix2, ix3, ix4, ix5, ix6, ix7, ix8, ix9, ix10, ix11, ix12, ix13, ix14, ix15, ix16, ix17, ix18, ix19, ixLast, bind_ok, bind_err, bind_bad, st_ok, st_err, st_bad, of_some, of_none, seq_nx, seq_rt, seq_bk, seq_ct, seq_err, seq_bad, gd_true, gd_false, dec_true, dec_false, dec_iff, Option.bind_some, Option.bind_none, Option.map_some, Option.map_none, List.getElem?_cons_zero, List.getElem?_cons_succ, List.set_cons_zero, List.set_cons_succ, List.map_cons, List.map_nil, List.map_map, List.length_map, List.length_cons, List.length_nil, List.getElem?_map, Function.comp_def, List.append_nil, List.nil_append, List.cons_append, List.all_cons, List.all_nil, Bool.and_true, Bool.and_self, Bool.true_and, decide_true, decide_false, Bool.false_eq_true, if_true, if_false, ite_true, ite_false, Bool.not_true, Bool.not_false, ne_eq, not_true_eq_false, not_false_eq_true, frzL_vals, vals_map, intsD_map, forT_nil, forT_cons, lp_nx, lp_ct, lp_bk, lp_rt, lp_err, frzL_mapv, vals_mapv, intsD_mapv, List.isEmpty_nil, List.isEmpty_cons, List.replicate, List.take_length, List.take_zero, and_true, true_and, and_self, Nat.reduceAdd, Nat.reduceSub, Int.ofNat_eq_natCast, cm, hw, a1, a2, g, g2, fAppend, putA, hz, List.map_append, dueV, ahead, mn, ps]
  rfl
theorem filled_spec (ws dg : List Int) (n : Nat) (hw : ws.length = n) (hd : dg.length = n) (hn : n ≤ 13) (u : Int) (st : Store) :
    d__law_filled [.v (.tup (ws.map D.int)), .v (.tup (dg.map D.int)), .v (.int u)] st = .ok (.v (.tup ((due ws dg n u).map D.int))) st := by
  have okn : okR (n : Int) := ⟨by omega, by omega⟩
  obtain ⟨σ', st', hf, t4, t5, rfl, rfl⟩ := for_all (fun i : Nat => A.v (iD i)) (t := tgName 4) (b := l3__law_filled) (g := fun _ => True) (List.range n)
    (fun pre σ st' => ∃ t4 t5 : Option A, σ = [some (.v (.tup (ws.map D.int))), some (.v (.tup (dg.map D.int))), some (.v (.int u)), some (.ref st.length), t4, t5, none] ∧ st' = st ++ [.lst ((pre.map (dueV ws dg n u)).map fun x => .v (.int x))]) (fun _ _ _ _ => trivial)
    (fun pre y post σ st' e ⟨t4, t5, hσ, hst⟩ => by
      subst hσ hst
      have hy : y < n := List.mem_range.mp (by rw [e]; simp)
      have hl := congrArg List.length e
      simp at hl
      obtain ⟨s5, hb⟩ := fb ws dg n hw hd hn u y hy (pre.map (dueV ws dg n u)) (by rw [List.length_map]; omega) t5 none st
      refine ⟨_, _, _, _, rfl, .inl hb, some (.v (iD y)), s5, rfl, ?_⟩
      rw [List.map_append, List.map_append, List.map_append]
      rfl)
    (σ := [some (.v (.tup (ws.map D.int))), some (.v (.tup (dg.map D.int))), some (.v (.int u)), some (.ref st.length), none, none, none]) (st := st ++ [.lst []]) ⟨none, none, rfl, rfl⟩
  have g : ∀ c : Cell, (st ++ [c])[st.length]? = some c := fun c => by simp
  have tk : ∀ c : Cell, (st ++ [c]).take st.length = st := fun c => by simp
  have hr : rangeA 0 n = (List.range n).map fun i => A.v (iD i) := by
    rw [rangeA_eq]
    simp only [Int.zero_add]
  have hf' := hf
  simp only [List.map_map, Function.comp_def] at hf'
  simp only [d__law_filled, b__law_filled, sFor, fnV, seq_eq, sIf, sSet, sRet, sRetN, sAsg, sExpr, sNil, sPar, sAug, sBreak, sCont, sPass, tCmp, tOf, Dn.tAnd, Dn.tOr, Dn.tNot, tYes, fVar, fC, fOp, fUn, fB, fArgs, viewL, fTup, frzL, A.frz, fFrz_disp, fLive, lDisp_eq, fIx, A.elems, A.int?, A.view, A.bl?, fLen, fTuple, fCall, lCall, fIf, truth, tgName, tgTup, tgSeq, retA, A.below, fAnd, fOr, fNot, fIsi, isTy, iSeq, iRange1, iRange2, iEnum, iZip, iRangeDn, A.seqd, vals, ix0, ix1, ix2, ix3, ix4, ix5, ix6, ix7, ix8, ix9, ix10, ix11, ix12, ix13, ix14, ix15, ix16, ix17, ix18, ix19, ixLast, bind_ok, bind_err, bind_bad, st_ok, st_err, st_bad, of_some, of_none, seq_nx, seq_rt, seq_bk, seq_ct, seq_err, seq_bad, gd_true, gd_false, dec_true, dec_false, dec_iff, Option.bind_some, Option.bind_none, Option.map_some, Option.map_none, List.getElem?_cons_zero, List.getElem?_cons_succ, List.set_cons_zero, List.set_cons_succ, List.map_cons, List.map_nil, List.map_map, List.length_map, List.length_cons, List.length_nil, List.getElem?_map, Function.comp_def, List.append_nil, List.nil_append, List.cons_append, List.all_cons, List.all_nil, Bool.and_true, Bool.and_self, Bool.true_and, decide_true, decide_false, Bool.false_eq_true, if_true, if_false, ite_true, ite_false, Bool.not_true, Bool.not_false, ne_eq, not_true_eq_false, not_false_eq_true, frzL_vals, vals_map, intsD_map, forT_nil, forT_cons, lp_nx, lp_ct, lp_bk, lp_rt, lp_err, frzL_mapv, vals_mapv, intsD_mapv, List.isEmpty_nil, List.isEmpty_cons, List.replicate, List.take_length, List.take_zero, and_true, true_and, and_self, Nat.reduceAdd, Nat.reduceSub, Int.ofNat_eq_natCast, hw, okn, Int.toNat_natCast, hr, hf', g, tk, due]
/-! ### rank_fill -/
theorem rk_body (ws : List Int) (n : Nat) (hw : ws.length = n) (got : List Int) (hg : got.length = n) (left rk : Int) (t : Nat) (ht : t < n) (t1 t2 t7 t8 : Option A) (st : Store) :
    l2_rank_fill [some (.v (.tup (ws.map D.int))), t1, t2, some (.ref st.length), some (.v (.int left)), some (.v (.int rk)), some (.v (iD t)), t7, t8] (st ++ [.lst (got.map fun x => .v (.int x))]) =
      .nx [some (.v (.tup (ws.map D.int))), t1, t2, some (.ref st.length), some (.v (.int (left - mn (ws.getD t 0) left))), some (.v (.int rk)), some (.v (iD t)), t7, t8] (st ++ [.lst ((got.set t (mn (ws.getD t 0) left)).map fun x => .v (.int x))]) := by
  have g : ∀ c : Cell, (st ++ [c])[st.length]? = some c := fun c => by simp
  have g2 : ∀ c c' : Cell, (st ++ [c]).set st.length c' = st ++ [c'] := fun c c' => by simp
  obtain ⟨a1, a2⟩ := at_ ws n hw t ht
  have gs : ∀ v, ((got.map fun x => A.v (.int x)).set t v)[t]? = some v := fun v => List.getElem?_set_self (by simp; omega)
  simp only [l2_rank_fill, fnV, seq_eq, sIf, sSet, sRet, sRetN, sAsg, sExpr, sNil, sPar, sAug, sBreak, sCont, sPass, tCmp, tOf, Dn.tAnd, Dn.tOr, Dn.tNot, tYes, fVar, fC, fOp, fUn, fB, fArgs, viewL, fTup, frzL, A.frz, fFrz_disp, fLive, lDisp_eq, fIx, A.elems, A.int?, A.view, A.bl?, fLen, fTuple, fCall, lCall, fIf, truth, tgName, tgTup, tgSeq, retA, A.below, fAnd, fOr, fNot, fIsi, isTy, iSeq, iRange1, iRange2, iEnum, iZip, iRangeDn, A.seqd, vals, bMin2, oSub, ix0, ix1, ix2, ix3, ix4, ix5, ix6, ix7, ix8, ix9, ix10, ix11, ix12, ix13, ix14, ix15, ix16, ix17, ix18, ix19, ixLast, bind_ok, bind_err, bind_bad, st_ok, st_err, st_bad, of_some, of_none, seq_nx, seq_rt, seq_bk, seq_ct, seq_err, seq_bad, gd_true, gd_false, dec_true, dec_false, dec_iff, Option.bind_some, Option.bind_none, Option.map_some, Option.map_none, List.getElem?_cons_zero, List.getElem?_cons_succ, List.set_cons_zero, List.set_cons_succ, List.map_cons, List.map_nil, List.map_map, List.length_map, List.length_cons, List.length_nil, List.getElem?_map, Function.comp_def, List.append_nil, List.nil_append, List.cons_append, List.all_cons, List.all_nil, Bool.and_true, Bool.and_self, Bool.true_and, decide_true, decide_false, Bool.false_eq_true, if_true, if_false, ite_true, ite_false, Bool.not_true, Bool.not_false, ne_eq, not_true_eq_false, not_false_eq_true, frzL_vals, vals_map, intsD_map, forT_nil, forT_cons, lp_nx, lp_ct, lp_bk, lp_rt, lp_err, frzL_mapv, vals_mapv, intsD_mapv, List.isEmpty_nil, List.isEmpty_cons, List.replicate, List.take_length, List.take_zero, and_true, true_and, and_self, Nat.reduceAdd, Nat.reduceSub, Int.ofNat_eq_natCast, hw, hg, a1, a2, g, g2, tgSub, setL, putA, List.length_set, gs, List.map_set, mn]
noncomputable def base (dg : List Int) (n : Nat) : List (Int × Int) := (List.range n).map fun i => (dg.getD i 0, ((i : Nat) : Int))
theorem base_nd (dg : List Int) (n : Nat) : (base dg n).Nodup := by
  unfold base
  rw [List.nodup_iff_pairwise_ne, List.pairwise_map]
  refine List.Pairwise.imp (fun {a b} h => ?_) (List.nodup_iff_pairwise_ne.mp List.nodup_range)
  intro e
  have := congrArg Prod.snd e
  dsimp only at this
  omega
theorem sp_lt (dg : List Int) (n : Nat) : (sortP (base dg n)).Pairwise ltq := by
  have h1 := sortP_pw (base dg n)
  have h2 : (sortP (base dg n)).Nodup := (sortP_perm _).nodup_iff.mpr (base_nd dg n)
  rw [List.nodup_iff_pairwise_ne] at h2
  refine List.Pairwise.imp (fun {a b} h => ?_) (List.Pairwise.and h1 h2)
  obtain ⟨h3, h4⟩ := h
  unfold lePP at h3
  unfold ltq
  rcases h3 with q | ⟨q1, q2⟩
  · exact .inl q
  · refine .inr ⟨q1, ?_⟩
    rcases Int.lt_or_eq_of_le q2 with q | q
    · exact q
    · exact absurd (Prod.ext q1 q) h4
theorem pre_eq {l : List (Int × Int)} (h : l.Pairwise ltq) (pre post : List (Int × Int)) (y : Int × Int) (e : l = pre ++ y :: post) : pre = l.filter fun q => dec (ltq q y) := by
  subst e
  have h' := List.pairwise_append.mp h
  obtain ⟨h1, h2, h3⟩ := h'
  have h4 := List.pairwise_cons.mp h2
  rw [List.filter_append, List.filter_cons]
  have e1 : (pre.filter fun q => dec (ltq q y)) = pre := List.filter_eq_self.mpr fun q hq => dec_pos (h3 q hq y List.mem_cons_self)
  have e2 : dec (ltq y y) = false := dec_neg (by unfold ltq; omega)
  have e3 : (post.filter fun q => dec (ltq q y)) = [] := List.filter_eq_nil_iff.mpr fun q hq => by
    have := h4.1 q hq
    rw [dec_iff]
    unfold ltq at *
    omega
  rw [e1, e2, e3]
  simp
theorem ahead_eq (ws dg : List Int) (n : Nat) (i : Nat) (pre post : List (Int × Int)) (e : sortP (base dg n) = pre ++ (dg.getD i 0, ((i : Nat) : Int)) :: post) :
    ahead ws dg n i = (pre.map fun p => ws.getD p.2.toNat 0).sum := by
  rw [pre_eq (sp_lt dg n) pre post _ e]
  have hp : ((sortP (base dg n)).filter fun q => dec (ltq q (dg.getD i 0, ((i : Nat) : Int)))).Perm ((base dg n).filter fun q => dec (ltq q (dg.getD i 0, ((i : Nat) : Int)))) := (sortP_perm _).filter _
  rw [perm_sum (hp.map fun p => ws.getD p.2.toNat 0)]
  unfold ahead base
  rw [List.filter_map, List.map_map]
  rfl
theorem rank_spec (ws dg : List Int) (n : Nat) (hw : ws.length = n) (hd : dg.length = n) (hn : n ≤ 13) (hp : ∀ x ∈ ws, 0 ≤ x) (u : Int) (hu : 0 ≤ u) (st : Store) :
    d_rank_fill [.v (.tup (ws.map D.int)), .v (.tup (dg.map D.int)), .v (.int u)] st = .ok (.v (.tup ((due ws dg n u).map D.int))) st := by
  have wn : ∀ i, i < n → 0 ≤ ws.getD i 0 := fun i hi => by
    obtain ⟨_, a2⟩ := at_ ws n hw i hi
    exact hp _ (List.mem_of_getElem? a2)
  have mem : ∀ p ∈ sortP (base dg n), ∃ i, i < n ∧ p = (dg.getD i 0, ((i : Nat) : Int)) := fun p hp => by
    have := (sortP_perm (base dg n)).mem_iff.mp hp
    unfold base at this
    obtain ⟨i, hi, e⟩ := List.mem_map.mp this
    exact ⟨i, List.mem_range.mp hi, e.symm⟩
  obtain ⟨σ', st', hf, t5, t6, got, left, rfl, rfl, hg, hl, hall⟩ := for_all (fun p : Int × Int => A.v (pairD p)) (t := tgTup [tgName 5, tgName 6]) (b := l2_rank_fill) (g := fun _ => True) (sortP (base dg n))
    (fun pre σ st' => ∃ (t5 t6 : Option A) (got : List Int) (left : Int), σ = [some (.v (.tup (ws.map D.int))), some (.v (.tup (dg.map D.int))), some (.v (.int u)), some (.ref st.length), some (.v (.int left)), t5, t6, none, none] ∧ st' = st ++ [.lst (got.map fun x => .v (.int x))] ∧
      got.length = n ∧ left = ps (u - (pre.map fun p => ws.getD p.2.toNat 0).sum) ∧ ∀ p ∈ pre, got.getD p.2.toNat 0 = dueV ws dg n u p.2.toNat) (fun _ _ _ _ => trivial)
    (fun pre y post σ st' e ⟨t5, t6, got, left, hσ, hst, hg, hl, hall⟩ => by
      subst hσ
      subst hst
      obtain ⟨i, hi, rfl⟩ := mem y (by rw [e]; simp)
      have ha := ahead_eq ws dg n i pre post e
      rw [← ha] at hl
      have hb := rk_body ws n hw got hg left (dg.getD i 0) i hi (some (.v (.tup (dg.map D.int)))) (some (.v (.int u))) none none st
      have hm : mn (ws.getD i 0) left = dueV ws dg n u i := by rw [hl]; rfl
      have hwi := wn i hi
      refine ⟨_, _, _, _, rfl, .inl hb, some (.v (.int (dg.getD i 0))), some (.v (iD i)), _, _, rfl, rfl, by rw [List.length_set]; exact hg, ?_, fun p hq => ?_⟩
      · rw [List.map_append, List.sum_append, ← ha]
        show left - mn (ws.getD i 0) left = ps (u - (ahead ws dg n i + (ws.getD (((i : Nat) : Int)).toNat 0 + 0)))
        rw [Int.toNat_natCast]
        rw [hl]
        unfold mn ps
        clear hall hm hb mem
        generalize ws.getD i 0 = w at *
        generalize ahead ws dg n i = S at *
        split <;> split <;> split <;> omega
      · rcases List.mem_append.mp hq with q | q
        · obtain ⟨j, hj, rfl⟩ := mem p (by rw [e]; exact List.mem_append_left _ q)
          have hall' := hall _ q
          rw [Int.toNat_natCast] at hall' ⊢
          by_cases hij : i = j
          · subst hij
            rw [List.getD_eq_getElem?_getD, List.getElem?_set_self (by omega)]
            exact hm
          · rw [List.getD_eq_getElem?_getD, List.getElem?_set_ne hij, ← List.getD_eq_getElem?_getD]
            exact hall'
        · simp at q
          subst q
          rw [Int.toNat_natCast, List.getD_eq_getElem?_getD, List.getElem?_set_self (by omega)]
          exact hm)
    (σ := [some (.v (.tup (ws.map D.int))), some (.v (.tup (dg.map D.int))), some (.v (.int u)), some (.ref st.length), some (.v (.int u)), none, none, none, none]) (st := st ++ [.lst ((List.replicate n 0).map fun x => .v (.int x))])
    ⟨none, none, List.replicate n 0, u, rfl, rfl, by simp, by simp only [List.map_nil, List.sum_nil, ps]; split <;> omega, fun p hp => by cases hp⟩
  have hgot : got = due ws dg n u := by
    unfold due
    apply List.ext_getElem
    · simp [hg]
    · intro i h1 h2
      have hi : i < n := by omega
      have hb : (dg.getD i 0, ((i : Nat) : Int)) ∈ sortP (base dg n) := (sortP_perm _).mem_iff.mpr (by unfold base; exact List.mem_map.mpr ⟨i, List.mem_range.mpr hi, rfl⟩)
      have := hall _ hb
      rw [Int.toNat_natCast, List.getD_eq_getElem?_getD, List.getElem?_eq_getElem h1] at this
      simpa using this
  subst hgot
  have okn : okR (n : Int) := ⟨by omega, by omega⟩
  have rp : -(2 ^ 63) ≤ (n : Int) ∧ (n : Int) < 2 ^ 63 ∧ [D.int 0].length * ((n : Int)).toNat ≤ sizeMax := ⟨by omega, by omega, by simp only [List.length_cons, List.length_nil, sizeMax]; omega⟩
  have rd : repD n [D.int 0] = (List.replicate n 0).map D.int := by
    have go : ∀ m : Nat, repD m [D.int 0] = (List.replicate m 0).map D.int := by
      intro m
      induction m with
      | zero => rfl
      | succ m ih =>
        show (List.replicate (m + 1) [D.int 0]).flatten = _
        rw [List.replicate_succ, List.flatten_cons, List.replicate_succ, List.map_cons]
        show D.int 0 :: repD m [D.int 0] = _
        rw [ih]
    exact go n
  have en : ∀ (ds : List Int) (o : Nat), enumA o (ds.map D.int) = (List.range ds.length).map fun i => A.v (.tup [.int ((o + i : Nat) : Int), .int (ds.getD i 0)]) := by
    intro ds
    induction ds with
    | nil => intro o; rfl
    | cons d r ih =>
      intro o
      rw [List.length_cons, List.range_succ_eq_map, List.map_cons, List.map_cons, List.map_map]
      show A.v _ :: enumA (o + 1) (r.map D.int) = _
      rw [ih (o + 1)]
      congr 1
      apply List.map_congr_left
      intro i _
      simp only [Function.comp, List.getD_cons_succ]
      congr 4
      omega
  have cm : ∀ (t0 t2 t3 t4 t5 t6 t7 t8 : Option A) (st : Store), fFrz (lComp (iEnum (fVar 1)) (tgTup [(tgName 7), (tgName 8)]) tYes e1_rank_fill [7, 8]) [t0, some (.v (.tup (dg.map D.int))), t2, t3, t4, t5, t6, t7, t8] st = .ok (.v (.lst ((base dg n).map pairD))) st := by
    intro t0 t2 t3 t4 t5 t6 t7 t8 st
    unfold base
    rw [List.map_map]
    refine frz_map (fun i : Nat => A.v (.tup [.int ((0 + i : Nat) : Int), .int (dg.getD i 0)])) (pairD ∘ fun i => (dg.getD i 0, ((i : Nat) : Int))) (List.range n) (g := fun _ => True) ?_ trivial (fun y hy => ⟨_, rfl, rfl, ?_⟩) (by rw [List.length_range]; simp only [sizeMax]; omega)
    · simp only [iEnum, fVar, A.seqd, ix0, ix1, ix2, ix3, ix4, ix5, ix6, ix7, ix8, ix9, ix10, ix11, ix12, ix13, ix14, ix15, ix16, ix17, ix18, ix19, ixLast, bind_ok, bind_err, bind_bad, st_ok, st_err, st_bad, of_some, of_none, seq_nx, seq_rt, seq_bk, seq_ct, seq_err, seq_bad, gd_true, gd_false, dec_true, dec_false, dec_iff, Option.bind_some, Option.bind_none, Option.map_some, Option.map_none, List.getElem?_cons_zero, List.getElem?_cons_succ, List.set_cons_zero, List.set_cons_succ, List.map_cons, List.map_nil, List.map_map, List.length_map, List.length_cons, List.length_nil, List.getElem?_map, Function.comp_def, List.append_nil, List.nil_append, List.cons_append, List.all_cons, List.all_nil, Bool.and_true, Bool.and_self, Bool.true_and, decide_true, decide_false, Bool.false_eq_true, if_true, if_false, ite_true, ite_false, Bool.not_true, Bool.not_false, ne_eq, not_true_eq_false, not_false_eq_true, frzL_vals, vals_map, intsD_map, forT_nil, forT_cons, lp_nx, lp_ct, lp_bk, lp_rt, lp_err, frzL_mapv, vals_mapv, intsD_mapv, List.isEmpty_nil, List.isEmpty_cons, List.replicate, List.take_length, List.take_zero, and_true, true_and, and_self, Nat.reduceAdd, Nat.reduceSub, Int.ofNat_eq_natCast, en, hd]
    · simp only [e1_rank_fill, wipeE, fnV, seq_eq, sIf, sSet, sRet, sRetN, sAsg, sExpr, sNil, sPar, sAug, sBreak, sCont, sPass, tCmp, tOf, Dn.tAnd, Dn.tOr, Dn.tNot, tYes, fVar, fC, fOp, fUn, fB, fArgs, viewL, fTup, frzL, A.frz, fFrz_disp, fLive, lDisp_eq, fIx, A.elems, A.int?, A.view, A.bl?, fLen, fTuple, fCall, lCall, fIf, truth, tgName, tgTup, tgSeq, retA, A.below, fAnd, fOr, fNot, fIsi, isTy, iSeq, iRange1, iRange2, iEnum, iZip, iRangeDn, A.seqd, vals, ix0, ix1, ix2, ix3, ix4, ix5, ix6, ix7, ix8, ix9, ix10, ix11, ix12, ix13, ix14, ix15, ix16, ix17, ix18, ix19, ixLast, bind_ok, bind_err, bind_bad, st_ok, st_err, st_bad, of_some, of_none, seq_nx, seq_rt, seq_bk, seq_ct, seq_err, seq_bad, gd_true, gd_false, dec_true, dec_false, dec_iff, Option.bind_some, Option.bind_none, Option.map_some, Option.map_none, List.getElem?_cons_zero, List.getElem?_cons_succ, List.set_cons_zero, List.set_cons_succ, List.map_cons, List.map_nil, List.map_map, List.length_map, List.length_cons, List.length_nil, List.getElem?_map, Function.comp_def, List.append_nil, List.nil_append, List.cons_append, List.all_cons, List.all_nil, Bool.and_true, Bool.and_self, Bool.true_and, decide_true, decide_false, Bool.false_eq_true, if_true, if_false, ite_true, ite_false, Bool.not_true, Bool.not_false, ne_eq, not_true_eq_false, not_false_eq_true, frzL_vals, vals_map, intsD_map, forT_nil, forT_cons, lp_nx, lp_ct, lp_bk, lp_rt, lp_err, frzL_mapv, vals_mapv, intsD_mapv, List.isEmpty_nil, List.isEmpty_cons, List.replicate, List.take_length, List.take_zero, and_true, true_and, and_self, Nat.reduceAdd, Nat.reduceSub, Int.ofNat_eq_natCast, pairD, Nat.zero_add]
  have sd : ∀ st : Store, fFrz (lSortedU (fFrz (lComp (iEnum (fVar 1)) (tgTup [(tgName 7), (tgName 8)]) tYes e1_rank_fill [7, 8]))) [some (.v (.tup (ws.map D.int))), some (.v (.tup (dg.map D.int))), some (.v (.int u)), some (.ref st.length), some (.v (.int u)), none, none, none, none] (st ++ [.lst ((List.replicate n 0).map fun x => .v (.int x))]) =
      .ok (.v (.lst ((sortP (base dg n)).map pairD))) (st ++ [.lst ((List.replicate n 0).map fun x => .v (.int x))]) := by
    intro st
    apply fFrz_ok
    by_cases h0 : base dg n = []
    · simp only [lSortedU, cm, ix0, ix1, ix2, ix3, ix4, ix5, ix6, ix7, ix8, ix9, ix10, ix11, ix12, ix13, ix14, ix15, ix16, ix17, ix18, ix19, ixLast, bind_ok, bind_err, bind_bad, st_ok, st_err, st_bad, of_some, of_none, seq_nx, seq_rt, seq_bk, seq_ct, seq_err, seq_bad, gd_true, gd_false, dec_true, dec_false, dec_iff, Option.bind_some, Option.bind_none, Option.map_some, Option.map_none, List.getElem?_cons_zero, List.getElem?_cons_succ, List.set_cons_zero, List.set_cons_succ, List.map_cons, List.map_nil, List.map_map, List.length_map, List.length_cons, List.length_nil, List.getElem?_map, Function.comp_def, List.append_nil, List.nil_append, List.cons_append, List.all_cons, List.all_nil, Bool.and_true, Bool.and_self, Bool.true_and, decide_true, decide_false, Bool.false_eq_true, if_true, if_false, ite_true, ite_false, Bool.not_true, Bool.not_false, ne_eq, not_true_eq_false, not_false_eq_true, frzL_vals, vals_map, intsD_map, forT_nil, forT_cons, lp_nx, lp_ct, lp_bk, lp_rt, lp_err, frzL_mapv, vals_mapv, intsD_mapv, List.isEmpty_nil, List.isEmpty_cons, List.replicate, List.take_length, List.take_zero, and_true, true_and, and_self, Nat.reduceAdd, Nat.reduceSub, Int.ofNat_eq_natCast, A.view, h0, intsD, sortI, sortP]
    · have hi : intsD ((base dg n).map pairD) = none := by
        cases hb : base dg n with
        | nil => exact absurd hb h0
        | cons x r => rfl
      simp only [lSortedU, cm, ix0, ix1, ix2, ix3, ix4, ix5, ix6, ix7, ix8, ix9, ix10, ix11, ix12, ix13, ix14, ix15, ix16, ix17, ix18, ix19, ixLast, bind_ok, bind_err, bind_bad, st_ok, st_err, st_bad, of_some, of_none, seq_nx, seq_rt, seq_bk, seq_ct, seq_err, seq_bad, gd_true, gd_false, dec_true, dec_false, dec_iff, Option.bind_some, Option.bind_none, Option.map_some, Option.map_none, List.getElem?_cons_zero, List.getElem?_cons_succ, List.set_cons_zero, List.set_cons_succ, List.map_cons, List.map_nil, List.map_map, List.length_map, List.length_cons, List.length_nil, List.getElem?_map, Function.comp_def, List.append_nil, List.nil_append, List.cons_append, List.all_cons, List.all_nil, Bool.and_true, Bool.and_self, Bool.true_and, decide_true, decide_false, Bool.false_eq_true, if_true, if_false, ite_true, ite_false, Bool.not_true, Bool.not_false, ne_eq, not_true_eq_false, not_false_eq_true, frzL_vals, vals_map, intsD_map, forT_nil, forT_cons, lp_nx, lp_ct, lp_bk, lp_rt, lp_err, frzL_mapv, vals_mapv, intsD_mapv, List.isEmpty_nil, List.isEmpty_cons, List.replicate, List.take_length, List.take_zero, and_true, true_and, and_self, Nat.reduceAdd, Nat.reduceSub, Int.ofNat_eq_natCast, A.view, hi, pairsD_map]
  have g : ∀ c : Cell, (st ++ [c])[st.length]? = some c := fun c => by simp
  have tk : ∀ c : Cell, (st ++ [c]).take st.length = st := fun c => by simp
  have sd' := sd st
  have hf' := hf
  simp only [List.map_map, Function.comp_def, List.map_replicate] at sd' hf'
  have rp1 : -(2 ^ 63) ≤ (n : Int) := rp.1
  have rp2 : (n : Int) < 2 ^ 63 := rp.2.1
  have rp3 : 1 * n ≤ sizeMax := rp.2.2
  have ab : ∀ m k : Nat, (List.replicate k (A.v (.int 0))).all (A.below m) = true := fun m k => by
    rw [List.all_eq_true]
    intro x hx
    rw [(List.mem_replicate.mp hx).2]
    rfl
  simp only [d_rank_fill, b_rank_fill, sFor, fnV, seq_eq, sIf, sSet, sRet, sRetN, sAsg, sExpr, sNil, sPar, sAug, sBreak, sCont, sPass, tCmp, tOf, Dn.tAnd, Dn.tOr, Dn.tNot, tYes, fVar, fC, fOp, fUn, fB, fArgs, viewL, fTup, frzL, A.frz, fFrz_disp, fLive, lDisp_eq, fIx, A.elems, A.int?, A.view, A.bl?, fLen, fTuple, fCall, lCall, fIf, truth, tgName, tgTup, tgSeq, retA, A.below, fAnd, fOr, fNot, fIsi, isTy, iSeq, iRange1, iRange2, iEnum, iZip, iRangeDn, A.seqd, vals, lOp, oRepL, ix0, ix1, ix2, ix3, ix4, ix5, ix6, ix7, ix8, ix9, ix10, ix11, ix12, ix13, ix14, ix15, ix16, ix17, ix18, ix19, ixLast, bind_ok, bind_err, bind_bad, st_ok, st_err, st_bad, of_some, of_none, seq_nx, seq_rt, seq_bk, seq_ct, seq_err, seq_bad, gd_true, gd_false, dec_true, dec_false, dec_iff, Option.bind_some, Option.bind_none, Option.map_some, Option.map_none, List.getElem?_cons_zero, List.getElem?_cons_succ, List.set_cons_zero, List.set_cons_succ, List.map_cons, List.map_nil, List.map_map, List.length_map, List.length_cons, List.length_nil, List.getElem?_map, Function.comp_def, List.append_nil, List.nil_append, List.cons_append, List.all_cons, List.all_nil, Bool.and_true, Bool.and_self, Bool.true_and, decide_true, decide_false, Bool.false_eq_true, if_true, if_false, ite_true, ite_false, Bool.not_true, Bool.not_false, ne_eq, not_true_eq_false, not_false_eq_true, frzL_vals, vals_map, intsD_map, forT_nil, forT_cons, lp_nx, lp_ct, lp_bk, lp_rt, lp_err, frzL_mapv, vals_mapv, intsD_mapv, List.isEmpty_nil, List.isEmpty_cons, List.replicate, List.take_length, List.take_zero, and_true, true_and, and_self, Nat.reduceAdd, Nat.reduceSub, Int.ofNat_eq_natCast, hw, rp1, rp2, rp3, ab, Int.toNat_natCast, rd, List.map_replicate, sd', hf', g, tk]
/-! ### gain, intake -/
def gV (u k : Int) : Int := if k = 0 then u else u - u.fdiv k
theorem gain_spec (u k : Int) (hk : k = 0 ∨ divOk k) (st : Store) : d_gain [.v (.int u), .v (.int k)] st = .ok (.v (.int (gV u k))) st := by
  unfold gV
  by_cases h : k = 0
  · simp only [d_gain, b_gain, fnV, seq_eq, sIf, sSet, sRet, sRetN, sAsg, sExpr, sNil, sPar, sAug, sBreak, sCont, sPass, tCmp, tOf, Dn.tAnd, Dn.tOr, Dn.tNot, tYes, fVar, fC, fOp, fUn, fB, fArgs, viewL, fTup, frzL, A.frz, fFrz_disp, fLive, lDisp_eq, fIx, A.elems, A.int?, A.view, A.bl?, fLen, fTuple, fCall, lCall, fIf, truth, tgName, tgTup, tgSeq, retA, A.below, fAnd, fOr, fNot, fIsi, isTy, iSeq, iRange1, iRange2, iEnum, iZip, iRangeDn, A.seqd, vals, oAddU, oSub, oAdd, oLt, oLtU, lexLtI, intsD, oLe, oGt, oGe, oEqU, oEqG_int, oEqG_bl, oEqG_str, oEqG_nn, oEqG_ni, oEqG_in, oEqG_nil, oEqG_nil2, oNeG_int, oNeG_bl, oNeG_str, oNeG_nn, oNeG_ni, oNeG_in, oNeG_nil0, oNeS, eqU, eqS, oIsN, oNotN, oIsB, oNeg, bAbs, bMax2, bMin2, bInt, bSum, bSumU, bMaxU, bMinU, seqD, bLen, oMod, oDiv, oMulU, oMul, ix0, ix1, ix2, ix3, ix4, ix5, ix6, ix7, ix8, ix9, ix10, ix11, ix12, ix13, ix14, ix15, ix16, ix17, ix18, ix19, ixLast, bind_ok, bind_err, bind_bad, st_ok, st_err, st_bad, of_some, of_none, seq_nx, seq_rt, seq_bk, seq_ct, seq_err, seq_bad, gd_true, gd_false, dec_true, dec_false, dec_iff, Option.bind_some, Option.bind_none, Option.map_some, Option.map_none, List.getElem?_cons_zero, List.getElem?_cons_succ, List.set_cons_zero, List.set_cons_succ, List.map_cons, List.map_nil, List.map_map, List.length_map, List.length_cons, List.length_nil, List.getElem?_map, Function.comp_def, List.append_nil, List.nil_append, List.cons_append, List.all_cons, List.all_nil, Bool.and_true, Bool.and_self, Bool.true_and, decide_true, decide_false, Bool.false_eq_true, if_true, if_false, ite_true, ite_false, Bool.not_true, Bool.not_false, ne_eq, not_true_eq_false, not_false_eq_true, frzL_vals, vals_map, intsD_map, forT_nil, forT_cons, lp_nx, lp_ct, lp_bk, lp_rt, lp_err, frzL_mapv, vals_mapv, intsD_mapv, List.isEmpty_nil, List.isEmpty_cons, List.replicate, List.take_length, List.take_zero, and_true, true_and, and_self, Nat.reduceAdd, Nat.reduceSub, Int.ofNat_eq_natCast, h]
  · have hk' := hk.resolve_left h
    simp only [d_gain, b_gain, fnV, seq_eq, sIf, sSet, sRet, sRetN, sAsg, sExpr, sNil, sPar, sAug, sBreak, sCont, sPass, tCmp, tOf, Dn.tAnd, Dn.tOr, Dn.tNot, tYes, fVar, fC, fOp, fUn, fB, fArgs, viewL, fTup, frzL, A.frz, fFrz_disp, fLive, lDisp_eq, fIx, A.elems, A.int?, A.view, A.bl?, fLen, fTuple, fCall, lCall, fIf, truth, tgName, tgTup, tgSeq, retA, A.below, fAnd, fOr, fNot, fIsi, isTy, iSeq, iRange1, iRange2, iEnum, iZip, iRangeDn, A.seqd, vals, oAddU, oSub, oAdd, oLt, oLtU, lexLtI, intsD, oLe, oGt, oGe, oEqU, oEqG_int, oEqG_bl, oEqG_str, oEqG_nn, oEqG_ni, oEqG_in, oEqG_nil, oEqG_nil2, oNeG_int, oNeG_bl, oNeG_str, oNeG_nn, oNeG_ni, oNeG_in, oNeG_nil0, oNeS, eqU, eqS, oIsN, oNotN, oIsB, oNeg, bAbs, bMax2, bMin2, bInt, bSum, bSumU, bMaxU, bMinU, seqD, bLen, oMod, oDiv, oMulU, oMul, ix0, ix1, ix2, ix3, ix4, ix5, ix6, ix7, ix8, ix9, ix10, ix11, ix12, ix13, ix14, ix15, ix16, ix17, ix18, ix19, ixLast, bind_ok, bind_err, bind_bad, st_ok, st_err, st_bad, of_some, of_none, seq_nx, seq_rt, seq_bk, seq_ct, seq_err, seq_bad, gd_true, gd_false, dec_true, dec_false, dec_iff, Option.bind_some, Option.bind_none, Option.map_some, Option.map_none, List.getElem?_cons_zero, List.getElem?_cons_succ, List.set_cons_zero, List.set_cons_succ, List.map_cons, List.map_nil, List.map_map, List.length_map, List.length_cons, List.length_nil, List.getElem?_map, Function.comp_def, List.append_nil, List.nil_append, List.cons_append, List.all_cons, List.all_nil, Bool.and_true, Bool.and_self, Bool.true_and, decide_true, decide_false, Bool.false_eq_true, if_true, if_false, ite_true, ite_false, Bool.not_true, Bool.not_false, ne_eq, not_true_eq_false, not_false_eq_true, frzL_vals, vals_map, intsD_map, forT_nil, forT_cons, lp_nx, lp_ct, lp_bk, lp_rt, lp_err, frzL_mapv, vals_mapv, intsD_mapv, List.isEmpty_nil, List.isEmpty_cons, List.replicate, List.take_length, List.take_zero, and_true, true_and, and_self, Nat.reduceAdd, Nat.reduceSub, Int.ofNat_eq_natCast, h, hk']
theorem kept_spec (u k : Int) (hk : k = 0 ∨ divOk k) (st : Store) : d__law_kept [.v (.int u), .v (.int k)] st = .ok (.v (.int (gV u k))) st := by
  unfold gV
  by_cases h : k = 0
  · simp only [d__law_kept, b__law_kept, fnV, seq_eq, sIf, sSet, sRet, sRetN, sAsg, sExpr, sNil, sPar, sAug, sBreak, sCont, sPass, tCmp, tOf, Dn.tAnd, Dn.tOr, Dn.tNot, tYes, fVar, fC, fOp, fUn, fB, fArgs, viewL, fTup, frzL, A.frz, fFrz_disp, fLive, lDisp_eq, fIx, A.elems, A.int?, A.view, A.bl?, fLen, fTuple, fCall, lCall, fIf, truth, tgName, tgTup, tgSeq, retA, A.below, fAnd, fOr, fNot, fIsi, isTy, iSeq, iRange1, iRange2, iEnum, iZip, iRangeDn, A.seqd, vals, oAddU, oSub, oAdd, oLt, oLtU, lexLtI, intsD, oLe, oGt, oGe, oEqU, oEqG_int, oEqG_bl, oEqG_str, oEqG_nn, oEqG_ni, oEqG_in, oEqG_nil, oEqG_nil2, oNeG_int, oNeG_bl, oNeG_str, oNeG_nn, oNeG_ni, oNeG_in, oNeG_nil0, oNeS, eqU, eqS, oIsN, oNotN, oIsB, oNeg, bAbs, bMax2, bMin2, bInt, bSum, bSumU, bMaxU, bMinU, seqD, bLen, oMod, oDiv, oMulU, oMul, ix0, ix1, ix2, ix3, ix4, ix5, ix6, ix7, ix8, ix9, ix10, ix11, ix12, ix13, ix14, ix15, ix16, ix17, ix18, ix19, ixLast, bind_ok, bind_err, bind_bad, st_ok, st_err, st_bad, of_some, of_none, seq_nx, seq_rt, seq_bk, seq_ct, seq_err, seq_bad, gd_true, gd_false, dec_true, dec_false, dec_iff, Option.bind_some, Option.bind_none, Option.map_some, Option.map_none, List.getElem?_cons_zero, List.getElem?_cons_succ, List.set_cons_zero, List.set_cons_succ, List.map_cons, List.map_nil, List.map_map, List.length_map, List.length_cons, List.length_nil, List.getElem?_map, Function.comp_def, List.append_nil, List.nil_append, List.cons_append, List.all_cons, List.all_nil, Bool.and_true, Bool.and_self, Bool.true_and, decide_true, decide_false, Bool.false_eq_true, if_true, if_false, ite_true, ite_false, Bool.not_true, Bool.not_false, ne_eq, not_true_eq_false, not_false_eq_true, frzL_vals, vals_map, intsD_map, forT_nil, forT_cons, lp_nx, lp_ct, lp_bk, lp_rt, lp_err, frzL_mapv, vals_mapv, intsD_mapv, List.isEmpty_nil, List.isEmpty_cons, List.replicate, List.take_length, List.take_zero, and_true, true_and, and_self, Nat.reduceAdd, Nat.reduceSub, Int.ofNat_eq_natCast, h]
  · have hk' := hk.resolve_left h
    simp only [d__law_kept, b__law_kept, fnV, seq_eq, sIf, sSet, sRet, sRetN, sAsg, sExpr, sNil, sPar, sAug, sBreak, sCont, sPass, tCmp, tOf, Dn.tAnd, Dn.tOr, Dn.tNot, tYes, fVar, fC, fOp, fUn, fB, fArgs, viewL, fTup, frzL, A.frz, fFrz_disp, fLive, lDisp_eq, fIx, A.elems, A.int?, A.view, A.bl?, fLen, fTuple, fCall, lCall, fIf, truth, tgName, tgTup, tgSeq, retA, A.below, fAnd, fOr, fNot, fIsi, isTy, iSeq, iRange1, iRange2, iEnum, iZip, iRangeDn, A.seqd, vals, oAddU, oSub, oAdd, oLt, oLtU, lexLtI, intsD, oLe, oGt, oGe, oEqU, oEqG_int, oEqG_bl, oEqG_str, oEqG_nn, oEqG_ni, oEqG_in, oEqG_nil, oEqG_nil2, oNeG_int, oNeG_bl, oNeG_str, oNeG_nn, oNeG_ni, oNeG_in, oNeG_nil0, oNeS, eqU, eqS, oIsN, oNotN, oIsB, oNeg, bAbs, bMax2, bMin2, bInt, bSum, bSumU, bMaxU, bMinU, seqD, bLen, oMod, oDiv, oMulU, oMul, ix0, ix1, ix2, ix3, ix4, ix5, ix6, ix7, ix8, ix9, ix10, ix11, ix12, ix13, ix14, ix15, ix16, ix17, ix18, ix19, ixLast, bind_ok, bind_err, bind_bad, st_ok, st_err, st_bad, of_some, of_none, seq_nx, seq_rt, seq_bk, seq_ct, seq_err, seq_bad, gd_true, gd_false, dec_true, dec_false, dec_iff, Option.bind_some, Option.bind_none, Option.map_some, Option.map_none, List.getElem?_cons_zero, List.getElem?_cons_succ, List.set_cons_zero, List.set_cons_succ, List.map_cons, List.map_nil, List.map_map, List.length_map, List.length_cons, List.length_nil, List.getElem?_map, Function.comp_def, List.append_nil, List.nil_append, List.cons_append, List.all_cons, List.all_nil, Bool.and_true, Bool.and_self, Bool.true_and, decide_true, decide_false, Bool.false_eq_true, if_true, if_false, ite_true, ite_false, Bool.not_true, Bool.not_false, ne_eq, not_true_eq_false, not_false_eq_true, frzL_vals, vals_map, intsD_map, forT_nil, forT_cons, lp_nx, lp_ct, lp_bk, lp_rt, lp_err, frzL_mapv, vals_mapv, intsD_mapv, List.isEmpty_nil, List.isEmpty_cons, List.replicate, List.take_length, List.take_zero, and_true, true_and, and_self, Nat.reduceAdd, Nat.reduceSub, Int.ofNat_eq_natCast, h, hk']
theorem gained_spec (u k : Int) (hk : k = 0 ∨ (0 < k ∧ k < 100)) (st : Store) : d__law_gained [.v (.int u), .v (.int k)] st = .ok (.v (.bl true)) st := by
  have hd : k = 0 ∨ divOk k := hk.imp id fun h => divOk_of (by omega) (by omega)
  have gs := fun st => gain_spec u k hd st
  by_cases h : k = 0
  · subst h
    have e : gV u 0 = u := by unfold gV; rw [if_pos rfl]
    rw [e] at gs
    have e2 : u - u = 0 := by omega
    simp only [d__law_gained, b__law_gained, fnV, seq_eq, sIf, sSet, sRet, sRetN, sAsg, sExpr, sNil, sPar, sAug, sBreak, sCont, sPass, tCmp, tOf, Dn.tAnd, Dn.tOr, Dn.tNot, tYes, fVar, fC, fOp, fUn, fB, fArgs, viewL, fTup, frzL, A.frz, fFrz_disp, fLive, lDisp_eq, fIx, A.elems, A.int?, A.view, A.bl?, fLen, fTuple, fCall, lCall, fIf, truth, tgName, tgTup, tgSeq, retA, A.below, fAnd, fOr, fNot, fIsi, isTy, iSeq, iRange1, iRange2, iEnum, iZip, iRangeDn, A.seqd, vals, oAddU, oSub, oAdd, oLt, oLtU, lexLtI, intsD, oLe, oGt, oGe, oEqU, oEqG_int, oEqG_bl, oEqG_str, oEqG_nn, oEqG_ni, oEqG_in, oEqG_nil, oEqG_nil2, oNeG_int, oNeG_bl, oNeG_str, oNeG_nn, oNeG_ni, oNeG_in, oNeG_nil0, oNeS, eqU, eqS, oIsN, oNotN, oIsB, oNeg, bAbs, bMax2, bMin2, bInt, bSum, bSumU, bMaxU, bMinU, seqD, bLen, oMod, oDiv, oMulU, oMul, ix0, ix1, ix2, ix3, ix4, ix5, ix6, ix7, ix8, ix9, ix10, ix11, ix12, ix13, ix14, ix15, ix16, ix17, ix18, ix19, ixLast, bind_ok, bind_err, bind_bad, st_ok, st_err, st_bad, of_some, of_none, seq_nx, seq_rt, seq_bk, seq_ct, seq_err, seq_bad, gd_true, gd_false, dec_true, dec_false, dec_iff, Option.bind_some, Option.bind_none, Option.map_some, Option.map_none, List.getElem?_cons_zero, List.getElem?_cons_succ, List.set_cons_zero, List.set_cons_succ, List.map_cons, List.map_nil, List.map_map, List.length_map, List.length_cons, List.length_nil, List.getElem?_map, Function.comp_def, List.append_nil, List.nil_append, List.cons_append, List.all_cons, List.all_nil, Bool.and_true, Bool.and_self, Bool.true_and, decide_true, decide_false, Bool.false_eq_true, if_true, if_false, ite_true, ite_false, Bool.not_true, Bool.not_false, ne_eq, not_true_eq_false, not_false_eq_true, frzL_vals, vals_map, intsD_map, forT_nil, forT_cons, lp_nx, lp_ct, lp_bk, lp_rt, lp_err, frzL_mapv, vals_mapv, intsD_mapv, List.isEmpty_nil, List.isEmpty_cons, List.replicate, List.take_length, List.take_zero, and_true, true_and, and_self, Nat.reduceAdd, Nat.reduceSub, Int.ofNat_eq_natCast, gs, e2]
  · have h' := hk.resolve_left h
    have e : u - gV u k = u.fdiv k := by unfold gV; rw [if_neg h]; omega
    have m1 : ∀ x, mulOk x k := fun x => .inl (.inr (by omega))
    have f1 := Int.fmod_def u k
    have f2 := Int.fmod_nonneg_of_pos u h'.1
    have f3 := Int.fmod_lt_of_pos u h'.1
    have c := Int.mul_comm k (u.fdiv k)
    have a := Int.add_mul (u.fdiv k) 1 k
    have b1 : u.fdiv k * k ≤ u := by omega
    have b2 : u < (u.fdiv k + 1) * k := by omega
    simp only [d__law_gained, b__law_gained, fnV, seq_eq, sIf, sSet, sRet, sRetN, sAsg, sExpr, sNil, sPar, sAug, sBreak, sCont, sPass, tCmp, tOf, Dn.tAnd, Dn.tOr, Dn.tNot, tYes, fVar, fC, fOp, fUn, fB, fArgs, viewL, fTup, frzL, A.frz, fFrz_disp, fLive, lDisp_eq, fIx, A.elems, A.int?, A.view, A.bl?, fLen, fTuple, fCall, lCall, fIf, truth, tgName, tgTup, tgSeq, retA, A.below, fAnd, fOr, fNot, fIsi, isTy, iSeq, iRange1, iRange2, iEnum, iZip, iRangeDn, A.seqd, vals, oAddU, oSub, oAdd, oLt, oLtU, lexLtI, intsD, oLe, oGt, oGe, oEqU, oEqG_int, oEqG_bl, oEqG_str, oEqG_nn, oEqG_ni, oEqG_in, oEqG_nil, oEqG_nil2, oNeG_int, oNeG_bl, oNeG_str, oNeG_nn, oNeG_ni, oNeG_in, oNeG_nil0, oNeS, eqU, eqS, oIsN, oNotN, oIsB, oNeg, bAbs, bMax2, bMin2, bInt, bSum, bSumU, bMaxU, bMinU, seqD, bLen, oMod, oDiv, oMulU, oMul, ix0, ix1, ix2, ix3, ix4, ix5, ix6, ix7, ix8, ix9, ix10, ix11, ix12, ix13, ix14, ix15, ix16, ix17, ix18, ix19, ixLast, bind_ok, bind_err, bind_bad, st_ok, st_err, st_bad, of_some, of_none, seq_nx, seq_rt, seq_bk, seq_ct, seq_err, seq_bad, gd_true, gd_false, dec_true, dec_false, dec_iff, Option.bind_some, Option.bind_none, Option.map_some, Option.map_none, List.getElem?_cons_zero, List.getElem?_cons_succ, List.set_cons_zero, List.set_cons_succ, List.map_cons, List.map_nil, List.map_map, List.length_map, List.length_cons, List.length_nil, List.getElem?_map, Function.comp_def, List.append_nil, List.nil_append, List.cons_append, List.all_cons, List.all_nil, Bool.and_true, Bool.and_self, Bool.true_and, decide_true, decide_false, Bool.false_eq_true, if_true, if_false, ite_true, ite_false, Bool.not_true, Bool.not_false, ne_eq, not_true_eq_false, not_false_eq_true, frzL_vals, vals_map, intsD_map, forT_nil, forT_cons, lp_nx, lp_ct, lp_bk, lp_rt, lp_err, frzL_mapv, vals_mapv, intsD_mapv, List.isEmpty_nil, List.isEmpty_cons, List.replicate, List.take_length, List.take_zero, and_true, true_and, and_self, Nat.reduceAdd, Nat.reduceSub, Int.ofNat_eq_natCast, gs, h, e, m1, b1, b2]
theorem intake_loop (cap lo ch best : Int) (t1 : Option A) (hlo : lo = 0 ∨ divOk lo) (hb : ch + gV best lo ≤ cap) (st : Store) :
    ∀ (n : Nat) (u : Int), u - best = n → (∀ v, best < v → v ≤ u → cap < ch + gV v lo) →
      whileN t1_intake l2_intake (n + 1) [some (.v (.int cap)), t1, some (.v (.int lo)), some (.v (.int ch)), some (.v (.int u))] st = .nx [some (.v (.int cap)), t1, some (.v (.int lo)), some (.v (.int ch)), some (.v (.int best))] st
  | 0, u, hu, hv => by
    have e : u = best := by omega
    subst e
    have gs := gain_spec u lo hlo st
    have hb' : ¬ (cap < ch + gV u lo) := by omega
    exact while_stop (by simp only [t1_intake, fnV, seq_eq, sIf, sSet, sRet, sRetN, sAsg, sExpr, sNil, sPar, sAug, sBreak, sCont, sPass, tCmp, tOf, Dn.tAnd, Dn.tOr, Dn.tNot, tYes, fVar, fC, fOp, fUn, fB, fArgs, viewL, fTup, frzL, A.frz, fFrz_disp, fLive, lDisp_eq, fIx, A.elems, A.int?, A.view, A.bl?, fLen, fTuple, fCall, lCall, fIf, truth, tgName, tgTup, tgSeq, retA, A.below, fAnd, fOr, fNot, fIsi, isTy, iSeq, iRange1, iRange2, iEnum, iZip, iRangeDn, A.seqd, vals, oAddU, oSub, oAdd, oLt, oLtU, lexLtI, intsD, oLe, oGt, oGe, oEqU, oEqG_int, oEqG_bl, oEqG_str, oEqG_nn, oEqG_ni, oEqG_in, oEqG_nil, oEqG_nil2, oNeG_int, oNeG_bl, oNeG_str, oNeG_nn, oNeG_ni, oNeG_in, oNeG_nil0, oNeS, eqU, eqS, oIsN, oNotN, oIsB, oNeg, bAbs, bMax2, bMin2, bInt, bSum, bSumU, bMaxU, bMinU, seqD, bLen, oMod, oDiv, oMulU, oMul, ix0, ix1, ix2, ix3, ix4, ix5, ix6, ix7, ix8, ix9, ix10, ix11, ix12, ix13, ix14, ix15, ix16, ix17, ix18, ix19, ixLast, bind_ok, bind_err, bind_bad, st_ok, st_err, st_bad, of_some, of_none, seq_nx, seq_rt, seq_bk, seq_ct, seq_err, seq_bad, gd_true, gd_false, dec_true, dec_false, dec_iff, Option.bind_some, Option.bind_none, Option.map_some, Option.map_none, List.getElem?_cons_zero, List.getElem?_cons_succ, List.set_cons_zero, List.set_cons_succ, List.map_cons, List.map_nil, List.map_map, List.length_map, List.length_cons, List.length_nil, List.getElem?_map, Function.comp_def, List.append_nil, List.nil_append, List.cons_append, List.all_cons, List.all_nil, Bool.and_true, Bool.and_self, Bool.true_and, decide_true, decide_false, Bool.false_eq_true, if_true, if_false, ite_true, ite_false, Bool.not_true, Bool.not_false, ne_eq, not_true_eq_false, not_false_eq_true, frzL_vals, vals_map, intsD_map, forT_nil, forT_cons, lp_nx, lp_ct, lp_bk, lp_rt, lp_err, frzL_mapv, vals_mapv, intsD_mapv, List.isEmpty_nil, List.isEmpty_cons, List.replicate, List.take_length, List.take_zero, and_true, true_and, and_self, Nat.reduceAdd, Nat.reduceSub, Int.ofNat_eq_natCast, gs, hb'])
  | n + 1, u, hu, hv => by
    have gs := gain_spec u lo hlo st
    have hb' : cap < ch + gV u lo := hv u (by omega) (Int.le_refl _)
    rw [while_step (σ2 := [some (.v (.int cap)), t1, some (.v (.int lo)), some (.v (.int ch)), some (.v (.int (u - 1)))]) (st1 := st) (st2 := st) (by simp only [t1_intake, fnV, seq_eq, sIf, sSet, sRet, sRetN, sAsg, sExpr, sNil, sPar, sAug, sBreak, sCont, sPass, tCmp, tOf, Dn.tAnd, Dn.tOr, Dn.tNot, tYes, fVar, fC, fOp, fUn, fB, fArgs, viewL, fTup, frzL, A.frz, fFrz_disp, fLive, lDisp_eq, fIx, A.elems, A.int?, A.view, A.bl?, fLen, fTuple, fCall, lCall, fIf, truth, tgName, tgTup, tgSeq, retA, A.below, fAnd, fOr, fNot, fIsi, isTy, iSeq, iRange1, iRange2, iEnum, iZip, iRangeDn, A.seqd, vals, oAddU, oSub, oAdd, oLt, oLtU, lexLtI, intsD, oLe, oGt, oGe, oEqU, oEqG_int, oEqG_bl, oEqG_str, oEqG_nn, oEqG_ni, oEqG_in, oEqG_nil, oEqG_nil2, oNeG_int, oNeG_bl, oNeG_str, oNeG_nn, oNeG_ni, oNeG_in, oNeG_nil0, oNeS, eqU, eqS, oIsN, oNotN, oIsB, oNeg, bAbs, bMax2, bMin2, bInt, bSum, bSumU, bMaxU, bMinU, seqD, bLen, oMod, oDiv, oMulU, oMul, ix0, ix1, ix2, ix3, ix4, ix5, ix6, ix7, ix8, ix9, ix10, ix11, ix12, ix13, ix14, ix15, ix16, ix17, ix18, ix19, ixLast, bind_ok, bind_err, bind_bad, st_ok, st_err, st_bad, of_some, of_none, seq_nx, seq_rt, seq_bk, seq_ct, seq_err, seq_bad, gd_true, gd_false, dec_true, dec_false, dec_iff, Option.bind_some, Option.bind_none, Option.map_some, Option.map_none, List.getElem?_cons_zero, List.getElem?_cons_succ, List.set_cons_zero, List.set_cons_succ, List.map_cons, List.map_nil, List.map_map, List.length_map, List.length_cons, List.length_nil, List.getElem?_map, Function.comp_def, List.append_nil, List.nil_append, List.cons_append, List.all_cons, List.all_nil, Bool.and_true, Bool.and_self, Bool.true_and, decide_true, decide_false, Bool.false_eq_true, if_true, if_false, ite_true, ite_false, Bool.not_true, Bool.not_false, ne_eq, not_true_eq_false, not_false_eq_true, frzL_vals, vals_map, intsD_map, forT_nil, forT_cons, lp_nx, lp_ct, lp_bk, lp_rt, lp_err, frzL_mapv, vals_mapv, intsD_mapv, List.isEmpty_nil, List.isEmpty_cons, List.replicate, List.take_length, List.take_zero, and_true, true_and, and_self, Nat.reduceAdd, Nat.reduceSub, Int.ofNat_eq_natCast, gs, hb']) (by simp only [l2_intake, fnV, seq_eq, sIf, sSet, sRet, sRetN, sAsg, sExpr, sNil, sPar, sAug, sBreak, sCont, sPass, tCmp, tOf, Dn.tAnd, Dn.tOr, Dn.tNot, tYes, fVar, fC, fOp, fUn, fB, fArgs, viewL, fTup, frzL, A.frz, fFrz_disp, fLive, lDisp_eq, fIx, A.elems, A.int?, A.view, A.bl?, fLen, fTuple, fCall, lCall, fIf, truth, tgName, tgTup, tgSeq, retA, A.below, fAnd, fOr, fNot, fIsi, isTy, iSeq, iRange1, iRange2, iEnum, iZip, iRangeDn, A.seqd, vals, oAddU, oSub, oAdd, oLt, oLtU, lexLtI, intsD, oLe, oGt, oGe, oEqU, oEqG_int, oEqG_bl, oEqG_str, oEqG_nn, oEqG_ni, oEqG_in, oEqG_nil, oEqG_nil2, oNeG_int, oNeG_bl, oNeG_str, oNeG_nn, oNeG_ni, oNeG_in, oNeG_nil0, oNeS, eqU, eqS, oIsN, oNotN, oIsB, oNeg, bAbs, bMax2, bMin2, bInt, bSum, bSumU, bMaxU, bMinU, seqD, bLen, oMod, oDiv, oMulU, oMul, ix0, ix1, ix2, ix3, ix4, ix5, ix6, ix7, ix8, ix9, ix10, ix11, ix12, ix13, ix14, ix15, ix16, ix17, ix18, ix19, ixLast, bind_ok, bind_err, bind_bad, st_ok, st_err, st_bad, of_some, of_none, seq_nx, seq_rt, seq_bk, seq_ct, seq_err, seq_bad, gd_true, gd_false, dec_true, dec_false, dec_iff, Option.bind_some, Option.bind_none, Option.map_some, Option.map_none, List.getElem?_cons_zero, List.getElem?_cons_succ, List.set_cons_zero, List.set_cons_succ, List.map_cons, List.map_nil, List.map_map, List.length_map, List.length_cons, List.length_nil, List.getElem?_map, Function.comp_def, List.append_nil, List.nil_append, List.cons_append, List.all_cons, List.all_nil, Bool.and_true, Bool.and_self, Bool.true_and, decide_true, decide_false, Bool.false_eq_true, if_true, if_false, ite_true, ite_false, Bool.not_true, Bool.not_false, ne_eq, not_true_eq_false, not_false_eq_true, frzL_vals, vals_map, intsD_map, forT_nil, forT_cons, lp_nx, lp_ct, lp_bk, lp_rt, lp_err, frzL_mapv, vals_mapv, intsD_mapv, List.isEmpty_nil, List.isEmpty_cons, List.replicate, List.take_length, List.take_zero, and_true, true_and, and_self, Nat.reduceAdd, Nat.reduceSub, Int.ofNat_eq_natCast])]
    exact intake_loop cap lo ch best t1 hlo hb st n (u - 1) (by omega) fun v h1 h2 => hv v h1 (by omega)
theorem intake_spec (cap po lo ch best : Int) (hlo : lo = 0 ∨ divOk lo) (hb : ch + gV best lo ≤ cap) (hle : best ≤ po) (hv : ∀ v, best < v → v ≤ po → cap < ch + gV v lo) (st : Store) :
    d_intake [.v (.int cap), .v (.int po), .v (.int lo), .v (.int ch)] st = .ok (.v (.int best)) st := by
  obtain ⟨n, hn⟩ := Int.eq_ofNat_of_zero_le (show 0 ≤ po - best by omega)
  have w := while_of (intake_loop cap lo ch best (some (.v (.int po))) hlo hb st n po hn hv) (by intro h; cases h)
  have tk : st.take st.length = st := List.take_length
  simp only [d_intake, b_intake, fnV, seq_eq, sIf, sSet, sRet, sRetN, sAsg, sExpr, sNil, sPar, sAug, sBreak, sCont, sPass, tCmp, tOf, Dn.tAnd, Dn.tOr, Dn.tNot, tYes, fVar, fC, fOp, fUn, fB, fArgs, viewL, fTup, frzL, A.frz, fFrz_disp, fLive, lDisp_eq, fIx, A.elems, A.int?, A.view, A.bl?, fLen, fTuple, fCall, lCall, fIf, truth, tgName, tgTup, tgSeq, retA, A.below, fAnd, fOr, fNot, fIsi, isTy, iSeq, iRange1, iRange2, iEnum, iZip, iRangeDn, A.seqd, vals, ix0, ix1, ix2, ix3, ix4, ix5, ix6, ix7, ix8, ix9, ix10, ix11, ix12, ix13, ix14, ix15, ix16, ix17, ix18, ix19, ixLast, bind_ok, bind_err, bind_bad, st_ok, st_err, st_bad, of_some, of_none, seq_nx, seq_rt, seq_bk, seq_ct, seq_err, seq_bad, gd_true, gd_false, dec_true, dec_false, dec_iff, Option.bind_some, Option.bind_none, Option.map_some, Option.map_none, List.getElem?_cons_zero, List.getElem?_cons_succ, List.set_cons_zero, List.set_cons_succ, List.map_cons, List.map_nil, List.map_map, List.length_map, List.length_cons, List.length_nil, List.getElem?_map, Function.comp_def, List.append_nil, List.nil_append, List.cons_append, List.all_cons, List.all_nil, Bool.and_true, Bool.and_self, Bool.true_and, decide_true, decide_false, Bool.false_eq_true, if_true, if_false, ite_true, ite_false, Bool.not_true, Bool.not_false, ne_eq, not_true_eq_false, not_false_eq_true, frzL_vals, vals_map, intsD_map, forT_nil, forT_cons, lp_nx, lp_ct, lp_bk, lp_rt, lp_err, frzL_mapv, vals_mapv, intsD_mapv, List.isEmpty_nil, List.isEmpty_cons, List.replicate, List.take_length, List.take_zero, and_true, true_and, and_self, Nat.reduceAdd, Nat.reduceSub, Int.ofNat_eq_natCast, w]
/-! ### the law -/
theorem sum_le {B : Int} (hB : 0 ≤ B) : ∀ ws : List Int, (∀ x ∈ ws, 0 ≤ x ∧ x ≤ B) → 0 ≤ ws.sum ∧ ws.sum ≤ ws.length * B
  | [], _ => by simp
  | x :: r, h => by
    have ih := sum_le hB r fun y hy => h y (List.mem_cons_of_mem _ hy)
    have hx := h x List.mem_cons_self
    rw [List.sum_cons, List.length_cons]
    have e : ((r.length + 1 : Nat) : Int) * B = r.length * B + B := by
      rw [show ((r.length + 1 : Nat) : Int) = (r.length : Int) + 1 by omega, Int.add_mul, Int.one_mul]
    omega
theorem law_if (p : Pool) (b : Bool) (r0 s0 : Int) (hr : 0 ≤ r0 ∧ r0 ≤ 1000) (hs : 0 ≤ s0 ∧ s0 ≤ 1000) (t0 t3 t4 t5 t6 t7 t8 t9 t10 t11 t12 t13 t16 t17 t18 t19 : Option A) :
    ∃ r s p', 0 ≤ r ∧ r ≤ 1000 ∧ 0 ≤ s ∧ s ≤ 1000 ∧ sIf (tOf (fVar 2))
  (sSeq (sSet 14 (fCall d__law_draw [(fVar 1), (fC (.int 1000))]))
  (sSet 15 (fCall d__law_draw [(fVar 1), (fC (.int 1000))])))
  sNil [t0, some (.ref 0), some (.v (.bl b)), t3, t4, t5, t6, t7, t8, t9, t10, t11, t12, t13, some (.v (.int r0)), some (.v (.int s0)), t16, t17, t18, t19] [pl p] =
    .nx [t0, some (.ref 0), some (.v (.bl b)), t3, t4, t5, t6, t7, t8, t9, t10, t11, t12, t13, some (.v (.int r)), some (.v (.int s)), t16, t17, t18, t19] [pl p'] := by
  cases b with
  | false =>
    refine ⟨r0, s0, p, hr.1, hr.2, hs.1, hs.2, ?_⟩
    simp only [fnV, seq_eq, sIf, sSet, sRet, sRetN, sAsg, sExpr, sNil, sPar, sAug, sBreak, sCont, sPass, tCmp, tOf, Dn.tAnd, Dn.tOr, Dn.tNot, tYes, fVar, fC, fOp, fUn, fB, fArgs, viewL, fTup, frzL, A.frz, fFrz_disp, fLive, lDisp_eq, fIx, A.elems, A.int?, A.view, A.bl?, fLen, fTuple, fCall, lCall, fIf, truth, tgName, tgTup, tgSeq, retA, A.below, fAnd, fOr, fNot, fIsi, isTy, iSeq, iRange1, iRange2, iEnum, iZip, iRangeDn, A.seqd, vals, ix0, ix1, ix2, ix3, ix4, ix5, ix6, ix7, ix8, ix9, ix10, ix11, ix12, ix13, ix14, ix15, ix16, ix17, ix18, ix19, ixLast, bind_ok, bind_err, bind_bad, st_ok, st_err, st_bad, of_some, of_none, seq_nx, seq_rt, seq_bk, seq_ct, seq_err, seq_bad, gd_true, gd_false, dec_true, dec_false, dec_iff, Option.bind_some, Option.bind_none, Option.map_some, Option.map_none, List.getElem?_cons_zero, List.getElem?_cons_succ, List.set_cons_zero, List.set_cons_succ, List.map_cons, List.map_nil, List.map_map, List.length_map, List.length_cons, List.length_nil, List.getElem?_map, Function.comp_def, List.append_nil, List.nil_append, List.cons_append, List.all_cons, List.all_nil, Bool.and_true, Bool.and_self, Bool.true_and, decide_true, decide_false, Bool.false_eq_true, if_true, if_false, ite_true, ite_false, Bool.not_true, Bool.not_false, ne_eq, not_true_eq_false, not_false_eq_true, frzL_vals, vals_map, intsD_map, forT_nil, forT_cons, lp_nx, lp_ct, lp_bk, lp_rt, lp_err, frzL_mapv, vals_mapv, intsD_mapv, List.isEmpty_nil, List.isEmpty_cons, List.replicate, List.take_length, List.take_zero, and_true, true_and, and_self, Nat.reduceAdd, Nat.reduceSub, Int.ofNat_eq_natCast]
  | true =>
    have d1 := draw_spec p 1000 (by decide) (by decide) []
    have d2 := draw_spec (drawP p 1000) 1000 (by decide) (by decide) []
    have a1 := draw_lo p (m := 1000) (by decide)
    have a2 := draw_hi p (m := 1000) (by decide)
    have a3 := draw_lo (drawP p 1000) (m := 1000) (by decide)
    have a4 := draw_hi (drawP p 1000) (m := 1000) (by decide)
    refine ⟨drawV p 1000, drawV (drawP p 1000) 1000, drawP (drawP p 1000) 1000, a1, by omega, a3, by omega, ?_⟩
    simp only [fnV, seq_eq, sIf, sSet, sRet, sRetN, sAsg, sExpr, sNil, sPar, sAug, sBreak, sCont, sPass, tCmp, tOf, Dn.tAnd, Dn.tOr, Dn.tNot, tYes, fVar, fC, fOp, fUn, fB, fArgs, viewL, fTup, frzL, A.frz, fFrz_disp, fLive, lDisp_eq, fIx, A.elems, A.int?, A.view, A.bl?, fLen, fTuple, fCall, lCall, fIf, truth, tgName, tgTup, tgSeq, retA, A.below, fAnd, fOr, fNot, fIsi, isTy, iSeq, iRange1, iRange2, iEnum, iZip, iRangeDn, A.seqd, vals, ix0, ix1, ix2, ix3, ix4, ix5, ix6, ix7, ix8, ix9, ix10, ix11, ix12, ix13, ix14, ix15, ix16, ix17, ix18, ix19, ixLast, bind_ok, bind_err, bind_bad, st_ok, st_err, st_bad, of_some, of_none, seq_nx, seq_rt, seq_bk, seq_ct, seq_err, seq_bad, gd_true, gd_false, dec_true, dec_false, dec_iff, Option.bind_some, Option.bind_none, Option.map_some, Option.map_none, List.getElem?_cons_zero, List.getElem?_cons_succ, List.set_cons_zero, List.set_cons_succ, List.map_cons, List.map_nil, List.map_map, List.length_map, List.length_cons, List.length_nil, List.getElem?_map, Function.comp_def, List.append_nil, List.nil_append, List.cons_append, List.all_cons, List.all_nil, Bool.and_true, Bool.and_self, Bool.true_and, decide_true, decide_false, Bool.false_eq_true, if_true, if_false, ite_true, ite_false, Bool.not_true, Bool.not_false, ne_eq, not_true_eq_false, not_false_eq_true, frzL_vals, vals_map, intsD_map, forT_nil, forT_cons, lp_nx, lp_ct, lp_bk, lp_rt, lp_err, frzL_mapv, vals_mapv, intsD_mapv, List.isEmpty_nil, List.isEmpty_cons, List.replicate, List.take_length, List.take_zero, and_true, true_and, and_self, Nat.reduceAdd, Nat.reduceSub, Int.ofNat_eq_natCast, d1, d2]
theorem wants_comp (p : Pool) (b : Bool) (n : Nat) (hn : n ≤ 13) (t0 : Option A) (t4 t5 t6 t7 t8 t9 t10 t11 t12 t13 t14 t15 t16 t17 t18 t19 : Option A) :
    ∃ (ws : List Int) (p' : Pool), fFrz (lComp (iRange1 (fVar 3)) (tgName 5) tYes e1_law [5]) [t0, some (.ref 0), some (.v (.bl b)), some (.v (.int (n : Nat))), t4, t5, t6, t7, t8, t9, t10, t11, t12, t13, t14, t15, t16, t17, t18, t19] [pl p] = .ok (.v (.lst (ws.map D.int))) [pl p'] ∧ ws.length = n ∧ ∀ x ∈ ws, 0 ≤ x ∧ x ≤ 1000000000 := by
  have okn : okR (n : Int) := ⟨by omega, by omega⟩
  exact ints_comp (fun x => 0 ≤ x ∧ x ≤ 1000000000) n 5 p [] (g := fun _ => True) (fun q => by simp only [fnV, seq_eq, sIf, sSet, sRet, sRetN, sAsg, sExpr, sNil, sPar, sAug, sBreak, sCont, sPass, tCmp, tOf, Dn.tAnd, Dn.tOr, Dn.tNot, tYes, fVar, fC, fOp, fUn, fB, fArgs, viewL, fTup, frzL, A.frz, fFrz_disp, fLive, lDisp_eq, fIx, A.elems, A.int?, A.view, A.bl?, fLen, fTuple, fCall, lCall, fIf, truth, tgName, tgTup, tgSeq, retA, A.below, fAnd, fOr, fNot, fIsi, isTy, iSeq, iRange1, iRange2, iEnum, iZip, iRangeDn, A.seqd, vals, ix0, ix1, ix2, ix3, ix4, ix5, ix6, ix7, ix8, ix9, ix10, ix11, ix12, ix13, ix14, ix15, ix16, ix17, ix18, ix19, ixLast, bind_ok, bind_err, bind_bad, st_ok, st_err, st_bad, of_some, of_none, seq_nx, seq_rt, seq_bk, seq_ct, seq_err, seq_bad, gd_true, gd_false, dec_true, dec_false, dec_iff, Option.bind_some, Option.bind_none, Option.map_some, Option.map_none, List.getElem?_cons_zero, List.getElem?_cons_succ, List.set_cons_zero, List.set_cons_succ, List.map_cons, List.map_nil, List.map_map, List.length_map, List.length_cons, List.length_nil, List.getElem?_map, Function.comp_def, List.append_nil, List.nil_append, List.cons_append, List.all_cons, List.all_nil, Bool.and_true, Bool.and_self, Bool.true_and, decide_true, decide_false, Bool.false_eq_true, if_true, if_false, ite_true, ite_false, Bool.not_true, Bool.not_false, ne_eq, not_true_eq_false, not_false_eq_true, frzL_vals, vals_map, intsD_map, forT_nil, forT_cons, lp_nx, lp_ct, lp_bk, lp_rt, lp_err, frzL_mapv, vals_mapv, intsD_mapv, List.isEmpty_nil, List.isEmpty_cons, List.replicate, List.take_length, List.take_zero, and_true, true_and, and_self, Nat.reduceAdd, Nat.reduceSub, Int.ofNat_eq_natCast, okn, rangeA_eq, Int.toNat_natCast]) (fun _ => trivial) (fun j q hj => by
    obtain ⟨v, q', h1, h2⟩ := units_spec q b []
    refine ⟨v, q', ?_, h2⟩
    simp only [e1_law, wipeE, fnV, seq_eq, sIf, sSet, sRet, sRetN, sAsg, sExpr, sNil, sPar, sAug, sBreak, sCont, sPass, tCmp, tOf, Dn.tAnd, Dn.tOr, Dn.tNot, tYes, fVar, fC, fOp, fUn, fB, fArgs, viewL, fTup, frzL, A.frz, fFrz_disp, fLive, lDisp_eq, fIx, A.elems, A.int?, A.view, A.bl?, fLen, fTuple, fCall, lCall, fIf, truth, tgName, tgTup, tgSeq, retA, A.below, fAnd, fOr, fNot, fIsi, isTy, iSeq, iRange1, iRange2, iEnum, iZip, iRangeDn, A.seqd, vals, ix0, ix1, ix2, ix3, ix4, ix5, ix6, ix7, ix8, ix9, ix10, ix11, ix12, ix13, ix14, ix15, ix16, ix17, ix18, ix19, ixLast, bind_ok, bind_err, bind_bad, st_ok, st_err, st_bad, of_some, of_none, seq_nx, seq_rt, seq_bk, seq_ct, seq_err, seq_bad, gd_true, gd_false, dec_true, dec_false, dec_iff, Option.bind_some, Option.bind_none, Option.map_some, Option.map_none, List.getElem?_cons_zero, List.getElem?_cons_succ, List.set_cons_zero, List.set_cons_succ, List.map_cons, List.map_nil, List.map_map, List.length_map, List.length_cons, List.length_nil, List.getElem?_map, Function.comp_def, List.append_nil, List.nil_append, List.cons_append, List.all_cons, List.all_nil, Bool.and_true, Bool.and_self, Bool.true_and, decide_true, decide_false, Bool.false_eq_true, if_true, if_false, ite_true, ite_false, Bool.not_true, Bool.not_false, ne_eq, not_true_eq_false, not_false_eq_true, frzL_vals, vals_map, intsD_map, forT_nil, forT_cons, lp_nx, lp_ct, lp_bk, lp_rt, lp_err, frzL_mapv, vals_mapv, intsD_mapv, List.isEmpty_nil, List.isEmpty_cons, List.replicate, List.take_length, List.take_zero, and_true, true_and, and_self, Nat.reduceAdd, Nat.reduceSub, Int.ofNat_eq_natCast, h1]) (by simp only [sizeMax]; omega)
theorem degs_comp (p : Pool) (n : Nat) (hn : n ≤ 13) (t0 t2 : Option A) (t4 t5 t6 t7 t8 t9 t10 t11 t12 t13 t14 t15 t16 t17 t18 t19 : Option A) :
    ∃ (ws : List Int) (p' : Pool), fFrz (lComp (iRange1 (fVar 3)) (tgName 5) tYes e2_law [5]) [t0, some (.ref 0), t2, some (.v (.int (n : Nat))), t4, t5, t6, t7, t8, t9, t10, t11, t12, t13, t14, t15, t16, t17, t18, t19] [pl p] = .ok (.v (.lst (ws.map D.int))) [pl p'] ∧ ws.length = n ∧ ∀ x ∈ ws, True := by
  have okn : okR (n : Int) := ⟨by omega, by omega⟩
  exact ints_comp (fun x => True) n 5 p [] (g := fun _ => True) (fun q => by simp only [fnV, seq_eq, sIf, sSet, sRet, sRetN, sAsg, sExpr, sNil, sPar, sAug, sBreak, sCont, sPass, tCmp, tOf, Dn.tAnd, Dn.tOr, Dn.tNot, tYes, fVar, fC, fOp, fUn, fB, fArgs, viewL, fTup, frzL, A.frz, fFrz_disp, fLive, lDisp_eq, fIx, A.elems, A.int?, A.view, A.bl?, fLen, fTuple, fCall, lCall, fIf, truth, tgName, tgTup, tgSeq, retA, A.below, fAnd, fOr, fNot, fIsi, isTy, iSeq, iRange1, iRange2, iEnum, iZip, iRangeDn, A.seqd, vals, ix0, ix1, ix2, ix3, ix4, ix5, ix6, ix7, ix8, ix9, ix10, ix11, ix12, ix13, ix14, ix15, ix16, ix17, ix18, ix19, ixLast, bind_ok, bind_err, bind_bad, st_ok, st_err, st_bad, of_some, of_none, seq_nx, seq_rt, seq_bk, seq_ct, seq_err, seq_bad, gd_true, gd_false, dec_true, dec_false, dec_iff, Option.bind_some, Option.bind_none, Option.map_some, Option.map_none, List.getElem?_cons_zero, List.getElem?_cons_succ, List.set_cons_zero, List.set_cons_succ, List.map_cons, List.map_nil, List.map_map, List.length_map, List.length_cons, List.length_nil, List.getElem?_map, Function.comp_def, List.append_nil, List.nil_append, List.cons_append, List.all_cons, List.all_nil, Bool.and_true, Bool.and_self, Bool.true_and, decide_true, decide_false, Bool.false_eq_true, if_true, if_false, ite_true, ite_false, Bool.not_true, Bool.not_false, ne_eq, not_true_eq_false, not_false_eq_true, frzL_vals, vals_map, intsD_map, forT_nil, forT_cons, lp_nx, lp_ct, lp_bk, lp_rt, lp_err, frzL_mapv, vals_mapv, intsD_mapv, List.isEmpty_nil, List.isEmpty_cons, List.replicate, List.take_length, List.take_zero, and_true, true_and, and_self, Nat.reduceAdd, Nat.reduceSub, Int.ofNat_eq_natCast, okn, rangeA_eq, Int.toNat_natCast]) (fun _ => trivial) (fun j q hj => by
    obtain ⟨v, q', _, _, h1⟩ := up_spec q 2 9 (by decide) (by decide) (by decide) (by decide) []
    refine ⟨1 + v, q', ?_, trivial⟩
    simp only [e2_law, wipeE, fnV, seq_eq, sIf, sSet, sRet, sRetN, sAsg, sExpr, sNil, sPar, sAug, sBreak, sCont, sPass, tCmp, tOf, Dn.tAnd, Dn.tOr, Dn.tNot, tYes, fVar, fC, fOp, fUn, fB, fArgs, viewL, fTup, frzL, A.frz, fFrz_disp, fLive, lDisp_eq, fIx, A.elems, A.int?, A.view, A.bl?, fLen, fTuple, fCall, lCall, fIf, truth, tgName, tgTup, tgSeq, retA, A.below, fAnd, fOr, fNot, fIsi, isTy, iSeq, iRange1, iRange2, iEnum, iZip, iRangeDn, A.seqd, vals, oAddU, ix0, ix1, ix2, ix3, ix4, ix5, ix6, ix7, ix8, ix9, ix10, ix11, ix12, ix13, ix14, ix15, ix16, ix17, ix18, ix19, ixLast, bind_ok, bind_err, bind_bad, st_ok, st_err, st_bad, of_some, of_none, seq_nx, seq_rt, seq_bk, seq_ct, seq_err, seq_bad, gd_true, gd_false, dec_true, dec_false, dec_iff, Option.bind_some, Option.bind_none, Option.map_some, Option.map_none, List.getElem?_cons_zero, List.getElem?_cons_succ, List.set_cons_zero, List.set_cons_succ, List.map_cons, List.map_nil, List.map_map, List.length_map, List.length_cons, List.length_nil, List.getElem?_map, Function.comp_def, List.append_nil, List.nil_append, List.cons_append, List.all_cons, List.all_nil, Bool.and_true, Bool.and_self, Bool.true_and, decide_true, decide_false, Bool.false_eq_true, if_true, if_false, ite_true, ite_false, Bool.not_true, Bool.not_false, ne_eq, not_true_eq_false, not_false_eq_true, frzL_vals, vals_map, intsD_map, forT_nil, forT_cons, lp_nx, lp_ct, lp_bk, lp_rt, lp_err, frzL_mapv, vals_mapv, intsD_mapv, List.isEmpty_nil, List.isEmpty_cons, List.replicate, List.take_length, List.take_zero, and_true, true_and, and_self, Nat.reduceAdd, Nat.reduceSub, Int.ofNat_eq_natCast, h1]) (by simp only [sizeMax]; omega)
theorem good_ints (xs : List Int) (h : xs.length ≤ 100) (n : Nat) : Good (n + 2) (.tup (xs.map D.int)) := by
  refine ⟨by rw [List.length_map]; simp only [sizeMax]; omega, fun d hd => ?_⟩
  obtain ⟨i, _, rfl⟩ := List.mem_map.mp hd
  trivial
theorem takes_comp (cap po lo ch : Int) (hlo : lo = 0 ∨ divOk lo) (h0 : 0 ≤ po ∧ po ≤ 1000) (hc : ch ≤ cap) (t0 t1 t2 t3 t4 t5 t6 t7 t8 t9 t10 t11 t13 t17 t18 t19 : Option A) (st : Store) :
    ∃ (ts : List Int) (best : Int), fFrz (lComp (iRange1 (fOp oAddU (fVar 15) (fC (.int 1)))) (tgName 18) c3_law (fVar 18) [18]) [t0, t1, t2, t3, t4, t5, t6, t7, t8, t9, t10, t11, some (.v (.int lo)), t13, some (.v (.int cap)), some (.v (.int po)), some (.v (.int ch)), t17, t18, t19] st = .ok (.v (.lst (ts.map D.int))) st ∧
      maxI ts = some best ∧ ch + gV best lo ≤ cap ∧ best ≤ po ∧ ∀ v, best < v → v ≤ po → cap < ch + gV v lo := by
  obtain ⟨n, rfl⟩ := Int.eq_ofNat_of_zero_le h0.1
  have okn : okR ((n : Int) + 1) := ⟨by omega, by omega⟩
  have e1 : ((n : Int) + 1).toNat = n + 1 := by omega
  have h := frz_comp (fun i : Nat => A.v (iD i)) iD (fun i => dec (ch + gV (i : Nat) lo ≤ cap)) (List.range (n + 1)) (i := iRange1 (fOp oAddU (fVar 15) (fC (.int 1)))) (t := tgName 18) (c := c3_law) (e := fVar 18) (vs := [18]) (g := fun _ => True)
    (σ := [t0, t1, t2, t3, t4, t5, t6, t7, t8, t9, t10, t11, some (.v (.int lo)), t13, some (.v (.int cap)), some (.v (.int n)), some (.v (.int ch)), t17, t18, t19]) (st := st)
    (by simp only [fnV, seq_eq, sIf, sSet, sRet, sRetN, sAsg, sExpr, sNil, sPar, sAug, sBreak, sCont, sPass, tCmp, tOf, Dn.tAnd, Dn.tOr, Dn.tNot, tYes, fVar, fC, fOp, fUn, fB, fArgs, viewL, fTup, frzL, A.frz, fFrz_disp, fLive, lDisp_eq, fIx, A.elems, A.int?, A.view, A.bl?, fLen, fTuple, fCall, lCall, fIf, truth, tgName, tgTup, tgSeq, retA, A.below, fAnd, fOr, fNot, fIsi, isTy, iSeq, iRange1, iRange2, iEnum, iZip, iRangeDn, A.seqd, vals, oAddU, ix0, ix1, ix2, ix3, ix4, ix5, ix6, ix7, ix8, ix9, ix10, ix11, ix12, ix13, ix14, ix15, ix16, ix17, ix18, ix19, ixLast, bind_ok, bind_err, bind_bad, st_ok, st_err, st_bad, of_some, of_none, seq_nx, seq_rt, seq_bk, seq_ct, seq_err, seq_bad, gd_true, gd_false, dec_true, dec_false, dec_iff, Option.bind_some, Option.bind_none, Option.map_some, Option.map_none, List.getElem?_cons_zero, List.getElem?_cons_succ, List.set_cons_zero, List.set_cons_succ, List.map_cons, List.map_nil, List.map_map, List.length_map, List.length_cons, List.length_nil, List.getElem?_map, Function.comp_def, List.append_nil, List.nil_append, List.cons_append, List.all_cons, List.all_nil, Bool.and_true, Bool.and_self, Bool.true_and, decide_true, decide_false, Bool.false_eq_true, if_true, if_false, ite_true, ite_false, Bool.not_true, Bool.not_false, ne_eq, not_true_eq_false, not_false_eq_true, frzL_vals, vals_map, intsD_map, forT_nil, forT_cons, lp_nx, lp_ct, lp_bk, lp_rt, lp_err, frzL_mapv, vals_mapv, intsD_mapv, List.isEmpty_nil, List.isEmpty_cons, List.replicate, List.take_length, List.take_zero, and_true, true_and, and_self, Nat.reduceAdd, Nat.reduceSub, Int.ofNat_eq_natCast, okn, rangeA_eq, e1, Int.zero_add]) trivial (fun y hy => by
      have ks := kept_spec (y : Nat) lo hlo st
      refine ⟨_, rfl, ?_, fun _ => ?_⟩
      · simp only [c3_law, wipeE, fnV, seq_eq, sIf, sSet, sRet, sRetN, sAsg, sExpr, sNil, sPar, sAug, sBreak, sCont, sPass, tCmp, tOf, Dn.tAnd, Dn.tOr, Dn.tNot, tYes, fVar, fC, fOp, fUn, fB, fArgs, viewL, fTup, frzL, A.frz, fFrz_disp, fLive, lDisp_eq, fIx, A.elems, A.int?, A.view, A.bl?, fLen, fTuple, fCall, lCall, fIf, truth, tgName, tgTup, tgSeq, retA, A.below, fAnd, fOr, fNot, fIsi, isTy, iSeq, iRange1, iRange2, iEnum, iZip, iRangeDn, A.seqd, vals, oAddU, oSub, oAdd, oLt, oLtU, lexLtI, intsD, oLe, oGt, oGe, oEqU, oEqG_int, oEqG_bl, oEqG_str, oEqG_nn, oEqG_ni, oEqG_in, oEqG_nil, oEqG_nil2, oNeG_int, oNeG_bl, oNeG_str, oNeG_nn, oNeG_ni, oNeG_in, oNeG_nil0, oNeS, eqU, eqS, oIsN, oNotN, oIsB, oNeg, bAbs, bMax2, bMin2, bInt, bSum, bSumU, bMaxU, bMinU, seqD, bLen, oMod, oDiv, oMulU, oMul, ix0, ix1, ix2, ix3, ix4, ix5, ix6, ix7, ix8, ix9, ix10, ix11, ix12, ix13, ix14, ix15, ix16, ix17, ix18, ix19, ixLast, bind_ok, bind_err, bind_bad, st_ok, st_err, st_bad, of_some, of_none, seq_nx, seq_rt, seq_bk, seq_ct, seq_err, seq_bad, gd_true, gd_false, dec_true, dec_false, dec_iff, Option.bind_some, Option.bind_none, Option.map_some, Option.map_none, List.getElem?_cons_zero, List.getElem?_cons_succ, List.set_cons_zero, List.set_cons_succ, List.map_cons, List.map_nil, List.map_map, List.length_map, List.length_cons, List.length_nil, List.getElem?_map, Function.comp_def, List.append_nil, List.nil_append, List.cons_append, List.all_cons, List.all_nil, Bool.and_true, Bool.and_self, Bool.true_and, decide_true, decide_false, Bool.false_eq_true, if_true, if_false, ite_true, ite_false, Bool.not_true, Bool.not_false, ne_eq, not_true_eq_false, not_false_eq_true, frzL_vals, vals_map, intsD_map, forT_nil, forT_cons, lp_nx, lp_ct, lp_bk, lp_rt, lp_err, frzL_mapv, vals_mapv, intsD_mapv, List.isEmpty_nil, List.isEmpty_cons, List.replicate, List.take_length, List.take_zero, and_true, true_and, and_self, Nat.reduceAdd, Nat.reduceSub, Int.ofNat_eq_natCast, ks]
      · simp only [wipeE, fnV, seq_eq, sIf, sSet, sRet, sRetN, sAsg, sExpr, sNil, sPar, sAug, sBreak, sCont, sPass, tCmp, tOf, Dn.tAnd, Dn.tOr, Dn.tNot, tYes, fVar, fC, fOp, fUn, fB, fArgs, viewL, fTup, frzL, A.frz, fFrz_disp, fLive, lDisp_eq, fIx, A.elems, A.int?, A.view, A.bl?, fLen, fTuple, fCall, lCall, fIf, truth, tgName, tgTup, tgSeq, retA, A.below, fAnd, fOr, fNot, fIsi, isTy, iSeq, iRange1, iRange2, iEnum, iZip, iRangeDn, A.seqd, vals, ix0, ix1, ix2, ix3, ix4, ix5, ix6, ix7, ix8, ix9, ix10, ix11, ix12, ix13, ix14, ix15, ix16, ix17, ix18, ix19, ixLast, bind_ok, bind_err, bind_bad, st_ok, st_err, st_bad, of_some, of_none, seq_nx, seq_rt, seq_bk, seq_ct, seq_err, seq_bad, gd_true, gd_false, dec_true, dec_false, dec_iff, Option.bind_some, Option.bind_none, Option.map_some, Option.map_none, List.getElem?_cons_zero, List.getElem?_cons_succ, List.set_cons_zero, List.set_cons_succ, List.map_cons, List.map_nil, List.map_map, List.length_map, List.length_cons, List.length_nil, List.getElem?_map, Function.comp_def, List.append_nil, List.nil_append, List.cons_append, List.all_cons, List.all_nil, Bool.and_true, Bool.and_self, Bool.true_and, decide_true, decide_false, Bool.false_eq_true, if_true, if_false, ite_true, ite_false, Bool.not_true, Bool.not_false, ne_eq, not_true_eq_false, not_false_eq_true, frzL_vals, vals_map, intsD_map, forT_nil, forT_cons, lp_nx, lp_ct, lp_bk, lp_rt, lp_err, frzL_mapv, vals_mapv, intsD_mapv, List.isEmpty_nil, List.isEmpty_cons, List.replicate, List.take_length, List.take_zero, and_true, true_and, and_self, Nat.reduceAdd, Nat.reduceSub, Int.ofNat_eq_natCast]) (by rw [List.length_range]; simp only [sizeMax]; omega)
  have hne : (((List.range (n + 1)).filter fun i => dec (ch + gV (i : Nat) lo ≤ cap)).map fun i : Nat => (i : Int)) ≠ [] := by
    have g0 : gV 0 lo = 0 := by
      unfold gV
      split
      · rfl
      · rw [Int.zero_fdiv]; rfl
    have : (0 : Int) ∈ (((List.range (n + 1)).filter fun i => dec (ch + gV (i : Nat) lo ≤ cap)).map fun i : Nat => (i : Int)) := List.mem_map.mpr ⟨0, List.mem_filter.mpr ⟨List.mem_range.mpr (by omega), dec_pos (by
      show ch + gV 0 lo ≤ cap
      rw [g0]; omega)⟩, rfl⟩
    intro e
    rw [e] at this
    cases this
  obtain ⟨best, hb⟩ := maxI_some hne
  obtain ⟨m1, m2⟩ := maxI_spec hb
  obtain ⟨i, hi, rfl⟩ := List.mem_map.mp m1
  obtain ⟨i1, i2⟩ := List.mem_filter.mp hi
  have i1' := List.mem_range.mp i1
  rw [dec_iff] at i2
  refine ⟨_, _, ?_, hb, i2, by omega, fun v h1 h2 => ?_⟩
  · rw [h, List.map_map]
    rfl
  · obtain ⟨j, rfl⟩ := Int.eq_ofNat_of_zero_le (show 0 ≤ v by omega)
    by_cases hq : ch + gV (j : Nat) lo ≤ cap
    · have := m2 (j : Nat) (List.mem_map.mpr ⟨j, List.mem_filter.mpr ⟨List.mem_range.mpr (by omega), dec_pos hq⟩, rfl⟩)
      omega
    · omega
theorem law_true (ns : List Int) (h : ns.length ≤ 63) : d_law [.v (.ro (ns.map D.int))] [] = .ok (.v (.bl true)) [] := by
  obtain ⟨p0, hp⟩ := pool_spec ns 0 [] (by decide)
  have hp' : d__law_pool [.v (.ro (ns.map D.int)), .v (.int 0)] [] = .ok [.v (.int p0.f), .v (.int p0.s), .v (.int p0.c)] [] := hp
  have pp : Cell.lst [A.v (.int p0.f), A.v (.int p0.s), A.v (.int p0.c)] = pl p0 := rfl
  have d1 := draw_spec p0 8 (by decide) (by decide) []
  generalize hwide : dec (drawV p0 8 = 0) = wide
  obtain ⟨c, p1, c1, c2, hu⟩ := up_spec (drawP p0 8) 7 13 (by decide) (by decide) (by decide) (by decide) []
  obtain ⟨n, rfl⟩ := Int.eq_ofNat_of_zero_le c1
  have hn : n ≤ 13 := by omega
  obtain ⟨ws, p2, hws, wl, wb⟩ := wants_comp p1 wide n hn (some (.v (.ro (ns.map D.int)))) none none none none none none none none none none none none none none none none
  obtain ⟨dg, p3, hdg, dl, _⟩ := degs_comp p2 n hn (some (.v (.ro (ns.map D.int)))) (some (.v (.bl wide))) (some (.v (.tup (ws.map D.int)))) none none none none none none none none none none none none none none none
  obtain ⟨s1, s2⟩ := sum_le (B := 1000000000) (by decide) ws wb
  rw [wl] at s2
  have tot : ws.sum ≤ 13000000000 := by
    have : (n : Int) * 1000000000 ≤ 13 * 1000000000 := by omega
    omega
  have d2 := draw_spec p3 (ws.sum + 2) (by omega) (by omega) []
  have sp1 := draw_lo p3 (m := ws.sum + 2) (by omega)
  generalize drawV p3 (ws.sum + 2) = sp at *
  generalize drawP p3 (ws.sum + 2) = p4 at *
  obtain ⟨v, p5, hv, v1, v2⟩ := units_spec p4 true []
  obtain ⟨d, p6, hd6, hpk⟩ := pick_lst p5 [.int 0, .int ws.sum, .int (if ws.sum - 1 > 0 then ws.sum - 1 else 0), .int (ws.sum + 1), .int sp, .int sp, .int v] [] (by simp) (by simp)
  have hd7 : ∃ u, d = .int u ∧ 0 ≤ u := by
    simp only [List.mem_cons, List.not_mem_nil, or_false] at hd6
    rcases hd6 with e | e | e | e | e | e | e
    · exact ⟨_, e, by omega⟩
    · exact ⟨_, e, by omega⟩
    · exact ⟨_, e, by split <;> omega⟩
    · exact ⟨_, e, by omega⟩
    · exact ⟨_, e, by omega⟩
    · exact ⟨_, e, by omega⟩
    · exact ⟨_, e, by omega⟩
  obtain ⟨u0, rfl, hu0⟩ := hd7
  generalize hun : (if u0 < 1000000000 then u0 else 1000000000) = un
  generalize hsn : (if sp < 1000000000 then sp else 1000000000) = sn
  have un0 : 0 ≤ un := by rw [← hun]; split <;> omega
  have sn0 : 0 ≤ sn := by rw [← hsn]; split <;> omega
  have f1 := fun st => filled_spec ws dg n wl dl hn un st
  have f2 := fun st => filled_spec ws dg n wl dl hn sn st
  have r1 := fun st => rank_spec ws dg n wl dl hn (fun x hx => (wb x hx).1) un un0 st
  have r2 := fun st => rank_spec ws dg n wl dl hn (fun x hx => (wb x hx).1) sn sn0 st
  have dul : ∀ u, (due ws dg n u).length ≤ 100 := fun u => by unfold due; rw [List.length_map, List.length_range]; omega
  have g1 := fun st => same_refl 12 (.tup ((due ws dg n un).map D.int)) st (good_ints _ (dul un) 10)
  have g2 := fun st => same_refl 12 (.tup ((due ws dg n sn).map D.int)) st (good_ints _ (dul sn) 10)
  have d3 := draw_spec p6 8 (by decide) (by decide) []
  have k1 := draw_lo p6 (m := 8) (by decide)
  have k2 := draw_hi p6 (m := 8) (by decide)
  obtain ⟨d, p7, hd7, hpk2⟩ := pick_lst (drawP p6 8) [.int 0, .int 2, .int 3, .int (2 + drawV p6 8)] [] (by simp) (by simp)
  have hd8 : ∃ k, d = .int k ∧ (k = 0 ∨ (0 < k ∧ k < 100)) := by
    simp only [List.mem_cons, List.not_mem_nil, or_false] at hd7
    rcases hd7 with e | e | e | e
    · exact ⟨_, e, by omega⟩
    · exact ⟨_, e, by omega⟩
    · exact ⟨_, e, by omega⟩
    · exact ⟨_, e, by omega⟩
  obtain ⟨k, rfl, hk⟩ := hd8
  have hkd : k = 0 ∨ divOk k := hk.imp id fun h => divOk_of (by omega) (by omega)
  obtain ⟨fl0, p8, hf0, fl1, fl2⟩ := units_spec p7 wide []
  generalize hfl : (if fl0 < 999999998 then fl0 else 999999998) = fl
  have gn := fun x st => gained_spec (fl + x) k hk st
  obtain ⟨r0, p9', r01, r02, hr0⟩ := up_spec p8 10 31 (by decide) (by decide) (by decide) (by decide) []
  obtain ⟨s0, p10, s01, s02, hs0⟩ := up_spec p9' 10 31 (by decide) (by decide) (by decide) (by decide) []
  obtain ⟨r, s, p11, ra, rb, sa, sb, hif⟩ := law_if p10 wide r0 s0 ⟨r01, by omega⟩ ⟨s01, by omega⟩ (some (.v (.ro (ns.map D.int)))) (some (.v (.int (n : Nat)))) (some (.v (.tup (ws.map D.int)))) none (some (.v (.tup (dg.map D.int)))) (some (.v (.int ws.sum))) (some (.v (.int sn))) (some (.v (.int un)))
    (some (.v (.tup ((due ws dg n un).map D.int)))) (some (.v (.tup ((due ws dg n sn).map D.int)))) (some (.v (.int k))) (some (.v (.int fl))) none none none none
  have d4 := draw_spec p11 (r + 1) (by omega) (by omega) []
  have h1 := draw_lo p11 (m := r + 1) (by omega)
  have h2 := draw_hi p11 (m := r + 1) (by omega)
  obtain ⟨d, p12, hd9, hpk3⟩ := pick_lst (drawP p11 (r + 1)) [.int r, .int (if r - 1 > 0 then r - 1 else 0), .int 0, .int (drawV p11 (r + 1))] [] (by simp) (by simp)
  have hd10 : ∃ k, d = .int k ∧ k ≤ r := by
    simp only [List.mem_cons, List.not_mem_nil, or_false] at hd9
    rcases hd9 with e | e | e | e
    · exact ⟨_, e, by omega⟩
    · exact ⟨_, e, by split <;> omega⟩
    · exact ⟨_, e, by omega⟩
    · exact ⟨_, e, by omega⟩
  obtain ⟨ch, rfl, hch⟩ := hd10
  obtain ⟨ts, best, ht, tm, b1, b2, b3⟩ := takes_comp r s k ch hkd ⟨sa, sb⟩ hch (some (.v (.ro (ns.map D.int)))) (some (.ref 0)) (some (.v (.bl wide))) (some (.v (.int (n : Nat)))) (some (.v (.tup (ws.map D.int)))) none (some (.v (.tup (dg.map D.int)))) (some (.v (.int ws.sum))) (some (.v (.int sn))) (some (.v (.int un)))
    (some (.v (.tup ((due ws dg n un).map D.int)))) (some (.v (.tup ((due ws dg n sn).map D.int)))) (some (.v (.int fl))) none none none [pl p12]
  have ik := fun st => intake_spec r s k ch best hkd b1 b2 b3 st
  have g3 := fun st => same_refl 12 (.int best) st trivial
  have ok3 : okR (3 : Int) := ⟨by decide, by decide⟩
  have cm : ∀ t17 t18 t19, fFrz (lComp (iRange1 (fC (.int 3))) (tgName 19) c4_law (fVar 19) [19]) [some (.v (.ro (ns.map D.int))), some (.ref 0), some (.v (.bl wide)), some (.v (.int (n : Nat))), some (.v (.tup (ws.map D.int))), none, some (.v (.tup (dg.map D.int))), some (.v (.int ws.sum)), some (.v (.int sn)), some (.v (.int un)),
      some (.v (.tup ((due ws dg n un).map D.int))), some (.v (.tup ((due ws dg n sn).map D.int))), some (.v (.int k)), some (.v (.int fl)), some (.v (.int r)), some (.v (.int s)), some (.v (.int ch)), t17, t18, t19] [pl p12] = .ok (.v (.lst [])) [pl p12] := by
    intro t17 t18 t19
    have := frz_comp (fun i : Nat => A.v (iD i)) iD (fun _ => false) (List.range 3) (i := iRange1 (fC (.int 3))) (t := tgName 19) (c := c4_law) (e := fVar 19) (vs := [19]) (g := fun _ => True)
      (σ := [some (.v (.ro (ns.map D.int))), some (.ref 0), some (.v (.bl wide)), some (.v (.int (n : Nat))), some (.v (.tup (ws.map D.int))), none, some (.v (.tup (dg.map D.int))), some (.v (.int ws.sum)), some (.v (.int sn)), some (.v (.int un)),
      some (.v (.tup ((due ws dg n un).map D.int))), some (.v (.tup ((due ws dg n sn).map D.int))), some (.v (.int k)), some (.v (.int fl)), some (.v (.int r)), some (.v (.int s)), some (.v (.int ch)), t17, t18, t19]) (st := [pl p12])
      (by simp only [fnV, seq_eq, sIf, sSet, sRet, sRetN, sAsg, sExpr, sNil, sPar, sAug, sBreak, sCont, sPass, tCmp, tOf, Dn.tAnd, Dn.tOr, Dn.tNot, tYes, fVar, fC, fOp, fUn, fB, fArgs, viewL, fTup, frzL, A.frz, fFrz_disp, fLive, lDisp_eq, fIx, A.elems, A.int?, A.view, A.bl?, fLen, fTuple, fCall, lCall, fIf, truth, tgName, tgTup, tgSeq, retA, A.below, fAnd, fOr, fNot, fIsi, isTy, iSeq, iRange1, iRange2, iEnum, iZip, iRangeDn, A.seqd, vals, ix0, ix1, ix2, ix3, ix4, ix5, ix6, ix7, ix8, ix9, ix10, ix11, ix12, ix13, ix14, ix15, ix16, ix17, ix18, ix19, ixLast, bind_ok, bind_err, bind_bad, st_ok, st_err, st_bad, of_some, of_none, seq_nx, seq_rt, seq_bk, seq_ct, seq_err, seq_bad, gd_true, gd_false, dec_true, dec_false, dec_iff, Option.bind_some, Option.bind_none, Option.map_some, Option.map_none, List.getElem?_cons_zero, List.getElem?_cons_succ, List.set_cons_zero, List.set_cons_succ, List.map_cons, List.map_nil, List.map_map, List.length_map, List.length_cons, List.length_nil, List.getElem?_map, Function.comp_def, List.append_nil, List.nil_append, List.cons_append, List.all_cons, List.all_nil, Bool.and_true, Bool.and_self, Bool.true_and, decide_true, decide_false, Bool.false_eq_true, if_true, if_false, ite_true, ite_false, Bool.not_true, Bool.not_false, ne_eq, not_true_eq_false, not_false_eq_true, frzL_vals, vals_map, intsD_map, forT_nil, forT_cons, lp_nx, lp_ct, lp_bk, lp_rt, lp_err, frzL_mapv, vals_mapv, intsD_mapv, List.isEmpty_nil, List.isEmpty_cons, List.replicate, List.take_length, List.take_zero, and_true, true_and, and_self, Nat.reduceAdd, Nat.reduceSub, Int.ofNat_eq_natCast, ok3, rangeA_eq, Int.zero_add]; rfl) trivial (fun y hy => by
        have gg := gn (y : Nat) [pl p12]
        refine ⟨_, rfl, ?_, fun e => by cases e⟩
        simp only [c4_law, wipeE, fnV, seq_eq, sIf, sSet, sRet, sRetN, sAsg, sExpr, sNil, sPar, sAug, sBreak, sCont, sPass, tCmp, tOf, Dn.tAnd, Dn.tOr, Dn.tNot, tYes, fVar, fC, fOp, fUn, fB, fArgs, viewL, fTup, frzL, A.frz, fFrz_disp, fLive, lDisp_eq, fIx, A.elems, A.int?, A.view, A.bl?, fLen, fTuple, fCall, lCall, fIf, truth, tgName, tgTup, tgSeq, retA, A.below, fAnd, fOr, fNot, fIsi, isTy, iSeq, iRange1, iRange2, iEnum, iZip, iRangeDn, A.seqd, vals, oAddU, ix0, ix1, ix2, ix3, ix4, ix5, ix6, ix7, ix8, ix9, ix10, ix11, ix12, ix13, ix14, ix15, ix16, ix17, ix18, ix19, ixLast, bind_ok, bind_err, bind_bad, st_ok, st_err, st_bad, of_some, of_none, seq_nx, seq_rt, seq_bk, seq_ct, seq_err, seq_bad, gd_true, gd_false, dec_true, dec_false, dec_iff, Option.bind_some, Option.bind_none, Option.map_some, Option.map_none, List.getElem?_cons_zero, List.getElem?_cons_succ, List.set_cons_zero, List.set_cons_succ, List.map_cons, List.map_nil, List.map_map, List.length_map, List.length_cons, List.length_nil, List.getElem?_map, Function.comp_def, List.append_nil, List.nil_append, List.cons_append, List.all_cons, List.all_nil, Bool.and_true, Bool.and_self, Bool.true_and, decide_true, decide_false, Bool.false_eq_true, if_true, if_false, ite_true, ite_false, Bool.not_true, Bool.not_false, ne_eq, not_true_eq_false, not_false_eq_true, frzL_vals, vals_map, intsD_map, forT_nil, forT_cons, lp_nx, lp_ct, lp_bk, lp_rt, lp_err, frzL_mapv, vals_mapv, intsD_mapv, List.isEmpty_nil, List.isEmpty_cons, List.replicate, List.take_length, List.take_zero, and_true, true_and, and_self, Nat.reduceAdd, Nat.reduceSub, Int.ofNat_eq_natCast, gg]) (by decide)
    rw [this]
    rfl
  have e98 : (1000000000 : Int) - 2 = 999999998 := by decide
  simp only [d_law, b_law, fnV, seq_eq, sSet, sRet, sRetN, sAsg, sExpr, sNil, sPar, sAug, sBreak, sCont, sPass, tCmp, tOf, Dn.tAnd, Dn.tOr, Dn.tNot, tYes, fVar, fC, fOp, fUn, fB, fArgs, viewL, fTup, frzL, A.frz, fFrz_disp, fLive, lDisp_eq, fIx, A.elems, A.int?, A.view, A.bl?, fLen, fTuple, fCall, lCall, fIf, truth, tgName, tgTup, tgSeq, retA, A.below, fAnd, fOr, fNot, fIsi, isTy, iSeq, iRange1, iRange2, iEnum, iZip, iRangeDn, A.seqd, vals, oAddU, oSub, oAdd, oLt, oLtU, lexLtI, intsD, oLe, oGt, oGe, oEqU, oEqG_int, oEqG_bl, oEqG_str, oEqG_nn, oEqG_ni, oEqG_in, oEqG_nil, oEqG_nil2, oNeG_int, oNeG_bl, oNeG_str, oNeG_nn, oNeG_ni, oNeG_in, oNeG_nil0, oNeS, eqU, eqS, oIsN, oNotN, oIsB, oNeg, bAbs, bMax2, bMin2, bInt, bSum, bSumU, bMaxU, bMinU, seqD, bLen, oMod, oDiv, oMulU, oMul, ix0, ix1, ix2, ix3, ix4, ix5, ix6, ix7, ix8, ix9, ix10, ix11, ix12, ix13, ix14, ix15, ix16, ix17, ix18, ix19, ixLast, bind_ok, bind_err, bind_bad, st_ok, st_err, st_bad, of_some, of_none, seq_nx, seq_rt, seq_bk, seq_ct, seq_err, seq_bad, gd_true, gd_false, dec_true, dec_false, dec_iff, Option.bind_some, Option.bind_none, Option.map_some, Option.map_none, List.getElem?_cons_zero, List.getElem?_cons_succ, List.set_cons_zero, List.set_cons_succ, List.map_cons, List.map_nil, List.map_map, List.length_map, List.length_cons, List.length_nil, List.getElem?_map, Function.comp_def, List.append_nil, List.nil_append, List.cons_append, List.all_cons, List.all_nil, Bool.and_true, Bool.and_self, Bool.true_and, decide_true, decide_false, Bool.false_eq_true, if_true, if_false, ite_true, ite_false, Bool.not_true, Bool.not_false, ne_eq, not_true_eq_false, not_false_eq_true, frzL_vals, vals_map, intsD_map, forT_nil, forT_cons, lp_nx, lp_ct, lp_bk, lp_rt, lp_err, frzL_mapv, vals_mapv, intsD_mapv, List.isEmpty_nil, List.isEmpty_cons, List.replicate, List.take_length, List.take_zero, and_true, true_and, and_self, Nat.reduceAdd, Nat.reduceSub, Int.ofNat_eq_natCast, hp', pp, d1, hwide, hu, hws, hdg, wl, d2, hv, hpk, p9, hun, hsn, f1, f2, d3, hpk2, hf0, e98, hfl, hr0, hs0, hif, d4, hpk3, ht, tm]
  simp only [fnV, seq_eq, sIf, sSet, sRet, sRetN, sAsg, sExpr, sNil, sPar, sAug, sBreak, sCont, sPass, tCmp, tOf, Dn.tAnd, Dn.tOr, Dn.tNot, tYes, fVar, fC, fOp, fUn, fB, fArgs, viewL, fTup, frzL, A.frz, fFrz_disp, fLive, lDisp_eq, fIx, A.elems, A.int?, A.view, A.bl?, fLen, fTuple, fCall, lCall, fIf, truth, tgName, tgTup, tgSeq, retA, A.below, fAnd, fOr, fNot, fIsi, isTy, iSeq, iRange1, iRange2, iEnum, iZip, iRangeDn, A.seqd, vals, oAddU, oSub, oAdd, oLt, oLtU, lexLtI, intsD, oLe, oGt, oGe, oEqU, oEqG_int, oEqG_bl, oEqG_str, oEqG_nn, oEqG_ni, oEqG_in, oEqG_nil, oEqG_nil2, oNeG_int, oNeG_bl, oNeG_str, oNeG_nn, oNeG_ni, oNeG_in, oNeG_nil0, oNeS, eqU, eqS, oIsN, oNotN, oIsB, oNeg, bAbs, bMax2, bMin2, bInt, bSum, bSumU, bMaxU, bMinU, seqD, bLen, oMod, oDiv, oMulU, oMul, ix0, ix1, ix2, ix3, ix4, ix5, ix6, ix7, ix8, ix9, ix10, ix11, ix12, ix13, ix14, ix15, ix16, ix17, ix18, ix19, ixLast, bind_ok, bind_err, bind_bad, st_ok, st_err, st_bad, of_some, of_none, seq_nx, seq_rt, seq_bk, seq_ct, seq_err, seq_bad, gd_true, gd_false, dec_true, dec_false, dec_iff, Option.bind_some, Option.bind_none, Option.map_some, Option.map_none, List.getElem?_cons_zero, List.getElem?_cons_succ, List.set_cons_zero, List.set_cons_succ, List.map_cons, List.map_nil, List.map_map, List.length_map, List.length_cons, List.length_nil, List.getElem?_map, Function.comp_def, List.append_nil, List.nil_append, List.cons_append, List.all_cons, List.all_nil, Bool.and_true, Bool.and_self, Bool.true_and, decide_true, decide_false, Bool.false_eq_true, if_true, if_false, ite_true, ite_false, Bool.not_true, Bool.not_false, ne_eq, not_true_eq_false, not_false_eq_true, frzL_vals, vals_map, intsD_map, forT_nil, forT_cons, lp_nx, lp_ct, lp_bk, lp_rt, lp_err, frzL_mapv, vals_mapv, intsD_mapv, List.isEmpty_nil, List.isEmpty_cons, List.replicate, List.take_length, List.take_zero, and_true, true_and, and_self, Nat.reduceAdd, Nat.reduceSub, Int.ofNat_eq_natCast, r1, r2, g1, g2, cm, ik, g3]
end Pk02

set_option linter.all false
set_option Elab.async false
set_option maxRecDepth 100000
/-! Sim: what the functions of Den say of the machine. -/
namespace Dn
open PySem PySem.Spec PyProof.Rows L2

theorem Same.tup {K : PySem.W.Frag} {H H' : Hp} {a : Addr} {xs : List V} (e : Same H H') (h : SqT K H a xs) : SqT K H' a xs := by
  rcases h with (h | ⟨o, h⟩) | h
  · exact .inl (.inl (e _ _ h))
  · exact .inl (.inr ⟨o, e _ _ h⟩)
  · exact .inr h

mutual
/-- the data d is read at v -/
inductive Rep (K : PySem.W.Frag) (H : Hp) : D → V → Prop
  | non : Rep K H .non .non
  | bl {b : Bool} : Rep K H (.bl b) (.bl b)
  | int {i : Int} : Rep K H (.int i) (.int i)
  | str {x : Str} : Rep K H (.str x) (.str x)
  | tup {a : Addr} {ds : List D} {vs : List V} : H a = some (.tup vs) → Reps K H ds vs → Rep K H (.tup ds) (.ref a)
  | lst {a : Addr} {ds : List D} {vs : List V} : H a = some (.lst vs) → Reps K H ds vs → Rep K H (.lst ds) (.ref a)
  | ro {a : Addr} {ds : List D} {vs : List V} : SqL K H a vs → Reps K H ds vs → Rep K H (.ro ds) (.ref a)
inductive Reps (K : PySem.W.Frag) (H : Hp) : List D → List V → Prop
  | nil : Reps K H [] []
  | cons {d : D} {v : V} {ds : List D} {vs : List V} : Rep K H d v → Reps K H ds vs → Reps K H (d :: ds) (v :: vs)
end
mutual
theorem Rep.mono {K : PySem.W.Frag} {H H' : Hp} (s : Same H H') : ∀ {d : D} {v : V}, Rep K H d v → Rep K H' d v
  | _, _, .non => .non
  | _, _, .bl => .bl
  | _, _, .int => .int
  | _, _, .str => .str
  | _, _, .tup h r => .tup (s _ _ h) (Reps.mono s r)
  | _, _, .lst h r => .lst (s _ _ h) (Reps.mono s r)
  | _, _, .ro h r => .ro (s.seq h) (Reps.mono s r)
theorem Reps.mono {K : PySem.W.Frag} {H H' : Hp} (s : Same H H') : ∀ {ds : List D} {vs : List V}, Reps K H ds vs → Reps K H' ds vs
  | _, _, .nil => .nil
  | _, _, .cons h r => .cons (Rep.mono s h) (Reps.mono s r)
end
section
variable {K : PySem.W.Frag} {H : Hp}
theorem Reps.length : ∀ {ds : List D} {vs : List V}, Reps K H ds vs → ds.length = vs.length
  | _, _, .nil => rfl
  | _, _, .cons _ r => by rw [List.length_cons, List.length_cons, r.length]
theorem Reps.get : ∀ {ds : List D} {vs : List V} {i : Nat} {d : D}, Reps K H ds vs → ds[i]? = some d → ∃ v, vs[i]? = some v ∧ Rep K H d v
  | _, _, _, _, .nil, e => by simp at e
  | _, _, 0, _, .cons h _, e => by simp at e; subst e; exact ⟨_, rfl, h⟩
  | _, _, i + 1, _, .cons _ r, e => by
    obtain ⟨v, h1, h2⟩ := Reps.get (i := i) r (by simpa using e)
    exact ⟨v, by simpa using h1, h2⟩
end

/-- a value, live lists by their numbers -/
def ARep (K : PySem.W.Frag) (μ : List Addr) (F : Hp) : A → V → Prop
  | .v d, v => Rep K F d v
  | .ref n, v => ∃ a, μ[n]? = some a ∧ v = .ref a
def Ext (μ : List Addr) (F : Hp) (μ' : List Addr) (F' : Hp) : Prop := (∃ t, μ' = μ ++ t) ∧ Same F F'
theorem Ext.refl (μ : List Addr) (F : Hp) : Ext μ F μ F := ⟨⟨[], by simp⟩, Same.refl F⟩
theorem Ext.trans {μ μ1 μ2 : List Addr} {F F1 F2 : Hp} (a : Ext μ F μ1 F1) (b : Ext μ1 F1 μ2 F2) : Ext μ F μ2 F2 := by
  obtain ⟨⟨t, rfl⟩, s⟩ := a
  obtain ⟨⟨u, rfl⟩, s2⟩ := b
  exact ⟨⟨t ++ u, by simp⟩, s.trans s2⟩
theorem Ext.at {μ μ1 : List Addr} {F F1 : Hp} (e : Ext μ F μ1 F1) {n : Nat} {a : Addr} (h : μ[n]? = some a) : μ1[n]? = some a := by
  obtain ⟨⟨t, rfl⟩, _⟩ := e
  rw [List.getElem?_append_left (List.getElem?_eq_some_iff.mp h).1]
  exact h
theorem ARep.ext {K : PySem.W.Frag} {μ μ1 : List Addr} {F F1 : Hp} {a : A} {v : V} (e : Ext μ F μ1 F1) (h : ARep K μ F a v) : ARep K μ1 F1 a v := by
  cases a with
  | v d => exact Rep.mono e.2 h
  | ref n =>
    obtain ⟨x, h1, h2⟩ := h
    exact ⟨x, e.at h1, h2⟩
abbrev AReps (K : PySem.W.Frag) (μ : List Addr) (F : Hp) : List A → List V → Prop := Paired (ARep K μ F)
theorem AReps.ext {K : PySem.W.Frag} {μ μ1 : List Addr} {F F1 : Hp} (e : Ext μ F μ1 F1) : ∀ {xs : List A} {vs : List V}, AReps K μ F xs vs → AReps K μ1 F1 xs vs
  | _, _, .nil => .nil
  | _, _, .cons h r => .cons (h.ext e) (AReps.ext e r)
theorem AReps.get {K : PySem.W.Frag} {μ : List Addr} {F : Hp} : ∀ {xs : List A} {vs : List V} {i : Nat} {x : A}, AReps K μ F xs vs → xs[i]? = some x → ∃ v, vs[i]? = some v ∧ ARep K μ F x v
  | _, _, _, _, .nil, e => by simp at e
  | _, _, 0, _, .cons h _, e => by simp at e; subst e; exact ⟨_, rfl, h⟩
  | _, _, i + 1, _, .cons _ r, e => by
    obtain ⟨v, h1, h2⟩ := AReps.get (i := i) r (by simpa using e)
    exact ⟨v, by simpa using h1, h2⟩
theorem AReps.of {K : PySem.W.Frag} {μ : List Addr} {F : Hp} : ∀ {ds : List D} {vs : List V}, Reps K F ds vs → AReps K μ F (ds.map .v) vs
  | _, _, .nil => .nil
  | _, _, .cons h r => .cons h (AReps.of r)
theorem AReps.vals {K : PySem.W.Frag} {μ : List Addr} {F : Hp} : ∀ {xs : List A} {vs : List V} {ds : List D}, AReps K μ F xs vs → vals xs = some ds → Reps K F ds vs
  | _, _, _, .nil, e => by cases e; exact .nil
  | .v d :: r, _, ds, .cons h t, e => by
    cases q : Dn.vals r with
    | none =>
      have e' : (Dn.vals r).map (d :: ·) = some ds := e
      rw [q] at e'; cases e'
    | some es =>
      have e' : (Dn.vals r).map (d :: ·) = some ds := e
      rw [q] at e'; cases e'
      exact .cons h (AReps.vals t q)
  | .ref n :: r, _, _, .cons h t, e => by cases e
theorem AReps.len {K : PySem.W.Frag} {μ : List Addr} {F : Hp} {xs : List A} {vs : List V} (h : AReps K μ F xs vs) : xs.length = vs.length := Paired.length h
theorem AReps.set {K : PySem.W.Frag} {μ : List Addr} {F : Hp} {a : A} {v : V} (h : ARep K μ F a v) : ∀ {xs : List A} {vs : List V} (j : Nat), AReps K μ F xs vs → AReps K μ F (xs.set j a) (vs.set j v)
  | _, _, _, .nil => .nil
  | _, _, 0, .cons _ r => .cons h r
  | _, _, j + 1, .cons q r => .cons q (AReps.set h j r)
theorem AReps.snoc {K : PySem.W.Frag} {μ : List Addr} {F : Hp} {a : A} {v : V} {xs : List A} {vs : List V} (r : AReps K μ F xs vs) (h : ARep K μ F a v) : AReps K μ F (xs ++ [a]) (vs ++ [v]) := Paired.snoc r h

def CellOk (K : PySem.W.Frag) (μ : List Addr) (F H : Hp) (n : Nat) (a : Addr) : Cell → Prop
  | .lst xs => F a = none ∧ (∃ vs, H a = some (.lst vs) ∧ AReps K μ F xs vs) ∧ xs.all (A.below n) = true
  | .frz ds => ∃ vs, F a = some (.lst vs) ∧ Reps K F ds vs

/-- the state: G what others keep, μ the live lists, F what never changes, st the store, H the heap -/
structure Sim (K : PySem.W.Frag) (G : Hp) (μ : List Addr) (F : Hp) (st : Store) (H : Hp) : Prop where
  sub : Same F H
  gsub : Same G H
  len : μ.length = st.length
  nd : μ.Nodup
  cell : ∀ n a c, μ[n]? = some a → st[n]? = some c → CellOk K μ F H n a c
  gF : ∀ a o, G a = some o → F a = none
  gμ : ∀ a ∈ μ, G a = none

theorem CellOk.ext {K : PySem.W.Frag} {μ μ' : List Addr} {F F' H H' : Hp} {n : Nat} {a : Addr} {c : Cell} (e : Ext μ F μ' F') (hF : F a = none → F' a = none) (hH : H' a = H a) (h : CellOk K μ F H n a c) : CellOk K μ' F' H' n a c := by
  cases c with
  | lst xs =>
    obtain ⟨h1, ⟨vs, h2, h3⟩, h4⟩ := h
    exact ⟨hF h1, ⟨vs, by rw [hH]; exact h2, h3.ext e⟩, h4⟩
  | frz ds =>
    obtain ⟨vs, h1, h2⟩ := h
    exact ⟨vs, e.2 _ _ h1, h2.mono e.2⟩

section
variable {K : PySem.W.Frag} {G F H : Hp} {μ : List Addr} {st : Store}
theorem Sim.there (S : Sim K G μ F st H) {n : Nat} {a : Addr} (h : μ[n]? = some a) : ∃ o, H a = some o := by
  have hn : n < st.length := by rw [← S.len]; exact (List.getElem?_eq_some_iff.mp h).1
  have := S.cell n a st[n] h (List.getElem?_eq_getElem hn)
  cases q : st[n] with
  | lst xs =>
    rw [q] at this
    obtain ⟨_, ⟨vs, h2, _⟩, _⟩ := this
    exact ⟨_, h2⟩
  | frz ds =>
    rw [q] at this
    obtain ⟨vs, h1, _⟩ := this
    exact ⟨_, S.sub _ _ h1⟩
theorem Sim.notin (S : Sim K G μ F st H) {p : Addr} (h : H p = none) : p ∉ μ := fun hm => by
  obtain ⟨n, hn⟩ := List.getElem?_of_mem hm
  obtain ⟨o, e⟩ := S.there hn
  rw [h] at e; cases e
theorem Sim.freeF (S : Sim K G μ F st H) {p : Addr} (h : H p = none) : F p = none := S.sub.free h
theorem Sim.freeG (S : Sim K G μ F st H) {p : Addr} (h : H p = none) : G p = none := S.gsub.free h
theorem same_upd {H : Hp} {p : Addr} {o : HO} (h : H p = none) : Same H (upd H p o) := fun b x e => by
  rw [upd_ne (ne_of_none e h)]
  exact e
/-- a new object, of nobody -/
theorem Sim.heap (S : Sim K G μ F st H) {p : Addr} {o : HO} (h : H p = none) : Sim K G μ F st (upd H p o) :=
  ⟨S.sub.trans (same_upd h), S.gsub.trans (same_upd h), S.len, S.nd, fun n a c h1 h2 => (S.cell n a c h1 h2).ext (Ext.refl _ _) id (by
    rw [upd_ne]
    intro e
    subst e
    exact S.notin h (List.mem_of_getElem? h1)), S.gF, S.gμ⟩
/-- an object that nobody keeps never changes from now on -/
theorem Sim.keep (S : Sim K G μ F st H) {p : Addr} {o : HO} (h : H p = some o) (hF : F p = none) (hG : G p = none) (hμ : p ∉ μ) : Sim K G μ (upd F p o) st H ∧ Ext μ F μ (upd F p o) := by
  have hs : Same F (upd F p o) := same_upd hF
  refine ⟨⟨fun b x e => ?_, S.gsub, S.len, S.nd, fun n a c h1 h2 => (S.cell n a c h1 h2).ext ⟨⟨[], by simp⟩, hs⟩ (fun q => ?_) rfl, fun a x e => ?_, S.gμ⟩, ⟨⟨[], by simp⟩, hs⟩⟩
  · by_cases hb : b = p
    · subst hb; rw [upd_same] at e; cases e; exact h
    · rw [upd_ne hb] at e; exact S.sub _ _ e
  · rw [upd_ne (fun z => by subst z; exact hμ (List.mem_of_getElem? h1))]; exact q
  · rw [upd_ne (fun z => by subst z; rw [hG] at e; cases e)]; exact S.gF _ _ e
theorem Sim.new (S : Sim K G μ F st H) {p : Addr} {o : HO} (h : H p = none) : Sim K G μ (upd F p o) st (upd H p o) ∧ Ext μ F μ (upd F p o) :=
  (S.heap h).keep upd_same (S.freeF h) (S.freeG h) (S.notin h)
/-- a list that nobody keeps becomes live -/
theorem Sim.push (S : Sim K G μ F st H) {p : Addr} {vs : List V} {xs : List A} (h : H p = some (.lst vs)) (hF : F p = none) (hG : G p = none) (hμ : p ∉ μ) (r : AReps K μ F xs vs) (b : xs.all (A.below st.length) = true) :
    Sim K G (μ ++ [p]) F (st ++ [.lst xs]) H ∧ Ext μ F (μ ++ [p]) F := by
  have e : Ext μ F (μ ++ [p]) F := ⟨⟨[p], rfl⟩, Same.refl F⟩
  refine ⟨⟨S.sub, S.gsub, by simp [S.len], ?_, fun n a c h1 h2 => ?_, S.gF, fun a ha => ?_⟩, e⟩
  · rw [List.nodup_append]
    refine ⟨S.nd, by simp, fun a ha b hb => ?_⟩
    simp at hb
    subst hb
    intro z; subst z; exact hμ ha
  · by_cases hn : n < st.length
    · rw [List.getElem?_append_left (by rw [S.len]; exact hn)] at h1
      rw [List.getElem?_append_left hn] at h2
      exact (S.cell n a c h1 h2).ext e id rfl
    · have hn' : n = st.length := by
        have := (List.getElem?_eq_some_iff.mp h2).1
        simp at this
        omega
      subst hn'
      rw [List.getElem?_append_right (Nat.le_refl _)] at h2
      simp at h2
      subst h2
      rw [← S.len, List.getElem?_append_right (Nat.le_refl _)] at h1
      simp at h1
      subst h1
      exact ⟨hF, ⟨vs, h, r.ext e⟩, b⟩
  · rcases List.mem_append.mp ha with ha | ha
    · exact S.gμ a ha
    · simp at ha; subst ha; exact hG
theorem nodup_at {α : Type} {l : List α} {i j : Nat} {a : α} (nd : l.Nodup) (h1 : l[i]? = some a) (h2 : l[j]? = some a) : i = j := by
  obtain ⟨hi, e1⟩ := List.getElem?_eq_some_iff.mp h1
  obtain ⟨hj, e2⟩ := List.getElem?_eq_some_iff.mp h2
  have pw := List.pairwise_iff_getElem.mp nd
  rcases Nat.lt_trichotomy i j with h | h | h
  · exact absurd (e1.trans e2.symm) (pw i j hi hj h)
  · exact h
  · exact absurd (e2.trans e1.symm) (pw j i hj hi h)
/-- a live list is written -/
theorem Sim.write (S : Sim K G μ F st H) {n : Nat} {a : Addr} {ys xs : List A} {vs : List V} (ha : μ[n]? = some a) (hc : st[n]? = some (.lst ys)) (r : AReps K μ F xs vs) (b : xs.all (A.below n) = true) :
    Sim K G μ F (st.set n (.lst xs)) (upd H a (.lst vs)) := by
  have hF : F a = none := (S.cell n a _ ha hc).1
  have hG : G a = none := S.gμ a (List.mem_of_getElem? ha)
  refine ⟨fun c o e => ?_, fun c o e => ?_, by simp [S.len], S.nd, fun m c x h1 h2 => ?_, S.gF, S.gμ⟩
  · rw [upd_ne (fun z => by subst z; rw [hF] at e; cases e)]; exact S.sub _ _ e
  · rw [upd_ne (fun z => by subst z; rw [hG] at e; cases e)]; exact S.gsub _ _ e
  · by_cases hm : n = m
    · subst hm
      rw [ha] at h1; cases h1
      rw [List.getElem?_set_self (by rw [← S.len]; exact (List.getElem?_eq_some_iff.mp ha).1)] at h2
      cases h2
      exact ⟨hF, ⟨vs, upd_same, r⟩, b⟩
    · rw [List.getElem?_set_ne hm] at h2
      exact (S.cell m c x h1 h2).ext (Ext.refl _ _) id (by
        rw [upd_ne]
        intro z; subst z
        exact hm (nodup_at S.nd ha h1))
/-- a live list is closed -/
theorem Sim.close (S : Sim K G μ F st H) {n : Nat} {a : Addr} {xs : List A} {ds : List D} (ha : μ[n]? = some a) (hc : st[n]? = some (.lst xs)) (hv : vals xs = some ds) :
    ∃ F', Sim K G μ F' (st.set n (.frz ds)) H ∧ Ext μ F μ F' ∧ Rep K F' (.lst ds) (.ref a) ∧ ∀ p, p ≠ a → F p = none → F' p = none := by
  obtain ⟨hF, ⟨vs, hH, r⟩, _⟩ := S.cell n a _ ha hc
  have hG : G a = none := S.gμ a (List.mem_of_getElem? ha)
  have hs : Same F (upd F a (.lst vs)) := same_upd hF
  have e : Ext μ F μ (upd F a (.lst vs)) := ⟨⟨[], by simp⟩, hs⟩
  have rd : Reps K (upd F a (.lst vs)) ds vs := (r.vals hv).mono hs
  refine ⟨upd F a (.lst vs), ⟨fun c o q => ?_, S.gsub, by simp [S.len], S.nd, fun m c x h1 h2 => ?_, fun c o q => ?_, S.gμ⟩, e, .lst upd_same rd, fun p hp hq => by rw [upd_ne hp]; exact hq⟩
  · by_cases hc : c = a
    · subst hc; rw [upd_same] at q; cases q; exact hH
    · rw [upd_ne hc] at q; exact S.sub _ _ q
  · by_cases hm : n = m
    · subst hm
      rw [ha] at h1; cases h1
      rw [List.getElem?_set_self (by rw [← S.len]; exact (List.getElem?_eq_some_iff.mp ha).1)] at h2
      cases h2
      exact ⟨vs, upd_same, rd⟩
    · rw [List.getElem?_set_ne hm] at h2
      refine (S.cell m c x h1 h2).ext e (fun q => ?_) rfl
      rw [upd_ne (fun z => by subst z; exact hm (nodup_at S.nd ha h1))]; exact q
  · rw [upd_ne (fun z => by subst z; rw [hG] at q; cases q)]; exact S.gF _ _ q
theorem ARep.low {K : PySem.W.Frag} {μ : List Addr} {F : Hp} {a : A} {v : V} {n : Nat} (h : ARep K μ F a v) (b : a.below n = true) : ARep K (μ.take n) F a v := by
  cases a with
  | v d => exact h
  | ref m =>
    obtain ⟨x, h1, h2⟩ := h
    exact ⟨x, by rw [List.getElem?_take_of_lt (of_decide_eq_true b)]; exact h1, h2⟩
theorem AReps.low {K : PySem.W.Frag} {μ : List Addr} {F : Hp} {n : Nat} : ∀ {xs : List A} {vs : List V}, AReps K μ F xs vs → xs.all (A.below n) = true → AReps K (μ.take n) F xs vs
  | _, _, .nil, _ => .nil
  | _, _, .cons h r, b => by
    simp only [List.all_cons, Bool.and_eq_true] at b
    exact .cons (h.low b.1) (AReps.low r b.2)
theorem below_mono {n m : Nat} (h : n ≤ m) {xs : List A} (b : xs.all (A.below n) = true) : xs.all (A.below m) = true := by
  rw [List.all_eq_true] at b ⊢
  intro x hx
  have := b x hx
  cases x with
  | v d => rfl
  | ref k => exact decide_eq_true (Nat.lt_of_lt_of_le (of_decide_eq_true this) h)
/-- the younger lists are forgotten -/
theorem Sim.take (S : Sim K G μ F st H) (n : Nat) : Sim K G (μ.take n) F (st.take n) H := by
  refine ⟨S.sub, S.gsub, by simp [S.len], S.nd.sublist (List.take_sublist _ _), fun m a c h1 h2 => ?_, S.gF, fun a ha => S.gμ a (List.mem_of_mem_take ha)⟩
  have hm : m < n := by
    have := (List.getElem?_eq_some_iff.mp h1).1
    simp at this
    omega
  rw [List.getElem?_take_of_lt hm] at h1 h2
  have q := S.cell m a c h1 h2
  cases c with
  | lst xs =>
    obtain ⟨q1, ⟨vs, q2, q3⟩, q4⟩ := q
    exact ⟨q1, ⟨vs, q2, q3.low (below_mono (Nat.le_of_lt hm) q4)⟩, q4⟩
  | frz ds => exact q
theorem take_ext {μ μ' : List Addr} {F F' : Hp} (e : Ext μ F μ' F') : μ'.take μ.length = μ := by
  obtain ⟨⟨t, rfl⟩, _⟩ := e
  simp
/-- what others keep: a new object is put aside, comes back, is changed -/
theorem Sim.aside (S : Sim K G μ F st H) {p : Addr} {o : HO} (h : H p = some o) (hF : F p = none) (hG : G p = none) (hμ : p ∉ μ) : Sim K (upd G p o) μ F st H := by
  refine ⟨S.sub, fun b x e => ?_, S.len, S.nd, S.cell, fun a x e => ?_, fun a ha => ?_⟩
  · by_cases hb : b = p
    · subst hb; rw [upd_same] at e; cases e; exact h
    · rw [upd_ne hb] at e; exact S.gsub _ _ e
  · by_cases hb : a = p
    · subst hb; exact hF
    · rw [upd_ne hb] at e; exact S.gF _ _ e
  · rw [upd_ne (fun z => by subst z; exact hμ ha)]; exact S.gμ a ha
theorem Sim.back {p : Addr} {o : HO} (hG : G p = none) (S : Sim K (upd G p o) μ F st H) : Sim K G μ F st H ∧ H p = some o ∧ F p = none ∧ p ∉ μ :=
  ⟨⟨S.sub, (same_upd hG).trans S.gsub, S.len, S.nd, S.cell, fun a x e => S.gF a x (same_upd hG _ _ e), fun a ha => by
    have := S.gμ a ha
    by_cases hb : a = p
    · subst hb; rw [upd_same] at this; cases this
    · rw [upd_ne hb] at this; exact this⟩, S.gsub _ _ upd_same, S.gF _ _ upd_same, fun hm => by
    have := S.gμ p hm
    rw [upd_same] at this; cases this⟩
theorem Sim.other (S : Sim K G μ F st H) {p : Addr} {o : HO} (hF : F p = none) (hG : G p = none) (hμ : p ∉ μ) : Sim K G μ F st (upd H p o) :=
  ⟨fun b x e => by rw [upd_ne (fun z => by subst z; rw [hF] at e; cases e)]; exact S.sub _ _ e, fun b x e => by rw [upd_ne (fun z => by subst z; rw [hG] at e; cases e)]; exact S.gsub _ _ e, S.len, S.nd,
    fun n a c h1 h2 => (S.cell n a c h1 h2).ext (Ext.refl _ _) id (by rw [upd_ne (fun z => by subst z; exact hμ (List.mem_of_getElem? h1))]), S.gF, S.gμ⟩
end
end Dn

set_option linter.all false
set_option Elab.async false
set_option maxRecDepth 100000
/-! Jud: the readings of the functions, and the rules. -/
namespace Dn
open PySem PySem.Spec PyProof.Rows L2

abbrev St := List (Option V)
structure Kx where
  K : PySem.W.Frag
  mg : Str → Option Value
abbrev Cx.kx (X : Cx) : Kx := ⟨X.K, X.mg⟩

def ERep (K : PySem.W.Frag) (μ : List Addr) (F : Hp) (σd : Env) (σ : St) : Prop :=
  σd.length = σ.length ∧ ∀ (i : Nat) (a : A), σd[i]? = some (some a) → ∃ v, σ[i]? = some (some v) ∧ ARep K μ F a v
theorem ERep.ext {K : PySem.W.Frag} {μ μ1 : List Addr} {F F1 : Hp} {σd : Env} {σ : St} (h : ERep K μ F σd σ) (e : Ext μ F μ1 F1) : ERep K μ1 F1 σd σ :=
  ⟨h.1, fun i a q => by
    obtain ⟨v, h1, h2⟩ := h.2 i a q
    exact ⟨v, h1, h2.ext e⟩⟩
theorem ERep.set {K : PySem.W.Frag} {μ : List Addr} {F : Hp} {σd : Env} {σ : St} {a : A} {v : V} (h : ERep K μ F σd σ) (i : Nat) (r : ARep K μ F a v) : ERep K μ F (σd.set i (some a)) (σ.set i (some v)) := by
  refine ⟨by simp [h.1], fun j b q => ?_⟩
  by_cases hj : i = j
  · subst hj
    by_cases hl : i < σd.length
    · rw [List.getElem?_set_self hl] at q
      cases q
      exact ⟨v, by rw [List.getElem?_set_self (by rw [← h.1]; exact hl)], r⟩
    · rw [List.getElem?_eq_none (by simp; omega)] at q; cases q
  · rw [List.getElem?_set_ne hj] at q
    obtain ⟨w, h1, h2⟩ := h.2 j b q
    exact ⟨w, by rw [List.getElem?_set_ne hj]; exact h1, h2⟩
theorem ERep.start {K : PySem.W.Frag} {μ : List Addr} {F : Hp} {as : List A} {vs : List V} {n : Nat} (r : AReps K μ F as vs) :
    ERep K μ F (as.map some ++ List.replicate (n - as.length) none) (vs.map some ++ List.replicate (n - vs.length) none) := by
  refine ⟨by simp [r.len], fun i a q => ?_⟩
  by_cases hi : i < as.length
  · rw [List.getElem?_append_left (by simpa using hi), List.getElem?_map] at q
    cases e : as[i]? with
    | none => rw [e] at q; cases q
    | some b =>
      rw [e] at q; cases q
      obtain ⟨v, h1, h2⟩ := r.get e
      refine ⟨v, ?_, h2⟩
      rw [List.getElem?_append_left (by simpa [← r.len] using hi), List.getElem?_map, h1]
      rfl
  · rw [List.getElem?_append_right (by simpa using hi), List.getElem?_replicate] at q
    split at q <;> cases q

/-- an exception -/
def XRep (k : Kx) (F : Hp) (x : Exc) (cls : Value) (d : Option Addr) : Prop :=
  (∃ C, k.mg x.c = some (.ref C) ∧ cls = .ref C) ∧ ((x.ds = [] ∧ d = none) ∨ ∃ dd fs, d = some dd ∧ F dd = some (.xd fs) ∧ fs.map (·.1) = x.ks ∧ Reps k.K F x.ds (fs.map (·.2)))

def Post {α : Type} (k : Kx) (G : Hp) (μ : List Addr) (F : Hp) (E : XK) (P : α → Store → List Addr → Hp → Hp → Prop) : RE α → Prop
  | .ok a st => ∀ μ' F' H', Ext μ F μ' F' → Sim k.K G μ' F' st H' → P a st μ' F' H'
  | .err x st => ∀ μ' F' H' cls d, Ext μ F μ' F' → Sim k.K G μ' F' st H' → XRep k F' x cls d → E cls d H'
  | .bad => False
section
variable {α β : Type} {k : Kx} {G F F1 : Hp} {μ μ1 : List Addr} {E : XK}
theorem Post.ext {P : α → Store → List Addr → Hp → Hp → Prop} {r : RE α} (e : Ext μ F μ1 F1) (h : Post k G μ F E P r) : Post k G μ1 F1 E P r := by
  cases r with
  | ok a st => exact fun μ' F' H' e' => h μ' F' H' (e.trans e')
  | err x st => exact fun μ' F' H' cls d e' => h μ' F' H' cls d (e.trans e')
  | bad => exact h
theorem Post.mono {P P' : α → Store → List Addr → Hp → Hp → Prop} {r : RE α} (h : Post k G μ F E P r) (hp : ∀ a st μ' F' H', Ext μ F μ' F' → Sim k.K G μ' F' st H' → P a st μ' F' H' → P' a st μ' F' H') : Post k G μ F E P' r := by
  cases r with
  | ok a st => exact fun μ' F' H' e S => hp a st μ' F' H' e S (h μ' F' H' e S)
  | err x st => exact h
  | bad => exact h
theorem Post.bind {P : β → Store → List Addr → Hp → Hp → Prop} {r : RE α} {g : α → Store → RE β} (h : Post k G μ F E P (r.bind g)) : Post k G μ F E (fun a st μ' F' _ => Post k G μ' F' E P (g a st)) r := by
  cases r with
  | ok a st => exact fun μ' F' H' e _ => Post.ext e h
  | err x st => exact h
  | bad => exact h
theorem Post.bindE {P : β → Store → List Addr → Hp → Hp → Prop} {r : RE α} {g : α → Store → RE β} (h : Post k G μ F E P (r.bind g)) : Post k G μ F E (fun a st μ' F' _ => r = .ok a st ∧ Post k G μ' F' E P (g a st)) r := by
  cases r with
  | ok a st => exact fun μ' F' H' e _ => ⟨rfl, Post.ext e h⟩
  | err x st => exact h
  | bad => exact h
theorem Post.here {P : α → Store → List Addr → Hp → Hp → Prop} {r : RE α} (h : Post k G μ F E P r) : Post k G μ F E (fun a st μ' F' _ => r = .ok a st ∧ Post k G μ' F' E P (.ok a st)) r := by
  cases r with
  | ok a st => exact fun μ' F' H' e _ => ⟨rfl, Post.ext e h⟩
  | err x st => exact h
  | bad => exact h
theorem Post.eq {P : α → Store → List Addr → Hp → Hp → Prop} {r : RE α} (h : Post k G μ F E P r) : Post k G μ F E (fun a st μ' F' H' => r = .ok a st ∧ P a st μ' F' H') r := by
  cases r with
  | ok a st => exact fun μ' F' H' e S => ⟨rfl, h μ' F' H' e S⟩
  | err x st => exact h
  | bad => exact h
theorem Post.of {P : α → Store → List Addr → Hp → Hp → Prop} {o : Option α} {st : Store} (h : Post k G μ F E P (RE.of o st)) : ∃ a, o = some a ∧ ∀ μ' F' H', Ext μ F μ' F' → Sim k.K G μ' F' st H' → P a st μ' F' H' := by
  cases o with
  | none => exact False.elim h
  | some a => exact ⟨a, rfl, h⟩
end
def PostT (k : Kx) (G : Hp) (μ : List Addr) (F : Hp) (P : Env → Store → List Addr → Hp → Hp → Prop) : Option (Env × Store) → Prop
  | some p => ∀ μ' F' H', Ext μ F μ' F' → Sim k.K G μ' F' p.2 H' → P p.1 p.2 μ' F' H'
  | none => False
theorem PostT.ext {k : Kx} {G F F1 : Hp} {μ μ1 : List Addr} {P : Env → Store → List Addr → Hp → Hp → Prop} {r : Option (Env × Store)} (e : Ext μ F μ1 F1) (h : PostT k G μ F P r) : PostT k G μ1 F1 P r := by
  cases r with
  | some p => exact fun μ' F' H' e' => h μ' F' H' (e.trans e')
  | none => exact h

def PostS (k : Kx) (G : Hp) (μ : List Addr) (F : Hp) (W : WX) (D : Ends) : RS → Prop
  | .nx σd st => ∀ μ' F' H' σ, Ext μ F μ' F' → Sim k.K G μ' F' st H' → ERep k.K μ' F' σd σ → D.nx σ H'
  | .bk σd st => ∀ μ' F' H' σ, Ext μ F μ' F' → Sim k.K G μ' F' st H' → ERep k.K μ' F' σd σ → D.bk σ H'
  | .ct σd st => ∀ μ' F' H' σ, Ext μ F μ' F' → Sim k.K G μ' F' st H' → ERep k.K μ' F' σd σ → D.ct σ H'
  | .rt a st => ∀ μ' F' H' v, Ext μ F μ' F' → Sim k.K G μ' F' st H' → ARep k.K μ' F' a v → D.rt v H'
  | .err x σd st => ∀ μ' F' H' σ cls d, Ext μ F μ' F' → Sim k.K G μ' F' st H' → ERep k.K μ' F' σd σ → XRep k F' x cls d → W cls d σ H'
  | .bad => False
theorem PostS.ext {k : Kx} {G F F1 : Hp} {μ μ1 : List Addr} {W : WX} {D : Ends} {r : RS} (e : Ext μ F μ1 F1) (h : PostS k G μ F W D r) : PostS k G μ1 F1 W D r := by
  cases r with
  | nx σd st => exact fun μ' F' H' σ e' => h μ' F' H' σ (e.trans e')
  | bk σd st => exact fun μ' F' H' σ e' => h μ' F' H' σ (e.trans e')
  | ct σd st => exact fun μ' F' H' σ e' => h μ' F' H' σ (e.trans e')
  | rt a st => exact fun μ' F' H' v e' => h μ' F' H' v (e.trans e')
  | err x σd st => exact fun μ' F' H' σ cls d e' => h μ' F' H' σ cls d (e.trans e')
  | bad => exact h
/-- an expression's end within a statement -/
theorem PostS.st {α : Type} {k : Kx} {G F : Hp} {μ : List Addr} {W : WX} {D : Ends} {σd : Env} {σ : St} {r : RE α} {f : α → Store → RS} (R : ERep k.K μ F σd σ) (h : PostS k G μ F W D (r.st σd f)) :
    Post k G μ F (fun c d H => W c d σ H) (fun a st μ' F' _ => PostS k G μ' F' W D (f a st)) r := by
  cases r with
  | ok a st => exact fun μ' F' H' e _ => PostS.ext e h
  | err x st => exact fun μ' F' H' cls d e S X => h μ' F' H' σ cls d e S (R.ext e) X
  | bad => exact h

/-! the readings -/
def dE (k : Kx) (W : WX) (f : EF) : TE := fun σ H Q => ∃ G μ F st σd, Sim k.K G μ F st H ∧ ERep k.K μ F σd σ ∧
  Post k G μ F (fun c d H' => W c d σ H') (fun a _ μ' F' H' => ∀ v, ARep k.K μ' F' a v → Q v H') (f σd st)
def dT (k : Kx) (W : WX) (f : TF) : TT := fun σ H Q => ∃ G μ F st σd, Sim k.K G μ F st H ∧ ERep k.K μ F σd σ ∧
  Post k G μ F (fun c d H' => W c d σ H') (fun b _ _ _ H' => Q b H') (f σd st)
def dA (k : Kx) (W : WX) (f : Env → Store → RE (List A)) : TA := fun σ H Q => ∃ G μ F st σd, Sim k.K G μ F st H ∧ ERep k.K μ F σd σ ∧
  Post k G μ F (fun c d H' => W c d σ H') (fun as _ μ' F' H' => ∀ vs, AReps k.K μ' F' as vs → Q vs H') (f σd st)
/-- a new list, of nobody -/
def dL (k : Kx) (W : WX) (f : LF) : TE := fun σ H Q => ∃ G μ F st σd, Sim k.K G μ F st H ∧ ERep k.K μ F σd σ ∧
  Post k G μ F (fun c d H' => W c d σ H') (fun xs _ μ' F' H' => ∀ p vs, H' p = some (.lst vs) → F' p = none → p ∉ μ' → G p = none → AReps k.K μ' F' xs vs → Q (.ref p) H') (f σd st)
/-- the same but at the slots vs -/
def Agree (vs : List Nat) (σ σ' : St) : Prop := σ'.length = σ.length ∧ ∀ j, j ∉ vs → σ'[j]? = σ[j]?
def dG (k : Kx) (is : List Nat) (t : TgF) : TG := fun v σ H Q => ∃ G μ F st σd a, Sim k.K G μ F st H ∧ ERep k.K μ F σd σ ∧ ARep k.K μ F a v ∧
  PostT k G μ F (fun σd' _ μ' F' H' => ∀ σ', ERep k.K μ' F' σd' σ' → Agree is σ σ' → Q σ' H') (t a σd st)
def dGs (k : Kx) (is : List Nat) (ts : List TgF) : TGs := fun vs σ H Q => ∃ G μ F st σd ds, Sim k.K G μ F st H ∧ ERep k.K μ F σd σ ∧ Reps k.K F ds vs ∧
  PostT k G μ F (fun σd' _ μ' F' H' => ∀ σ', ERep k.K μ' F' σd' σ' → Agree is σ σ' → Q σ' H') (tgSeq ts ds σd st)
/-- the walked thing gives these items -/
def Yields (k : Kx) (μ : List Addr) (F : Hp) (s : Src) (J : It) : Prop := ∀ (G : Hp) (i : Nat) μ' F' st H, Ext μ F μ' F' → Sim k.K G μ' F' st H → s.g st →
  (∀ x, s.xs[i]? = some x → J.go i H ∧ ∀ v H', J.yld i H v H' → ∃ F'', Ext μ' F' μ' F'' ∧ Sim k.K G μ' F'' st H' ∧ ARep k.K μ' F'' x v) ∧ (i = s.xs.length → J.stop i H)
def dI (k : Kx) (W : WX) (f : IF) : TI := fun σ H R => ∃ G μ F st σd, Sim k.K G μ F st H ∧ ERep k.K μ F σd σ ∧
  Post k G μ F (fun c d H' => W c d σ H') (fun s _ μ' F' H' => ∀ J, Yields k μ' F' s J → R J H') (f σd st)
def dS (k : Kx) (W : WX) (f : SF) : TS := fun D σ H => ∃ G μ F st σd, Sim k.K G μ F st H ∧ ERep k.K μ F σd σ ∧ PostS k G μ F W D (f σd st)

theorem pe_weak {X : Cx} {e : Expr} {t t' : TE} (h : PE X e t) (w : ∀ σ H Q, t' σ H Q → t σ H Q) : PE X e t' := ⟨fun pins s σ H Q I q => h.run pins s σ H Q I (w _ _ _ q)⟩
theorem pt_weak {X : Cx} {e : Expr} {t t' : TT} (h : PT X e t) (w : ∀ σ H Q, t' σ H Q → t σ H Q) : PT X e t' := ⟨fun pins s σ H Q I q => h.run pins s σ H Q I (w _ _ _ q)⟩
theorem pw_weak {X : Cx} {e : Expr} {t t' : TT} (h : PW X e t) (w : ∀ σ H Q, t' σ H Q → t σ H Q) : PW X e t' := ⟨fun wh pins s σ H Q I q => h.run wh pins s σ H Q I (w _ _ _ q)⟩
theorem pa_weak {X : Cx} {e : List Expr} {t t' : TA} (h : PA X e t) (w : ∀ σ H Q, t' σ H Q → t σ H Q) : PA X e t' := ⟨fun pos pins s σ H Q I q => h.run pos pins s σ H Q I (w _ _ _ q)⟩
theorem ps_weak {X : Cx} {e : Stmt} {t t' : TS} (h : PS X e t) (w : ∀ D σ H, t' D σ H → t D σ H) : PS X e t' := ⟨fun pins s σ H D I q => h.run pins s σ H D I (w _ _ _ q)⟩
theorem pss_weak {X : Cx} {e : List Stmt} {t t' : TS} (h : PSs X e t) (w : ∀ D σ H, t' D σ H → t D σ H) : PSs X e t' := ⟨fun pins s σ H D I q => h.run pins s σ H D I (w _ _ _ q)⟩
theorem pi_weak {X : Cx} {tg e : Expr} {t t' : TI} (h : PI X tg e t) (w : ∀ σ H R, t' σ H R → t σ H R) : PI X tg e t' := ⟨fun pins s σ H R I q => h.run pins s σ H R I (w _ _ _ q)⟩
end Dn

set_option linter.all false
set_option Elab.async false
set_option maxRecDepth 100000
/-! Rul: the rules, expressions. -/
namespace Dn
open PySem PySem.Spec PyProof.Rows L2

section
variable {K : PySem.W.Frag} {G F H : Hp} {μ : List Addr} {st : Store}
theorem cell_of (S : Sim K G μ F st H) {n : Nat} {a : Addr} {c : Cell} (h : μ[n]? = some a) (e : st[n]? = some c) : CellOk K μ F H n a c := S.cell n a c h e
theorem view_rep (S : Sim K G μ F st H) {a : A} {v : V} {d : D} (r : ARep K μ F a v) (h : a.view st = some d) : Rep K H d v := by
  cases a with
  | v e => cases h; exact Rep.mono S.sub r
  | ref n =>
    obtain ⟨x, h1, rfl⟩ := r
    unfold A.view at h
    dsimp only at h
    split at h
    · rename_i xs q
      obtain ⟨_, ⟨vs, h2, h3⟩, _⟩ := cell_of S h1 q
      cases e : vals xs with
      | none => rw [e] at h; cases h
      | some ds => rw [e] at h; cases h; exact .lst h2 ((h3.vals e).mono S.sub)
    · rename_i ds q
      cases h
      obtain ⟨vs, h2, h3⟩ := cell_of S h1 q
      exact .lst (S.sub _ _ h2) (h3.mono S.sub)
    · cases h
theorem viewL_rep (S : Sim K G μ F st H) : ∀ {as : List A} {vs : List V} {ds : List D}, AReps K μ F as vs → viewL st as = some ds → Reps K H ds vs
  | _, _, _, .nil, e => by cases e; exact .nil
  | a :: r, _, ds, .cons h t, e => by
    have e' : ((a.view st).bind fun d => (viewL st r).map (d :: ·)) = some ds := e
    cases q : a.view st with
    | none => rw [q] at e'; cases e'
    | some d =>
      rw [q] at e'
      cases q2 : viewL st r with
      | none => rw [q2] at e'; cases e'
      | some es => rw [q2] at e'; cases e'; exact .cons (view_rep S h q) (viewL_rep S t q2)
theorem elems_rep (S : Sim K G μ F st H) {a : A} {v : V} {xs : List A} (r : ARep K μ F a v) (h : a.elems st = some xs) :
    ∃ p ys, v = .ref p ∧ (SqL K H p ys ∨ (SqT K H p ys ∧ ∃ ds, a = .v (.tup ds))) ∧ AReps K μ F xs ys := by
  cases a with
  | v e =>
    cases e with
    | lst ds => cases h; cases r with
      | lst h1 h2 => exact ⟨_, _, rfl, .inl (SqL.of (S.sub _ _ h1)), AReps.of h2⟩
    | ro ds => cases h; cases r with
      | ro h1 h2 => exact ⟨_, _, rfl, .inl (S.sub.seq h1), AReps.of h2⟩
    | tup ds => cases h; cases r with
      | tup h1 h2 => exact ⟨_, _, rfl, .inr ⟨SqT.of (S.sub _ _ h1), _, rfl⟩, AReps.of h2⟩
    | _ => cases h
  | ref n =>
    obtain ⟨x, h1, rfl⟩ := r
    unfold A.elems at h
    dsimp only at h
    split at h
    · rename_i ys q
      cases h
      obtain ⟨_, ⟨vs, h2, h3⟩, _⟩ := cell_of S h1 q
      exact ⟨_, _, rfl, .inl (SqL.of h2), h3⟩
    · rename_i ds q
      cases h
      obtain ⟨vs, h2, h3⟩ := cell_of S h1 q
      exact ⟨_, _, rfl, .inl (SqL.of (S.sub _ _ h2)), AReps.of h3⟩
    · cases h
theorem frz_ok (S : Sim K G μ F st H) {a : A} {v : V} {d : D} {st' : Store} (r : ARep K μ F a v) (h : a.frz st = some (d, st')) :
    ∃ F', Sim K G μ F' st' H ∧ Ext μ F μ F' ∧ Rep K F' d v ∧ ∀ p, p ∉ μ → F p = none → F' p = none := by
  cases a with
  | v e => cases h; exact ⟨F, S, Ext.refl _ _, r, fun p _ q => q⟩
  | ref n =>
    obtain ⟨x, h1, rfl⟩ := r
    unfold A.frz at h
    dsimp only at h
    split at h
    · rename_i xs q
      cases e : vals xs with
      | none => rw [e] at h; cases h
      | some ds =>
        rw [e] at h; cases h
        obtain ⟨hF, ⟨vs, hH, r⟩, _⟩ := cell_of S h1 q
        have hG : G x = none := S.gμ x (List.mem_of_getElem? h1)
        obtain ⟨F', h2, h3, h4, h5⟩ := S.close h1 q e
        exact ⟨F', h2, h3, h4, fun p hp hq => h5 p (fun z => hp (by rw [z]; exact List.mem_of_getElem? h1)) hq⟩
    · rename_i ds q
      cases h
      obtain ⟨vs, h2, h3⟩ := cell_of S h1 q
      exact ⟨F, S, Ext.refl _ _, .lst h2 h3, fun p _ q => q⟩
    · cases h
theorem frzL_ok : ∀ {F : Hp} {st : Store} {as : List A} {vs : List V} {ds : List D} {st' : Store}, Sim K G μ F st H → AReps K μ F as vs → frzL st as = some (ds, st') →
    ∃ F', Sim K G μ F' st' H ∧ Ext μ F μ F' ∧ Reps K F' ds vs ∧ ∀ p, p ∉ μ → F p = none → F' p = none
  | F, _, _, _, _, _, S, .nil, e => by cases e; exact ⟨F, S, Ext.refl _ _, .nil, fun p _ q => q⟩
  | F, st, a :: r, _, ds, st', S, .cons h t, e => by
    have e' : ((a.frz st).bind fun p => (frzL p.2 r).map fun q => (p.1 :: q.1, q.2)) = some (ds, st') := e
    cases q : a.frz st with
    | none => rw [q] at e'; cases e'
    | some p =>
      obtain ⟨d, st1⟩ := p
      rw [q] at e'
      have e2 : ((frzL st1 r).map fun q => (d :: q.1, q.2)) = some (ds, st') := e'
      cases q2 : frzL st1 r with
      | none => rw [q2] at e2; cases e2
      | some p2 =>
        obtain ⟨es, st2⟩ := p2
        rw [q2] at e2; cases e2
        obtain ⟨F1, S1, x1, r1, n1⟩ := frz_ok S h q
        obtain ⟨F2, S2, x2, r2, n2⟩ := frzL_ok S1 (AReps.ext x1 t) q2
        exact ⟨F2, S2, x1.trans x2, .cons (r1.mono x2.2) r2, fun p hp hq => n2 p hp (n1 p hp hq)⟩
end

section
variable {X : Cx} {W : WX} {k : Kx} {a b c e : Expr} {fa fb fc : EF} {pos : Pos}

theorem e_var {i : Nat} {x : Str} (hN : X.N[i]? = some x) (hv : Vis X.env.scope x) (hd : (x == ("__debug__" : Str)) = false := by decide) (hcd : (x == ("__classdict__" : Str)) = false := by decide) : PE X (.Name x pos) (dE k W (fVar i)) :=
  pe_weak (pe_var hN hv hd hcd) fun σ H Q ⟨G, μ, F, st, σd, S, R, h⟩ => by
    unfold fVar at h
    split at h
    · rename_i a q
      obtain ⟨v, h1, h2⟩ := R.2 _ _ q
      exact ⟨v, h1, h μ F H (Ext.refl _ _) S v h2⟩
    · exact h.elim
theorem e_tC {d : D} {v : V} (hp : PE X e (tC v)) (hr : ∀ F, Rep k.K F d v) : PE X e (dE k W (fC d)) :=
  pe_weak hp fun σ H Q ⟨G, μ, F, st, σd, S, R, h⟩ => h μ F H (Ext.refl _ _) S v (hr F)
theorem e_int {i : Int} {j : Nat} : PE X (.Constant (.int i) j pos) (dE k W (fC (.int i))) := e_tC pe_int fun _ => .int
theorem e_bl {b : Bool} {j : Nat} : PE X (.Constant (.bool b) j pos) (dE k W (fC (.bl b))) := e_tC pe_bl fun _ => .bl
theorem e_non {j : Nat} : PE X (.Constant .none j pos) (dE k W (fC .non)) := e_tC pe_non fun _ => .non
theorem e_str {x : Str} {j : Nat} : PE X (.Constant (.str x) j pos) (dE k W (fC (.str x))) := e_tC pe_str fun _ => .str

def OpOk (K : PySem.W.Frag) (r : R2) (o : D → D → Option D) : Prop := ∀ x y d e z H Q, Rep K H d x → Rep K H e y → o d e = some z → ∃ v, (∀ F, Rep K F z v) ∧ (Q v H → r x y H Q)
theorem bin_run {r : R2} {g : A → A → Store → RE A} (hr : ∀ G μ F st H (x y : A) (v w : V) (Q : VK) (E : XK), Sim k.K G μ F st H → ARep k.K μ F x v → ARep k.K μ F y w →
      Post k G μ F E (fun a _ μ' F' H' => ∀ v, ARep k.K μ' F' a v → Q v H') (g x y st) → r v w H Q) (σ : St) (H : Hp) (Q : VK)
    (h : dE k W (fun σ st => (fa σ st).bind fun x st1 => (fb σ st1).bind fun y st2 => g x y st2) σ H Q) : tOp r (dE k W fa) (dE k W fb) σ H Q := by
  obtain ⟨G, μ, F, st, σd, S, R, h⟩ := h
  refine ⟨G, μ, F, st, σd, S, R, h.bind.mono fun x st1 μ1 F1 H1 e1 S1 h1 v rv => ?_⟩
  refine ⟨G, μ1, F1, st1, σd, S1, R.ext e1, h1.bind.mono fun y st2 μ2 F2 H2 e2 S2 h2 w rw' => ?_⟩
  exact hr G μ2 F2 st2 H2 x y v w Q _ S2 (rv.ext e2) rw' h2
theorem un_run {r : V → Hp → VK → Prop} {g : A → Store → RE A} (hr : ∀ G μ F st H (x : A) (v : V) (Q : VK) (E : XK), Sim k.K G μ F st H → ARep k.K μ F x v →
      Post k G μ F E (fun a _ μ' F' H' => ∀ v, ARep k.K μ' F' a v → Q v H') (g x st) → r v H Q) (σ : St) (H : Hp) (Q : VK)
    (h : dE k W (fun σ st => (fa σ st).bind fun x st1 => g x st1) σ H Q) : dE k W fa σ H fun x H1 => r x H1 Q := by
  obtain ⟨G, μ, F, st, σd, S, R, h⟩ := h
  refine ⟨G, μ, F, st, σd, S, R, h.bind.mono fun x st1 μ1 F1 H1 e1 S1 h1 v rv => ?_⟩
  exact hr G μ1 F1 st1 H1 x v Q _ S1 rv h1
theorem op_run {r : R2} {o : D → D → Option D} (ok : OpOk k.K r o) (G : Hp) (μ : List Addr) (F : Hp) (st : Store) (H : Hp) (x y : A) (v w : V) (Q : VK) (E : XK) (S : Sim k.K G μ F st H) (rx : ARep k.K μ F x v) (ry : ARep k.K μ F y w)
    (h : Post k G μ F E (fun a _ μ' F' H' => ∀ v, ARep k.K μ' F' a v → Q v H') (RE.of ((x.view st).bind fun d => (y.view st).bind fun e => (o d e).map .v) st)) : r v w H Q := by
  obtain ⟨a, ha, h⟩ := h.of
  cases q1 : x.view st with
  | none => rw [q1] at ha; cases ha
  | some d =>
    rw [q1] at ha
    cases q2 : y.view st with
    | none => rw [q2] at ha; cases ha
    | some e =>
      rw [q2] at ha
      have ha' : (o d e).map A.v = some a := ha
      cases q3 : o d e with
      | none => rw [q3] at ha'; cases ha'
      | some z =>
        rw [q3] at ha'; cases ha'
        obtain ⟨u, hu, hq⟩ := ok v w d e z H Q (view_rep S rx q1) (view_rep S ry q2) q3
        exact hq (h μ F H (Ext.refl _ _) S u (hu F))
theorem e_op {op : Operator} {r : R2} {o : D → D → Option D} (ho : OpR X (binaryOp op) r) (ok : OpOk k.K r o) (ha : PE X a (dE k W fa)) (hb : PE X b (dE k W fb)) : PE X (.BinOp a op b pos) (dE k W (fOp o fa fb)) :=
  pe_weak (pe_op ho ha hb) (bin_run (op_run ok))
theorem e_cmp {op : CmpOp} {r : R2} {o : D → D → Option D} (ho : OpR X (compareOp op) r) (ok : OpOk k.K r o) (ha : PE X a (dE k W fa)) (hb : PE X b (dE k W fb)) (hm : behindInMarks op b = false) : PE X (.Compare a [op] [b] pos) (dE k W (fOp o fa fb)) :=
  pe_weak (pe_cmpR ho ha hb hm) (bin_run (op_run ok))
theorem t_cmp {op : CmpOp} {r : R2} {o : D → D → Option D} (ho : OpR X (compareOp op) r) (ok : OpOk k.K r o) (ha : PE X a (dE k W fa)) (hb : PE X b (dE k W fb)) (hm : behindInMarks op b = false) : PT X (.Compare a [op] [b] pos) (dT k W (tCmp (fOp o fa fb))) :=
  pt_weak (pt_cmpR ho ha hb hm) fun σ H Q h => by
    refine bin_run (op_run ok) σ H (fun x H' => ∃ k, x = .bl k ∧ Q k H') ?_
    obtain ⟨G, μ, F, st, σd, S, R, h⟩ := h
    refine ⟨G, μ, F, st, σd, S, R, (Post.bind h).mono fun x st1 μ1 F1 H1 e1 S1 h1 v rv => ?_⟩
    obtain ⟨bb, hb, h2⟩ := h1.of
    cases x with
    | ref n => cases hb
    | v d => cases d <;> first
      | (cases hb; cases rv; exact ⟨_, rfl, h2 μ1 F1 H1 (Ext.refl _ _) S1⟩)
      | cases hb
theorem e_un {op : UnaryOp} {r : V → Hp → VK → Prop} {o : D → Option D} (ho : UnR X (unaryOp op) r) (ok : ∀ x d z H Q, Rep k.K H d x → o d = some z → ∃ v, (∀ F, Rep k.K F z v) ∧ (Q v H → r x H Q)) (ha : PE X a (dE k W fa)) : PE X (.UnaryOp op a pos) (dE k W (fUn o fa)) :=
  pe_weak (pe_un ho ha) (un_run fun G μ F st H x v Q E S rx h => by
    obtain ⟨y, hy, h⟩ := h.of
    cases q1 : x.view st with
    | none => rw [q1] at hy; cases hy
    | some d =>
      rw [q1] at hy
      have hy' : (o d).map A.v = some y := hy
      cases q3 : o d with
      | none => rw [q3] at hy'; cases hy'
      | some z =>
        rw [q3] at hy'; cases hy'
        obtain ⟨u, hu, hq⟩ := ok v d z H Q (view_rep S rx q1) q3
        exact hq (h μ F H (Ext.refl _ _) S u (hu F)))

/-! operations -/
theorem k_int2 {K : PySem.W.Frag} {C : Int → Int → Prop} {g : Int → Int → V} {o : D → D → Option D} (h : ∀ d e z, o d e = some z → ∃ i j, d = .int i ∧ e = .int j ∧ C i j ∧ ∀ F, Rep K F z (g i j)) : OpOk K (rI C g) o := by
  intro x y d e z H Q rx ry q
  obtain ⟨i, j, rfl, rfl, hc, hz⟩ := h d e z q
  cases rx; cases ry
  exact ⟨g i j, hz, fun hq => ⟨i, j, rfl, rfl, hc, hq⟩⟩
theorem k_int0 {K : PySem.W.Frag} {g : Int → Int → V} {o : D → D → Option D} (h : ∀ d e z, o d e = some z → ∃ i j, d = .int i ∧ e = .int j ∧ ∀ F, Rep K F z (g i j)) : OpOk K (rI0 g) o := by
  intro x y d e z H Q rx ry q
  obtain ⟨i, j, rfl, rfl, hz⟩ := h d e z q
  cases rx; cases ry
  exact ⟨g i j, hz, fun hq => ⟨i, j, rfl, rfl, hq⟩⟩
section
variable {K : PySem.W.Frag}
theorem k_add : OpOk K (rI0 fun i j => .int (i + j)) oAdd := k_int0 fun d e z h => by
  cases d <;> cases e <;> first
    | (cases h; exact ⟨_, _, rfl, rfl, fun _ => .int⟩)
    | cases h
theorem k_sub : OpOk K (rI0 fun i j => .int (i - j)) oSub := k_int0 fun d e z h => by
  cases d <;> cases e <;> first
    | (cases h; exact ⟨_, _, rfl, rfl, fun _ => .int⟩)
    | cases h
theorem k_lt : OpOk K (rI0 fun i j => .bl (decide (i < j))) oLt := k_int0 fun d e z h => by
  cases d <;> cases e <;> first
    | (cases h; exact ⟨_, _, rfl, rfl, fun _ => by rw [dec_eq]; exact .bl⟩)
    | cases h
theorem k_le : OpOk K (rI0 fun i j => .bl (decide (i ≤ j))) oLe := k_int0 fun d e z h => by
  cases d <;> cases e <;> first
    | (cases h; exact ⟨_, _, rfl, rfl, fun _ => by rw [dec_eq]; exact .bl⟩)
    | cases h
theorem k_gt : OpOk K (rI0 fun i j => .bl (decide (j < i))) oGt := k_int0 fun d e z h => by
  cases d <;> cases e <;> first
    | (cases h; exact ⟨_, _, rfl, rfl, fun _ => by rw [dec_eq]; exact .bl⟩)
    | cases h
theorem k_ge : OpOk K (rI0 fun i j => .bl (decide (j ≤ i))) oGe := k_int0 fun d e z h => by
  cases d <;> cases e <;> first
    | (cases h; exact ⟨_, _, rfl, rfl, fun _ => by rw [dec_eq]; exact .bl⟩)
    | cases h
theorem mulOk_ok {i j : Int} (h : mulOk i j) : IntMulOk i j := h.elim (fun h => CMul.ok h) fun h => (wide_mul h.1 h.2 (by decide) (by decide) (by decide)).ok
def CDivB (_ j : Int) : Prop := divOk j
theorem op_mulB {X : Cx} : OpR X (binaryOp .Mult) (rI mulOk fun i j => .int (i * j)) := opI fun _ _ _ _ _ _ _ hc q => _root_.PyProof.Rows.mul_int q (mulOk_ok hc)
theorem op_divB {X : Cx} : OpR X (binaryOp .FloorDiv) (rI CDivB fun i j => .int (i.fdiv j)) := opI fun _ _ _ _ _ _ _ hc q => floordiv_int hc.1 q (.inl (PyProof.noPylong_of_log2 (Nat.lt_of_lt_of_le (PySem.Flt.log2_lt_of (by decide) hc.2) (by decide))))
theorem k_mul : OpOk K (rI mulOk fun i j => .int (i * j)) oMul := k_int2 fun d e z h => by
  cases d <;> cases e <;> first
    | (unfold oMul at h; dsimp only at h; unfold gd at h; split at h
       · rename_i q; cases h; exact ⟨_, _, rfl, rfl, q, fun _ => .int⟩
       · cases h)
    | cases h
theorem k_div : OpOk K (rI CDivB fun i j => .int (i.fdiv j)) oDiv := k_int2 fun d e z h => by
  cases d <;> cases e <;> first
    | (unfold oDiv at h; dsimp only at h; unfold gd at h; split at h
       · rename_i q; cases h; exact ⟨_, _, rfl, rfl, q, fun _ => .int⟩
       · cases h)
    | cases h
theorem k_mod : OpOk K (rI (fun _ j => j ≠ 0) fun i j => .int (i.fmod j)) oMod := k_int2 fun d e z h => by
  cases d <;> cases e <;> first
    | (unfold oMod at h; dsimp only at h; unfold gd at h; split at h
       · rename_i q; cases h; exact ⟨_, _, rfl, rfl, q, fun _ => .int⟩
       · cases h)
    | cases h
theorem k_pow : OpOk K (rI CPow fun i j => .int (i ^ j.toNat)) oPow := k_int2 fun d e z h => by
  cases d <;> cases e <;> first
    | (unfold oPow at h; dsimp only at h; unfold gd at h; split at h
       · rename_i q; cases h; exact ⟨_, _, rfl, rfl, q, fun _ => .int⟩
       · cases h)
    | cases h
theorem k_neg (x : V) (d z : D) (H : Hp) (Q : VK) (r : Rep K H d x) (h : oNeg d = some z) : ∃ v, (∀ F, Rep K F z v) ∧ (Q v H → rU (fun i => .int (-i)) x H Q) := by
  cases d <;> first
    | (cases h; cases r; exact ⟨_, fun _ => .int, fun q => ⟨_, rfl, q⟩⟩)
    | cases h
theorem k_eqS : OpOk K rEq oEqS := by
  intro x y d e z H Q rx ry h
  cases d <;> cases e <;> first
    | (cases h; cases rx; cases ry; exact ⟨_, fun _ => .bl, fun q => ⟨rfl, by simpa [dec_eq] using q⟩⟩)
    | cases h
theorem k_neS : OpOk K rNe oNeS := by
  intro x y d e z H Q rx ry h
  cases d <;> cases e <;> first
    | (cases h; cases rx; cases ry; exact ⟨_, fun _ => .bl, fun q => ⟨rfl, by simpa [dec_eq] using q⟩⟩)
    | cases h
theorem k_isN : OpOk K (fun x y H Q => y = .non ∧ Q (.bl (decide (x = .non))) H) oIsN := by
  intro x y d e z H Q rx ry h
  cases e <;> first
    | (cases ry; cases d <;> (cases h; cases rx; exact ⟨_, fun _ => .bl, fun q => ⟨rfl, q⟩⟩))
    | cases h
theorem k_notN : OpOk K (fun x y H Q => y = .non ∧ Q (.bl (!decide (x = .non))) H) oNotN := by
  intro x y d e z H Q rx ry h
  cases e <;> first
    | (cases ry; cases d <;> (cases h; cases rx; exact ⟨_, fun _ => .bl, fun q => ⟨rfl, q⟩⟩))
    | cases h
end
end
end Dn

set_option linter.all false
set_option Elab.async false
set_option maxRecDepth 100000
/-! Rul2: arguments, calls, displays, subscripts, tests. -/
namespace Dn
open PySem PySem.Spec PyProof.Rows L2

theorem sizeMax_eq : sizeMax = sizeLine := by rw [sizeLine_eq]; rfl
theorem fArgs_len : ∀ (fs : List EF) (σ : Env) (st : Store) (as : List A) (st' : Store), fArgs fs σ st = .ok as st' → as.length = fs.length
  | [], σ, st, as, st', h => by cases h; rfl
  | f :: fs, σ, st, as, st', h => by
    have h' : ((f σ st).bind fun a st1 => (fArgs fs σ st1).bind fun r st2 => .ok (a :: r) st2) = .ok as st' := h
    cases q : f σ st with
    | ok a st1 =>
      rw [q] at h'
      have h2 : ((fArgs fs σ st1).bind fun r st2 => RE.ok (a :: r) st2) = .ok as st' := h'
      cases q2 : fArgs fs σ st1 with
      | ok r st2 =>
        rw [q2] at h2; cases h2
        rw [List.length_cons, List.length_cons, fArgs_len fs σ st1 r _ q2]
      | err x s => rw [q2] at h2; cases h2
      | bad => rw [q2] at h2; cases h2
    | err x s => rw [q] at h'; cases h'
    | bad => rw [q] at h'; cases h'

section
variable {X : Cx} {W : WX} {k : Kx} {a b c e : Expr} {es : List Expr} {fa fb fc f : EF} {fs : List EF} {l : LF} {pos : Pos} {x : Str} {p : Pos}
theorem a_nil : PA X [] (dA k W (fArgs [])) := pa_weak pa_nil fun σ H Q ⟨G, μ, F, st, σd, S, R, h⟩ => h μ F H (Ext.refl _ _) S [] .nil
theorem a_cons (ha : PE X e (dE k W f)) (hr : PA X es (dA k W (fArgs fs))) (hs : starEach (e :: es) X.env = (false, eval e X.env) :: starEach es X.env := by rfl) : PA X (e :: es) (dA k W (fArgs (f :: fs))) :=
  pa_weak (pa_cons ha hr hs) fun σ H Q ⟨G, μ, F, st, σd, S, R, h⟩ => by
    refine ⟨G, μ, F, st, σd, S, R, (Post.bind (show Post k G μ F _ _ ((f σd st).bind fun a st1 => (fArgs fs σd st1).bind fun r st2 => .ok (a :: r) st2) from h)).mono fun x st1 μ1 F1 H1 e1 S1 h1 v rv => ?_⟩
    refine ⟨G, μ1, F1, st1, σd, S1, R.ext e1, h1.bind.mono fun r st2 μ2 F2 H2 e2 S2 h2 ws rws => ?_⟩
    exact h2 μ2 F2 H2 (Ext.refl _ _) S2 (v :: ws) (.cons (rv.ext e2) rws)

def CallOk (K : PySem.W.Frag) (r : List V → Hp → VK → Prop) (o : List D → Option D) : Prop := ∀ vs ds z H Q, Reps K H ds vs → o ds = some z → ∃ v, (∀ F, Rep K F z v) ∧ (Q v H → r vs H Q)
theorem args_run {r : List V → Hp → VK → Prop} {g : List A → Store → RE A} (hr : ∀ G μ F st H (xs : List A) (vs : List V) (Q : VK) (E : XK), Sim k.K G μ F st H → AReps k.K μ F xs vs →
      Post k G μ F E (fun a _ μ' F' H' => ∀ v, ARep k.K μ' F' a v → Q v H') (g xs st) → r vs H Q) (σ : St) (H : Hp) (Q : VK)
    (h : dE k W (fun σ st => (fArgs fs σ st).bind fun xs st1 => g xs st1) σ H Q) : tCB r (dA k W (fArgs fs)) σ H Q := by
  obtain ⟨G, μ, F, st, σd, S, R, h⟩ := h
  refine ⟨G, μ, F, st, σd, S, R, h.bind.mono fun x st1 μ1 F1 H1 e1 S1 h1 v rv => ?_⟩
  exact hr G μ1 F1 st1 H1 x v Q _ S1 rv h1
theorem call_run {r : List V → Hp → VK → Prop} {o : List D → Option D} (ok : CallOk k.K r o) (G : Hp) (μ : List Addr) (F : Hp) (st : Store) (H : Hp) (xs : List A) (vs : List V) (Q : VK) (E : XK) (S : Sim k.K G μ F st H) (rx : AReps k.K μ F xs vs)
    (h : Post k G μ F E (fun a _ μ' F' H' => ∀ v, ARep k.K μ' F' a v → Q v H') (RE.of ((viewL st xs).bind fun ds => (o ds).map .v) st)) : r vs H Q := by
  obtain ⟨y, hy, h⟩ := h.of
  cases q1 : viewL st xs with
  | none => rw [q1] at hy; cases hy
  | some ds =>
    rw [q1] at hy
    have hy' : (o ds).map A.v = some y := hy
    cases q3 : o ds with
    | none => rw [q3] at hy'; cases hy'
    | some z =>
      rw [q3] at hy'; cases hy'
      obtain ⟨u, hu, hq⟩ := ok vs ds z H Q (viewL_rep S rx q1) q3
      exact hq (h μ F H (Ext.refl _ _) S u (hu F))
theorem e_callB {id : String} {r : List V → Hp → VK → Prop} {o : List D → Option D} (hc : CallR X (.builtin id) r) (ok : CallOk k.K r o) (hg : Gl X x) (hm : X.mg x = none) (hv : bootBuiltins x = some (.builtin id)) (ha : PA X (e :: es) (dA k W (fArgs fs))) (hn : x ≠ "__name__" := by decide) (hdb : (x == ("__debug__" : Str)) = false := by decide)
    (he : starEach (e :: es) X.env = (false, eval e X.env) :: starEach es X.env := by rfl) (hpl : (backTo pos (starEach es X.env)).any (·.1) = false := by rfl) : PE X (.Call (.Name x p) (e :: es) [] pos) (dE k W (fB o fs)) :=
  pe_weak (pe_callB hc hg hm hv ha hn hdb he hpl) (args_run (call_run ok))
theorem e_callTy {T : String} {r : List V → Hp → VK → Prop} {o : List D → Option D} (hc : CallR X (.type T) r) (ok : CallOk k.K r o) (hg : Gl X x) (hm : X.mg x = none) (hv : bootBuiltins x = some (.type T)) (ha : PA X (e :: es) (dA k W (fArgs fs))) (hn : x ≠ "__name__" := by decide) (hdb : (x == ("__debug__" : Str)) = false := by decide)
    (he : starEach (e :: es) X.env = (false, eval e X.env) :: starEach es X.env := by rfl) (hpl : (backTo pos (starEach es X.env)).any (·.1) = false := by rfl) : PE X (.Call (.Name x p) (e :: es) [] pos) (dE k W (fB o fs)) :=
  pe_weak (pe_callTy hc hg hm hv ha hn hdb he hpl) (args_run (call_run ok))
section
variable {K : PySem.W.Frag}
theorem k_abs : CallOk K (fun xs H Q => ∃ i, xs = [.int i] ∧ Q (.int (if i < 0 then -i else i)) H) bAbs := fun vs ds z H Q r h => by
  match ds, r, h with
  | [.int i], .cons .int .nil, h => cases h; exact ⟨_, fun _ => .int, fun q => ⟨i, rfl, q⟩⟩
theorem k_max2 : CallOk K (fun xs H Q => ∃ i j, xs = [.int i, .int j] ∧ Q (.int (if j > i then j else i)) H) bMax2 := fun vs ds z H Q r h => by
  match ds, r, h with
  | [.int i, .int j], .cons .int (.cons .int .nil), h => cases h; exact ⟨_, fun _ => .int, fun q => ⟨i, j, rfl, q⟩⟩
theorem k_min2 : CallOk K (fun xs H Q => ∃ i j, xs = [.int i, .int j] ∧ Q (.int (if j < i then j else i)) H) bMin2 := fun vs ds z H Q r h => by
  match ds, r, h with
  | [.int i, .int j], .cons .int (.cons .int .nil), h => cases h; exact ⟨_, fun _ => .int, fun q => ⟨i, j, rfl, q⟩⟩
theorem k_intc : CallOk K (fun xs H Q => (∃ i, xs = [.int i] ∧ Q (.int i) H) ∨ ∃ k, xs = [.bl k] ∧ Q (.int (if k then 1 else 0)) H) bInt := fun vs ds z H Q r h => by
  match ds, r, h with
  | [.int i], .cons .int .nil, h => cases h; exact ⟨_, fun _ => .int, fun q => .inl ⟨i, rfl, q⟩⟩
  | [.bl i], .cons .bl .nil, h => cases h; exact ⟨_, fun _ => .int, fun q => .inr ⟨i, rfl, q⟩⟩
theorem ints_rep {H : Hp} : ∀ {ds : List D} {vs : List V} {ns : List Int}, Reps K H ds vs → intsD ds = some ns → vs = ns.map V.int ∧ ds = ns.map D.int
  | _, _, _, .nil, h => by cases h; exact ⟨rfl, rfl⟩
  | .int i :: r, _, ns, .cons .int t, h => by
    have h' : (intsD r).map (i :: ·) = some ns := h
    cases q : intsD r with
    | none => rw [q] at h'; cases h'
    | some ms =>
      rw [q] at h'; cases h'
      obtain ⟨e1, e2⟩ := ints_rep t q
      exact ⟨by rw [e1]; rfl, by rw [e2]; rfl⟩
theorem k_sum : CallOk K (rSum K) bSum := fun vs ds z H Q r h => by
  match ds, r, h with
  | [.lst xs], .cons (.lst h1 h2) .nil, h =>
    have h' : (intsD xs).map (fun ns => D.int ns.sum) = some z := h
    cases q : intsD xs with
    | none => rw [q] at h'; cases h'
    | some ns =>
      rw [q] at h'; cases h'
      obtain ⟨e1, _⟩ := ints_rep h2 q
      subst e1
      exact ⟨_, fun _ => .int, fun q => ⟨_, ns, rfl, SqL.of h1, q⟩⟩
end
/-- len(x) -/
theorem e_len (hg : Gl X ("len" : Str)) (hm : X.mg ("len" : Str) = none) (hk : k.K = X.K) (ha : PE X e (dE k W f)) (hs : starEach [e] X.env = (false, eval e X.env) :: starEach [] X.env := by rfl) (hpl : (backTo pos (starEach [] X.env)).any (·.1) = false := by rfl) : PE X (.Call (.Name ("len" : Str) p) [e] [] pos) (dE k W (fLen f)) :=
  pe_weak (pe_callB call_len_seq hg hm PySem.boot_len (pa_cons ha pa_nil hs) (by decide) (by decide) hs hpl) fun σ H Q ⟨G, μ, F, st, σd, S, R, h⟩ => by
    refine ⟨G, μ, F, st, σd, S, R, (Post.bind h).mono fun x st1 μ1 F1 H1 e1 S1 h1 v rv => ?_⟩
    obtain ⟨y, hy, h⟩ := h1.of
    cases q1 : x.elems st1 with
    | none => rw [q1] at hy; cases hy
    | some xs =>
      rw [q1] at hy; cases hy
      obtain ⟨p, ys, rfl, hsq, hr⟩ := elems_rep S1 rv q1
      rw [hk] at hsq
      exact ⟨p, ys, rfl, hsq.imp id fun z => z.1, h μ1 F1 H1 (Ext.refl _ _) S1 _ (by rw [← hr.len]; exact .int)⟩
/-- (a, b, ..) -/
theorem e_tup {x1} (h : PA X es (dA k W (fArgs fs))) (hl : fs.length ≤ 1000 := by decide) : PE X (.Tuple es x1 pos) (dE k W (fTup fs)) :=
  pe_weak (pe_tup h) fun σ H Q ⟨G, μ, F, st, σd, S, R, h⟩ => by
    refine ⟨G, μ, F, st, σd, S, R, (Post.bindE h).mono fun as st1 μ1 F1 H1 e1 S1 ⟨hq, h1⟩ vs rv => ?_⟩
    refine ⟨?_, fun p hp => ?_⟩
    · rw [← rv.len, fArgs_len _ _ _ _ _ hq, sizeLine_eq]
      omega
    · split at h1
      · rename_i ds st2 q
        obtain ⟨F2, S2, x2, r2, n2⟩ := frzL_ok S1 rv q
        obtain ⟨S3, x3⟩ := S2.new (o := .tup vs) hp
        exact h1 μ1 _ _ (x2.trans x3) S3 _ (Rep.tup upd_same (r2.mono x3.2))
      · exact h1.elim
theorem e_frz (h : PE X e (dL k W l)) : PE X e (dE k W (fFrz l)) :=
  pe_weak h fun σ H Q ⟨G, μ, F, st, σd, S, R, h⟩ => by
    refine ⟨G, μ, F, st, σd, S, R, (Post.bind h).mono fun as st1 μ1 F1 H1 e1 S1 h1 p vs hp hF hμ hG rv => ?_⟩
    split at h1
    · rename_i ds st2 q
      obtain ⟨F2, S2, x2, r2, n2⟩ := frzL_ok S1 rv q
      obtain ⟨S3, x3⟩ := S2.keep hp (n2 p hμ hF) hG hμ
      exact h1 μ1 _ _ (x2.trans x3) S3 _ (Rep.lst upd_same (r2.mono x3.2))
    · exact h1.elim
theorem e_live (h : PE X e (dL k W l)) : PE X e (dE k W (fLive l)) :=
  pe_weak h fun σ H Q ⟨G, μ, F, st, σd, S, R, h⟩ => by
    refine ⟨G, μ, F, st, σd, S, R, (Post.bind h).mono fun as st1 μ1 F1 H1 e1 S1 h1 p vs hp hF hμ hG rv => ?_⟩
    split at h1
    · rename_i q
      obtain ⟨S2, x2⟩ := S1.push hp hF hG hμ rv q
      exact h1 _ _ _ x2 S2 _ ⟨p, by rw [← S1.len]; simp, rfl⟩
    · exact h1.elim
/-- what makes a new list -/
theorem new_run {Q : VK} {E : XK} {G F H : Hp} {μ : List Addr} {st : Store} {xs : List A} {vs : List V} {p : Addr} (S : Sim k.K G μ F st H) (rv : AReps k.K μ F xs vs) (hp : H p = none)
    (h : Post k G μ F E (fun xs _ μ' F' H' => ∀ p vs, H' p = some (.lst vs) → F' p = none → p ∉ μ' → G p = none → AReps k.K μ' F' xs vs → Q (.ref p) H') (.ok xs st)) : Q (.ref p) (upd H p (.lst vs)) :=
  h μ F _ (Ext.refl _ _) (S.heap hp) p vs upd_same (S.freeF hp) (S.notin hp) (S.freeG hp) rv
theorem l_disp (h : PA X es (dA k W (fArgs fs))) (hl : fs.length ≤ 1000 := by decide) : PE X (.List es pos) (dL k W (lDisp fs)) :=
  pe_weak (pe_lst h) fun σ H Q ⟨G, μ, F, st, σd, S, R, h⟩ => by
    have h2 := Post.here (r := fArgs fs σd st) h
    refine ⟨G, μ, F, st, σd, S, R, h2.mono fun as st1 μ1 F1 H1 e1 S1 ⟨hq, h1⟩ vs rv => ?_⟩
    refine ⟨?_, fun p hp => new_run S1 rv hp h1⟩
    rw [← rv.len, fArgs_len _ _ _ _ _ hq, sizeLine_eq]
    omega
theorem l_list (hg : Gl X ("list" : Str)) (hm : X.mg ("list" : Str) = none) (hk : k.K = X.K) (ha : PE X e (dE k W f)) (hs : starEach [e] X.env = (false, eval e X.env) :: starEach [] X.env := by rfl) (hpl : (backTo pos (starEach [] X.env)).any (·.1) = false := by rfl) : PE X (.Call (.Name ("list" : Str) p) [e] [] pos) (dL k W (lList f)) :=
  pe_weak (pe_callTy call_list_of hg hm (by decide +kernel) (pa_cons ha pa_nil hs) (by decide) (by decide) hs hpl) fun σ H Q ⟨G, μ, F, st, σd, S, R, h⟩ => by
    refine ⟨G, μ, F, st, σd, S, R, (Post.bind h).mono fun x st1 μ1 F1 H1 e1 S1 h1 v rv => ?_⟩
    obtain ⟨xs, q1, _⟩ := h1.of
    obtain ⟨p, ys, rfl, hsq, hr⟩ := elems_rep S1 rv q1
    rw [q1] at h1
    rw [hk] at hsq
    exact ⟨p, ys, rfl, hsq.imp id fun z => z.1, fun l hl => new_run S1 hr hl h1⟩
theorem e_tuple (hg : Gl X ("tuple" : Str)) (hm : X.mg ("tuple" : Str) = none) (hk : k.K = X.K) (ha : PE X e (dE k W f)) (hs : starEach [e] X.env = (false, eval e X.env) :: starEach [] X.env := by rfl) (hpl : (backTo pos (starEach [] X.env)).any (·.1) = false := by rfl) : PE X (.Call (.Name ("tuple" : Str) p) [e] [] pos) (dE k W (fTuple f)) :=
  pe_weak (pe_callTy call_tuple_of hg hm (by decide +kernel) (pa_cons ha pa_nil hs) (by decide) (by decide) hs hpl) fun σ H Q ⟨G, μ, F, st, σd, S, R, h⟩ => by
    refine ⟨G, μ, F, st, σd, S, R, (Post.bind h).mono fun x st1 μ1 F1 H1 e1 S1 h1 v rv => ?_⟩
    split at h1
    · rename_i xs q1
      obtain ⟨p, ys, rfl, hsq, hr⟩ := elems_rep S1 rv q1
      split at h1
      · rename_i ds st2 q2
        obtain ⟨F2, S2, x2, r2, n2⟩ := frzL_ok S1 hr q2
        refine ⟨p, ys, rfl, ?_⟩
        rw [hk] at hsq
        rcases hsq with hsq | hsq
        · refine .inl ⟨hsq, fun l hl => ?_⟩
          obtain ⟨S3, x3⟩ := S2.new (o := .tup ys) hl
          exact h1 μ1 _ _ (x2.trans x3) S3 _ (Rep.tup upd_same (r2.mono x3.2))
        · obtain ⟨hsq, ds', rfl⟩ := hsq
          refine .inr ⟨hsq, ?_⟩
          cases q1
          rw [frzL_vals] at q2
          cases q2
          exact h1 μ1 F1 H1 (Ext.refl _ _) S1 _ rv
      · exact h1.elim
    · exact h1.elim
end
end Dn

set_option linter.all false
set_option Elab.async false
set_option maxRecDepth 100000
/-! Rul3: subscripts, tests, iterables, targets. -/
namespace Dn
open PySem PySem.Spec PyProof.Rows L2

section
variable {X : Cx} {W : WX} {k : Kx} {a b c e : Expr} {es : List Expr} {fa fb fc f : EF} {fs : List EF} {l : LF} {pos : Pos} {x : Str} {p : Pos} {ta tb : TF}
theorem ixOf_eq (n : Nat) (i : Int) : ixOf n i = ixN n i := by
  unfold ixOf ixN gd
  by_cases h1 : 0 ≤ i
  · rw [if_pos h1, if_pos h1]
    by_cases h2 : i < n
    · rw [if_pos h2, if_pos h2]
    · rw [if_neg h2, if_neg h2]
  · rw [if_neg h1, if_neg h1]
    by_cases h2 : -(n : Int) ≤ i
    · rw [if_pos h2, if_pos h2]
    · rw [if_neg h2, if_neg h2]
/-- x[i], x a list or a tuple -/
theorem e_ix (hk : k.K = X.K) (ha : PE X a (dE k W fa)) (hb : PE X b (dE k W fb)) (hs : PlainIx b) : PE X (.Subscript a b pos) (dE k W (fIx fa fb)) :=
  pe_weak (pe_ix ix_seq ha hb hs) (bin_run fun G μ F st H x y v w Q E S rx ry h => by
    obtain ⟨z, hz, h9⟩ := h.of
    cases q1 : x.elems st with
    | none => rw [q1] at hz; cases hz
    | some xs =>
      rw [q1] at hz
      cases y with
      | ref n => cases hz
      | v d =>
        cases d with
        | int i =>
          cases ry
          have hz' : ((ixOf xs.length i).bind fun j => xs[j]?) = some z := hz
          cases q2 : ixOf xs.length i with
          | none => rw [q2] at hz'; cases hz'
          | some j =>
            rw [q2] at hz'
            have hj : xs[j]? = some z := hz'
            obtain ⟨p, ys, rfl, hsq, hr⟩ := elems_rep S rx q1
            obtain ⟨u, hu, ru⟩ := hr.get hj
            have hat : atI ys i = some u := by
              unfold atI
              rw [← hr.len, ← ixOf_eq, q2]
              exact hu
            have hq := h9 μ F H (Ext.refl _ _) S u ru
            rw [hk] at hsq
            rcases hsq with hsq | ⟨hsq, _⟩
            · exact .inl ⟨p, ys, i, u, rfl, rfl, hsq, hat, hq⟩
            · exact .inr (.inl ⟨p, ys, i, u, rfl, rfl, hsq, hat, hq⟩)
        | _ => cases hz)

theorem truth_rep {K : PySem.W.Frag} {G F H : Hp} {μ : List Addr} {st : Store} (S : Sim K G μ F st H) {a : A} {v : V} {c : Bool} (r : ARep K μ F a v) (h : truth st a = some c) : TruV K v H c := by
  have emp : ∀ {xs : List A} {vs : List V}, AReps K μ F xs vs → xs.isEmpty = vs.isEmpty := fun r => by cases r <;> rfl
  have emp2 : ∀ {xs : List D} {vs : List V}, Reps K F xs vs → xs.isEmpty = vs.isEmpty := fun r => by cases r <;> rfl
  cases a with
  | v d =>
    cases d with
    | non => cases h; cases r; rfl
    | bl b => cases h; cases r; rfl
    | int i => cases h; cases r; rfl
    | str x => cases h
    | tup ds => cases h; cases r with
      | tup h1 h2 => exact .inr (.inl ⟨_, SqT.of (S.sub _ _ h1), by rw [emp2 h2]⟩)
    | lst ds => cases h; cases r with
      | lst h1 h2 => exact .inl ⟨_, SqL.of (S.sub _ _ h1), by rw [emp2 h2]⟩
    | ro ds => cases h; cases r with
      | ro h1 h2 => exact .inl ⟨_, S.sub.seq h1, by rw [emp2 h2]⟩
  | ref n =>
    obtain ⟨x, h1, rfl⟩ := r
    unfold truth at h
    dsimp only at h
    split at h
    · rename_i ys q
      cases h
      obtain ⟨_, ⟨vs, h2, h3⟩, _⟩ := cell_of S h1 q
      exact .inl ⟨vs, SqL.of h2, by rw [emp h3]⟩
    · rename_i ds q
      cases h
      obtain ⟨vs, h2, h3⟩ := cell_of S h1 q
      exact .inl ⟨vs, SqL.of (S.sub _ _ h2), by rw [emp2 h3]⟩
    · cases h
/-- an expression's truth (no text) -/
theorem t_of (hk : k.K = X.K) (ha : PE X a (dE k W fa)) (he : ∀ whole, isTrue a X.env whole = (do let v ← whole; standAt a.pos; holding [v] (truthy v)) := by intro _; rfl) : PT X a (dT k W (tOf fa)) :=
  pt_weak (pt_truth ha he) fun σ H Q ⟨G, μ, F, st, σd, S, R, h⟩ => by
    refine ⟨G, μ, F, st, σd, S, R, (Post.bind h).mono fun x st1 μ1 F1 H1 e1 S1 h1 v rv => ?_⟩
    obtain ⟨c, hc, h2⟩ := h1.of
    refine ⟨c, ?_, h2 μ1 F1 H1 (Ext.refl _ _) S1⟩
    rw [← hk]
    exact truth_rep S1 rv hc
theorem w_and1 (ha : PT X a (dT k W ta)) : PW X (.BoolOp .And [a] pos) (dT k W ta) := pw_and1 ha
theorem w_or1 (ha : PT X a (dT k W ta)) : PW X (.BoolOp .Or [a] pos) (dT k W ta) := pw_or1 ha
theorem w_and {rest : List Expr} (ha : PT X a (dT k W ta)) (hb : PW X (.BoolOp .And (b :: rest) pos) (dT k W tb)) : PW X (.BoolOp .And (a :: b :: rest) pos) (dT k W (Dn.tAnd ta tb)) :=
  pw_weak (pw_and ha hb) fun σ H Q ⟨G, μ, F, st, σd, S, R, h⟩ => by
    refine ⟨G, μ, F, st, σd, S, R, (Post.bind h).mono fun c st1 μ1 F1 H1 e1 S1 h1 => ?_⟩
    cases c with
    | true => exact ⟨G, μ1, F1, st1, σd, S1, R.ext e1, h1⟩
    | false => exact h1 μ1 F1 H1 (Ext.refl _ _) S1
theorem w_or {rest : List Expr} (ha : PT X a (dT k W ta)) (hb : PW X (.BoolOp .Or (b :: rest) pos) (dT k W tb)) : PW X (.BoolOp .Or (a :: b :: rest) pos) (dT k W (Dn.tOr ta tb)) :=
  pw_weak (pw_or ha hb) fun σ H Q ⟨G, μ, F, st, σd, S, R, h⟩ => by
    refine ⟨G, μ, F, st, σd, S, R, (Post.bind h).mono fun c st1 μ1 F1 H1 e1 S1 h1 => ?_⟩
    cases c with
    | false => exact ⟨G, μ1, F1, st1, σd, S1, R.ext e1, h1⟩
    | true => exact h1 μ1 F1 H1 (Ext.refl _ _) S1
theorem t_not (ha : PT X a (dT k W ta)) : PT X (.UnaryOp .Not a pos) (dT k W (Dn.tNot ta)) :=
  pt_weak (pt_not ha) fun σ H Q ⟨G, μ, F, st, σd, S, R, h⟩ => by
    exact ⟨G, μ, F, st, σd, S, R, (Post.bind h).mono fun c st1 μ1 F1 H1 e1 S1 h1 => h1 μ1 F1 H1 (Ext.refl _ _) S1⟩
theorem bl_rep {K : PySem.W.Frag} {μ : List Addr} {F : Hp} {x : A} {v : V} {c : Bool} (r : ARep K μ F x v) (h : x.bl? = some c) : v = .bl c := by
  cases x with
  | ref n => cases h
  | v d => cases d <;> first
    | (cases h; cases r; rfl)
    | cases h
theorem e_one {op : BoolOp} (ha : PE X a (dE k W fa)) : PE X (.BoolOp op [a] pos) (dE k W fa) := pe_one ha
theorem e_and {rest : List Expr} (ha : PE X a (dE k W fa)) (hb : PE X (.BoolOp .And (b :: rest) pos) (dE k W fb)) : PE X (.BoolOp .And (a :: b :: rest) pos) (dE k W (fAnd fa fb)) :=
  pe_weak (pe_and ha hb) fun σ H Q ⟨G, μ, F, st, σd, S, R, h⟩ => by
    refine ⟨G, μ, F, st, σd, S, R, (Post.bind h).mono fun x st1 μ1 F1 H1 e1 S1 h1 v rv => ?_⟩
    split at h1
    · rename_i c q
      refine ⟨c, bl_rep rv q, ?_⟩
      cases c with
      | true => exact ⟨G, μ1, F1, st1, σd, S1, R.ext e1, h1⟩
      | false => exact h1 μ1 F1 H1 (Ext.refl _ _) S1 _ Rep.bl
    · exact h1.elim
theorem e_or {rest : List Expr} (ha : PE X a (dE k W fa)) (hb : PE X (.BoolOp .Or (b :: rest) pos) (dE k W fb)) : PE X (.BoolOp .Or (a :: b :: rest) pos) (dE k W (fOr fa fb)) :=
  pe_weak (pe_or ha hb) fun σ H Q ⟨G, μ, F, st, σd, S, R, h⟩ => by
    refine ⟨G, μ, F, st, σd, S, R, (Post.bind h).mono fun x st1 μ1 F1 H1 e1 S1 h1 v rv => ?_⟩
    split at h1
    · rename_i c q
      refine ⟨c, bl_rep rv q, ?_⟩
      cases c with
      | false => exact ⟨G, μ1, F1, st1, σd, S1, R.ext e1, h1⟩
      | true => exact h1 μ1 F1 H1 (Ext.refl _ _) S1 _ Rep.bl
    · exact h1.elim
theorem e_not (ha : PE X a (dE k W fa)) : PE X (.UnaryOp .Not a pos) (dE k W (fNot fa)) :=
  pe_weak (pe_not ha) fun σ H Q ⟨G, μ, F, st, σd, S, R, h⟩ => by
    refine ⟨G, μ, F, st, σd, S, R, (Post.bind h).mono fun x st1 μ1 F1 H1 e1 S1 h1 v rv => ?_⟩
    obtain ⟨y, hy, h2⟩ := h1.of
    cases q : x.bl? with
    | none => rw [q] at hy; cases hy
    | some c =>
      rw [q] at hy; cases hy
      exact ⟨c, bl_rep rv q, h2 μ1 F1 H1 (Ext.refl _ _) S1 _ Rep.bl⟩
theorem e_if {t : Expr} (ht : PT X t (dT k W ta)) (ha : PE X a (dE k W fa)) (hb : PE X b (dE k W fb)) : PE X (.IfExp t a b pos) (dE k W (fIf ta fa fb)) :=
  pe_weak (pe_ifExp ht ha hb) fun σ H Q ⟨G, μ, F, st, σd, S, R, h⟩ => by
    refine ⟨G, μ, F, st, σd, S, R, (Post.bind h).mono fun c st1 μ1 F1 H1 e1 S1 h1 => ?_⟩
    cases c with
    | true => exact ⟨G, μ1, F1, st1, σd, S1, R.ext e1, h1⟩
    | false => exact ⟨G, μ1, F1, st1, σd, S1, R.ext e1, h1⟩

/-! iterables -/
/-- a list or a tuple that is walked -/
def iLT (K : PySem.W.Frag) (tl : TE) : TI := fun σ H R => tl σ H fun x H1 => ∃ a, x = .ref a ∧ ((∃ xs, SqL K H1 a xs) ∧ R (Itl K a) H1 ∨ (∃ xs, SqT K H1 a xs) ∧ R (Itt K a) H1)
theorem pi_lt {tg : Expr} {tl : TE} (hl : PE X e tl) : PI X tg e (iLT X.K tl) := by
  refine ⟨fun pins s σ H R I h => thn (hl.run pins s σ H _ I h) fun v s1 w => ?_⟩
  obtain ⟨x, H1, I1, r1, a, rfl, w⟩ := w
  cases r1
  have fp : ∀ b ∈ [s1.heap.objs.size], FpOk X pins H1 b := fun b hb => by
    rw [List.mem_singleton] at hb
    rw [hb]
    exact I1.fpOk (Nat.le_refl _) (I1.hok.fresh (Nat.le_refl _))
  have kp : ∀ {o : Obj}, Inv X pins σ H1 { s1 with heap := s1.heap.push o, toks := s1.toks } := I1.kept fun _ _ => Heap.get?_push_of_some _
  rcases w with ⟨⟨xs, hq⟩, q⟩ | ⟨⟨xs, hq⟩, q⟩
  · obtain ⟨its, _, pl, _⟩ := I1.list hq
    exact wpAny_pyIter_list pl.isList ⟨_, _, _, _, H1, rfl, kp, turn_list a _, ⟨_, Heap.get?_push_size _ rfl, rfl, rfl⟩, fp, q⟩
  · obtain ⟨its, _, pl, _⟩ := I1.tuple hq
    exact wpAny_pyIter_tuple pl ⟨_, _, _, _, H1, rfl, kp, turn_tuple a _, ⟨_, Heap.get?_push_size _ rfl, rfl, rfl⟩, fp, q⟩
theorem sql_inj {K : PySem.W.Frag} {H : Hp} {a : Addr} {xs ys : List V} (h : H a = some (.lst xs)) : SqL K H a xs := .inl (.inl h)
theorem yields_l {K : PySem.W.Frag} {mg : Str → Option Value} {μ : List Addr} {F : Hp} {xs : List A} {vs : List V} {a : Addr} {g : Store → Prop} (r : AReps K μ F xs vs)
    (hq : ∀ G μ' F' st H, Ext μ F μ' F' → Sim K G μ' F' st H → g st → SqL K H a vs) : Yields ⟨K, mg⟩ μ F ⟨xs, g⟩ (Itl K a) := by
  intro G i μ' F' st H e S hg
  have sq := hq G μ' F' st H e S hg
  refine ⟨fun x hx => ?_, fun hl => ⟨vs, sq, by rw [← r.len]; exact Nat.le_of_eq hl.symm⟩⟩
  obtain ⟨v, h1, h2⟩ := r.get hx
  refine ⟨⟨vs, v, sq, h1⟩, fun w H' hy => ?_⟩
  obtain ⟨rfl, hy⟩ := hy
  have := hy vs sq
  rw [h1] at this; cases this
  exact ⟨F', Ext.refl _ _, S, h2.ext e⟩
theorem yields_t {K : PySem.W.Frag} {mg : Str → Option Value} {μ : List Addr} {F : Hp} {xs : List A} {vs : List V} {a : Addr} {g : Store → Prop} (r : AReps K μ F xs vs)
    (hq : ∀ G μ' F' st H, Ext μ F μ' F' → Sim K G μ' F' st H → g st → SqT K H a vs) : Yields ⟨K, mg⟩ μ F ⟨xs, g⟩ (Itt K a) := by
  intro G i μ' F' st H e S hg
  have sq := hq G μ' F' st H e S hg
  refine ⟨fun x hx => ?_, fun hl => ⟨vs, sq, by rw [← r.len]; exact Nat.le_of_eq hl.symm⟩⟩
  obtain ⟨v, h1, h2⟩ := r.get hx
  refine ⟨⟨vs, v, sq, h1⟩, fun w H' hy => ?_⟩
  obtain ⟨rfl, hy⟩ := hy
  have := hy vs sq
  rw [h1] at this; cases this
  exact ⟨F', Ext.refl _ _, S, h2.ext e⟩
theorem i_seq {tg : Expr} (hk : k.K = X.K) (ha : PE X e (dE k W f)) : PI X tg e (dI k W (iSeq f)) :=
  pi_weak (pi_lt ha) fun σ H Q ⟨G, μ, F, st, σd, S, R, h⟩ => by
    refine ⟨G, μ, F, st, σd, S, R, (Post.bind h).mono fun x st1 μ1 F1 H1 e1 S1 h1 v rv => ?_⟩
    rw [← hk]
    cases x with
    | v d =>
      cases d with
      | lst ds =>
        cases rv with
        | lst q1 q2 =>
          exact ⟨_, rfl, .inl ⟨⟨_, SqL.of (S1.sub _ _ q1)⟩, h1 μ1 F1 H1 (Ext.refl _ _) S1 _ (yields_l (AReps.of q2) fun G μ' F' st H e S _ => SqL.of (S.sub _ _ (e.2 _ _ q1)))⟩⟩
      | ro ds =>
        cases rv with
        | ro q1 q2 =>
          exact ⟨_, rfl, .inl ⟨⟨_, S1.sub.seq q1⟩, h1 μ1 F1 H1 (Ext.refl _ _) S1 _ (yields_l (AReps.of q2) fun G μ' F' st H e S _ => S.sub.seq (e.2.seq q1))⟩⟩
      | tup ds =>
        cases rv with
        | tup q1 q2 =>
          exact ⟨_, rfl, .inr ⟨⟨_, SqT.of (S1.sub _ _ q1)⟩, h1 μ1 F1 H1 (Ext.refl _ _) S1 _ (yields_t (AReps.of q2) fun G μ' F' st H e S _ => SqT.of (S.sub _ _ (e.2 _ _ q1)))⟩⟩
      | _ => exact h1.elim
    | ref n =>
      obtain ⟨y, hy, rfl⟩ := rv
      dsimp only at h1
      split at h1
      · rename_i xs q
        obtain ⟨_, ⟨vs, h2, h3⟩, _⟩ := cell_of S1 hy q
        refine ⟨y, rfl, .inl ⟨⟨_, SqL.of h2⟩, h1 μ1 F1 H1 (Ext.refl _ _) S1 _ (fun G i μ' F' st H e S hg => ?_)⟩⟩
        -- as it stands now
        obtain ⟨_, ⟨ws, h5, h6⟩, _⟩ := cell_of S (e.at hy) hg
        refine ⟨fun x hx => ?_, fun hl => ⟨ws, SqL.of h5, by rw [← h6.len]; exact Nat.le_of_eq hl.symm⟩⟩
        obtain ⟨v, h7, h8⟩ := h6.get hx
        refine ⟨⟨ws, v, SqL.of h5, h7⟩, fun w H' hy => ?_⟩
        obtain ⟨rfl, hy⟩ := hy
        have := hy ws (SqL.of h5)
        rw [h7] at this; cases this
        exact ⟨F', Ext.refl _ _, S, h8⟩
      · rename_i ds q
        obtain ⟨vs, h2, h3⟩ := cell_of S1 hy q
        exact ⟨y, rfl, .inl ⟨⟨_, SqL.of (S1.sub _ _ h2)⟩, h1 μ1 F1 H1 (Ext.refl _ _) S1 _ (yields_l (AReps.of h3) fun G μ' F' st H e S _ => SqL.of (S.sub _ _ (e.2 _ _ h2)))⟩⟩
      · exact h1.elim
theorem rangeA_len : ∀ (n : Nat) (lo : Int), (rangeA lo n).length = n
  | 0, _ => rfl
  | n + 1, lo => by show (rangeA (lo + 1) n).length + 1 = n + 1; rw [rangeA_len n]
theorem rangeA_get : ∀ (n : Nat) (lo : Int) (i : Nat), i < n → (rangeA lo n)[i]? = some (.v (.int (lo + i)))
  | n + 1, lo, 0, _ => by show some (A.v (D.int lo)) = _; simp
  | n + 1, lo, i + 1, h => by
    show (rangeA (lo + 1) n)[i]? = _
    rw [rangeA_get n (lo + 1) i (by omega)]
    congr 3
    omega
theorem yields_r {μ : List Addr} {F : Hp} {lo : Int} {n : Nat} : Yields k μ F ⟨rangeA lo n, fun _ => True⟩ (Itr lo n) := by
  intro G i μ' F' st H e S hg
  refine ⟨fun x hx => ?_, fun hl => by rw [rangeA_len] at hl; exact Nat.le_of_eq hl.symm⟩
  have hi : i < n := by
    have := (List.getElem?_eq_some_iff.mp hx).1
    rw [rangeA_len] at this; exact this
  refine ⟨hi, fun v H' hy => ?_⟩
  obtain ⟨rfl, rfl⟩ := hy
  rw [rangeA_get n lo i hi] at hx; cases hx
  exact ⟨F', Ext.refl _ _, S, Rep.int⟩
theorem i_range1 {tg : Expr} (hg : Gl X ("range" : Str)) (hm : X.mg ("range" : Str) = none) (ha : PE X e (dE k W f)) (hs : starEach [e] X.env = [(false, eval e X.env)] := by rfl) : PI X tg (.Call (.Name ("range" : Str) p) [e] [] pos) (dI k W (iRange1 f)) :=
  pi_weak (pi_range1 hg hm (pa_cons ha pa_nil hs) hs) fun σ H Q ⟨G, μ, F, st, σd, S, R, h⟩ => by
    refine ⟨G, μ, F, st, σd, S, R, (Post.bind h).mono fun x st1 μ1 F1 H1 e1 S1 h1 v rv => ?_⟩
    cases x with
    | ref n => exact h1.elim
    | v d =>
      cases d with
      | int n =>
        cases rv
        dsimp only at h1
        unfold gd at h1
        split at h1
        · rename_i q
          exact ⟨n, rfl, q.1, q.2, h1 μ1 F1 H1 (Ext.refl _ _) S1 _ yields_r⟩
        · exact h1.elim
      | _ => exact h1.elim
theorem i_range2 {tg : Expr} (hg : Gl X ("range" : Str)) (hm : X.mg ("range" : Str) = none) (ha : PE X a (dE k W fa)) (hb : PE X b (dE k W fb)) (hs : starEach [a, b] X.env = [(false, eval a X.env), (false, eval b X.env)] := by rfl) (hs2 : starEach [b] X.env = [(false, eval b X.env)] := by rfl) :
    PI X tg (.Call (.Name ("range" : Str) p) [a, b] [] pos) (dI k W (iRange2 fa fb)) :=
  pi_weak (pi_range2 hg hm (pa_cons ha (pa_cons hb pa_nil (by rw [hs2]; rfl)) (by rw [hs, hs2])) hs hs2) fun σ H Q ⟨G, μ, F, st, σd, S, R, h⟩ => by
    refine ⟨G, μ, F, st, σd, S, R, (Post.bind h).mono fun x st1 μ1 F1 H1 e1 S1 h1 v rv => ?_⟩
    refine ⟨G, μ1, F1, st1, σd, S1, R.ext e1, (Post.bind h1).mono fun y st2 μ2 F2 H2 e2 S2 h2 w rw' => ?_⟩
    cases x with
    | ref n => exact h2.elim
    | v d =>
      cases d with
      | int i =>
        cases y with
        | ref n => exact h2.elim
        | v d' =>
          cases d' with
          | int j =>
            cases rv; cases rw'
            dsimp only at h2
            unfold gd at h2
            split at h2
            · rename_i q
              exact ⟨i, j, rfl, ⟨q.1.1, q.1.2, q.2.1, q.2.2⟩, h2 μ2 F2 H2 (Ext.refl _ _) S2 _ yields_r⟩
            · exact h2.elim
          | _ => exact h2.elim
      | _ => cases y <;> exact h2.elim

/-! targets -/
theorem Agree.refl (vs : List Nat) (σ : St) : Agree vs σ σ := ⟨rfl, fun _ _ => rfl⟩
theorem Agree.trans {vs : List Nat} {σ σ1 σ2 : St} (a : Agree vs σ σ1) (b : Agree vs σ1 σ2) : Agree vs σ σ2 := ⟨b.1.trans a.1, fun j hj => (b.2 j hj).trans (a.2 j hj)⟩
theorem Agree.weak {vs ws : List Nat} {σ σ1 : St} (a : Agree vs σ σ1) (h : ∀ j ∈ vs, j ∈ ws) : Agree ws σ σ1 := ⟨a.1, fun j hj => a.2 j fun z => hj (h j z)⟩
theorem g_name {i : Nat} {x : Str} (hN : X.N.Nodup) (hi : X.N[i]? = some x) (hx : Loc X.env.scope x) (hf : X.fn x = true ∨ X.env.scope.names.lookup x = some .local := by first | exact .inl rfl | exact .inr rfl | assumption) : PG X (.Name x pos) (dG k [i] (tgName i)) :=
  ⟨fun pins s σ H v u Q I r ⟨G, μ, F, st, σd, a, S, R, ra, h⟩ => (pg_name hN hi hx hf).run pins s σ H v u Q I r (h μ F H (Ext.refl _ _) S _ (R.set i ra) ⟨by simp, fun j hj => by
    rw [List.getElem?_set_ne (fun z => hj (by rw [z]; simp))]⟩)⟩
theorem pg_weak {tg : Expr} {t t' : L2.TG} (h : PG X tg t) (w : ∀ v σ H Q, t' v σ H Q → t v σ H Q) : PG X tg t' := ⟨fun pins s σ H v u Q I r q => h.run pins s σ H v u Q I r (w _ _ _ _ q)⟩
theorem pgs_weak {tgs : List Expr} {t t' : L2.TGs} (h : PGs X tgs t) (w : ∀ v σ H Q, t' v σ H Q → t v σ H Q) : PGs X tgs t' := ⟨fun pins s σ H v u Q I r q => h.run pins s σ H v u Q I r (w _ _ _ _ q)⟩
theorem gs_nil : PGs X [] (dGs k [] []) := pgs_weak pgs_nil fun vs σ H Q ⟨G, μ, F, st, σd, ds, S, R, r, h⟩ => by
  cases r with
  | nil => exact ⟨rfl, h μ F H (Ext.refl _ _) S _ R (Agree.refl _ _)⟩
  | cons _ _ => exact h.elim
theorem gs_cons {t : TgF} {ts : List TgF} {is js : List Nat} (h1 : PG X e (dG k is t)) (h2 : PGs X es (dGs k js ts))
    (hs : (assignEach (e :: es) X.env).map (·.2) = assign e X.env :: (assignEach es X.env).map (·.2) := by rfl) : PGs X (e :: es) (dGs k (is ++ js) (t :: ts)) :=
  pgs_weak (pgs_cons h1 h2 hs) fun vs σ H Q ⟨G, μ, F, st, σd, ds, S, R, r, h⟩ => by
    cases r with
    | nil => exact h.elim
    | cons q r =>
      refine ⟨_, _, rfl, G, μ, F, st, σd, .v _, S, R, q, ?_⟩
      have h' : PostT k G μ F _ ((t (.v _) σd st).bind fun p => tgSeq ts _ p.1 p.2) := h
      cases q1 : t (.v _) σd st with
      | none => rw [q1] at h'; exact h'
      | some p =>
        rw [q1] at h'
        intro μ1 F1 H1 e1 S1 σ1 R1 a1
        refine ⟨G, μ1, F1, p.2, p.1, _, S1, R1, r.mono e1.2, ?_⟩
        have h3 : PostT k G μ1 F1 _ (tgSeq ts _ p.1 p.2) := PostT.ext e1 h'
        cases q2 : tgSeq ts _ p.1 p.2 with
        | none => rw [q2] at h3; exact h3
        | some p2 =>
          rw [q2] at h3
          exact fun μ2 F2 H2 e2 S2 σ2 R2 a2 => h3 μ2 F2 H2 e2 S2 σ2 R2 ((a1.weak (by simp +contextual)).trans (a2.weak (by simp +contextual)))
end
end Dn

set_option linter.all false
set_option Elab.async false
set_option maxRecDepth 100000
/-! Stm: statements, loops, comprehensions, defs. -/
namespace Dn
open PySem PySem.Spec PyProof.Rows L2

section
variable {X : Cx} {W : WX} {k : Kx} {a b c e o : Expr} {es : List Expr} {fa fb fc f fo fi : EF} {fs : List EF} {l : LF} {pos : Pos} {x : Str} {p : Pos} {ta tb : TF}
theorem Reps.len {K : PySem.W.Frag} {H : Hp} {ds : List D} {vs : List V} (r : Reps K H ds vs) : ds.length = vs.length := r.length
theorem g_tup {ts : List TgF} {is : List Nat} {n kk : Nat} (hk : k.K = X.K) (hc : X.calm = true) (h : PGs X es (dGs k is ts)) (ht : ts.length = n := by rfl) (hn : (assignEach es X.env).length = n := by rfl) (hst : (assignEach es X.env).findIdx? (·.1) = none := by rfl) :
    PG X (.Tuple es kk pos) (dG k is (tgTup ts)) :=
  pg_weak (pg_tup hc h hn hst) fun v σ H Q ⟨G, μ, F, st, σd, a, S, R, ra, h⟩ => by
    cases a with
    | ref n => exact h.elim
    | v d =>
      cases d with
      | tup ds =>
        cases ra with
        | tup q1 q2 =>
          have hl : ∀ (ts : List TgF) (ds : List D) (σ : Env) (st : Store), tgSeq ts ds σ st ≠ none → ts.length = ds.length := by
            intro ts
            induction ts with
            | nil => intro ds σ st hh; cases ds with
              | nil => rfl
              | cons _ _ => exact absurd rfl hh
            | cons t ts ih => intro ds σ st hh; cases ds with
              | nil => exact absurd rfl hh
              | cons d ds =>
                have hh' : ((t (.v d) σ st).bind fun p => tgSeq ts ds p.1 p.2) ≠ none := hh
                cases q : t (.v d) σ st with
                | none => rw [q] at hh'; exact absurd rfl hh'
                | some p => rw [q] at hh'; rw [List.length_cons, List.length_cons, ih ds p.1 p.2 hh']
          have hne : tgSeq ts ds σd st ≠ none := by
            intro z
            have h' : PostT k G μ F _ (tgSeq ts ds σd st) := h
            rw [z] at h'
            exact h'
          refine ⟨_, _, rfl, SqT.of (S.sub _ _ q1), ?_, G, μ, F, st, σd, ds, S, R, q2, h⟩
          rw [← q2.len, ← hl _ _ _ _ hne, ht]
      | _ => exact h.elim
theorem put_ok {K : PySem.W.Frag} {G F H : Hp} {μ : List Addr} {st st' : Store} {n : Nat} {a b : A} {v : V} (S : Sim K G μ F st H) (r : ARep K μ F a v) (h : putA n st a = some (b, st')) :
    ∃ F', Sim K G μ F' st' H ∧ Ext μ F μ F' ∧ ARep K μ F' b v ∧ b.below n = true := by
  unfold putA at h
  split at h
  · rename_i q
    cases h
    exact ⟨F, S, Ext.refl _ _, r, q⟩
  · cases q : a.frz st with
    | none => rw [q] at h; cases h
    | some p =>
      rw [q] at h; cases h
      obtain ⟨F', S', x', r', _⟩ := frz_ok S r q
      exact ⟨F', S', x', r', rfl⟩
theorem all_set {n : Nat} {b : A} (hb : b.below n = true) : ∀ {xs : List A} (j : Nat), xs.all (A.below n) = true → (xs.set j b).all (A.below n) = true
  | [], _, h => h
  | y :: r, 0, h => by
    simp only [List.all_cons, Bool.and_eq_true, List.set] at h ⊢
    exact ⟨hb, h.2⟩
  | y :: r, j + 1, h => by
    simp only [List.all_cons, Bool.and_eq_true, List.set] at h ⊢
    exact ⟨h.1, all_set hb j h.2⟩
/-- what setL does -/
theorem setL_ok {K : PySem.W.Frag} {G F H : Hp} {μ : List Addr} {st st' : Store} {n : Nat} {i : Int} {a : A} {v ov : V} {Q : Hp → Prop} (S : Sim K G μ F st H) (r : ARep K μ F a v) (ro : ARep K μ F (.ref n) ov) (h : setL n i a st = some st')
    (hQ : ∀ F' H', Ext μ F μ F' → Sim K G μ F' st' H' → Q H') : rSetL ov (.int i) v H Q := by
  unfold setL at h
  cases q : putA n st a with
  | none => rw [q] at h; cases h
  | some p =>
    obtain ⟨b, st1⟩ := p
    rw [q] at h
    obtain ⟨F1, S1, x1, r1, hb⟩ := put_ok S r q
    have h2 : (match st1[n]? with
      | some (.lst xs) => (ixOf xs.length i).map fun j => st1.set n (.lst (xs.set j b))
      | _ => none) = some st' := h
    split at h2
    · rename_i xs q2
      cases q3 : ixOf xs.length i with
      | none => rw [q3] at h2; cases h2
      | some j =>
        rw [q3] at h2; cases h2
        obtain ⟨y, hy, rfl⟩ := ro
        obtain ⟨_, ⟨vs, h5, h6⟩, h7⟩ := cell_of S1 hy q2
        refine ⟨y, vs, i, j, rfl, rfl, h5, by rw [← h6.len, ← ixOf_eq]; exact q3, hQ F1 _ x1 (S1.write hy q2 (AReps.set r1 j h6) (all_set hb j h7))⟩
    · cases h2
theorem g_sub {tg : Expr} (h : PG X tg (gSub (dE k (fun _ _ _ _ => False) fo) (dE k (fun _ _ _ _ => False) fi) rSetL)) : PG X tg (dG k [] (tgSub fo fi)) :=
  pg_weak h fun v σ H Q ⟨G, μ, F, st, σd, a, S, R, ra, h⟩ => by
    unfold tgSub at h
    cases q1 : fo σd st with
    | bad => rw [q1] at h; exact h.elim
    | err _ _ => rw [q1] at h; exact h.elim
    | ok y st1 =>
      rw [q1] at h
      cases y with
      | v d => exact h.elim
      | ref n =>
        refine ⟨G, μ, F, st, σd, S, R, by
          rw [q1]
          intro μ1 F1 H1 e1 S1 ov rov
          dsimp only at h
          cases q2 : fi σd st1 with
          | bad => rw [q2] at h; exact h.elim
          | err _ _ => rw [q2] at h; exact h.elim
          | ok z st2 =>
            rw [q2] at h
            cases z with
            | ref m => exact h.elim
            | v d =>
              cases d with
              | int kk =>
                refine ⟨G, μ1, F1, st1, σd, S1, R.ext e1, by
                  rw [q2]
                  intro μ2 F2 H2 e2 S2 iv riv
                  cases riv
                  have h' : PostT k G μ F _ ((setL n kk a st2).map fun st3 => (σd, st3)) := h
                  cases q3 : setL n kk a st2 with
                  | none => rw [q3] at h'; exact h'.elim
                  | some st3 =>
                    rw [q3] at h'
                    exact setL_ok S2 (ra.ext (e1.trans e2)) (rov.ext e2) q3 fun F' H' e' S' => h' μ2 F' H' ((e1.trans e2).trans e') S' σ (R.ext ((e1.trans e2).trans e')) (Agree.refl _ _)⟩
              | _ => exact h.elim⟩

/-! statements -/
theorem s_pass : PS X (.Pass pos) (dS k W sPass) := ps_weak ps_pass fun D σ H ⟨G, μ, F, st, σd, S, R, h⟩ => h μ F H σ (Ext.refl _ _) S R
theorem s_doc {x : Str} {j : Nat} {pos' : Pos} : PS X (.Expr (.Constant (.str x) j pos) pos') (dS k W sPass) := ps_weak ps_doc fun D σ H ⟨G, μ, F, st, σd, S, R, h⟩ => h μ F H σ (Ext.refl _ _) S R
theorem s_break : PS X (.Break pos) (dS k W sBreak) := ps_weak ps_break fun D σ H ⟨G, μ, F, st, σd, S, R, h⟩ => h μ F H σ (Ext.refl _ _) S R
theorem s_cont : PS X (.Continue pos) (dS k W sCont) := ps_weak ps_continue fun D σ H ⟨G, μ, F, st, σd, S, R, h⟩ => h μ F H σ (Ext.refl _ _) S R
theorem s_expr (he : PE X e (dE k W f)) (hs : swapsWith e none pos.line X.env = pure false := by rfl) : PS X (.Expr e pos) (dS k W (sExpr f)) :=
  ps_weak (ps_expr he hs) fun D σ H ⟨G, μ, F, st, σd, S, R, h⟩ => ⟨G, μ, F, st, σd, S, R, (PostS.st R h).mono fun y st1 μ1 F1 H1 e1 S1 h1 v rv => h1 μ1 F1 H1 σ (Ext.refl _ _) S1 (R.ext e1)⟩
theorem s_ret (he : PE X e (dE k W f)) : PS X (.Return (some e) pos) (dS k W (sRet f)) :=
  ps_weak (ps_ret he) fun D σ H ⟨G, μ, F, st, σd, S, R, h⟩ => ⟨G, μ, F, st, σd, S, R, (PostS.st R h).mono fun y st1 μ1 F1 H1 e1 S1 h1 v rv => h1 μ1 F1 H1 v (Ext.refl _ _) S1 rv⟩
theorem s_retN : PS X (.Return none pos) (dS k W sRetN) := ps_weak ps_retN fun D σ H ⟨G, μ, F, st, σd, S, R, h⟩ => h μ F H .non (Ext.refl _ _) S Rep.non
theorem s_if {ss us : List Stmt} {sa sb : SF} (ht : PT X c (dT k W ta)) (ha : PSs X ss (dS k W sa)) (hb : PSs X us (dS k W sb)) : PS X (.If c ss us pos) (dS k W (sIf ta sa sb)) :=
  ps_weak (ps_if ht ha hb) fun D σ H ⟨G, μ, F, st, σd, S, R, h⟩ => ⟨G, μ, F, st, σd, S, R, (PostS.st R h).mono fun cc st1 μ1 F1 H1 e1 S1 h1 => by
    cases cc with
    | true => exact ⟨G, μ1, F1, st1, σd, S1, R.ext e1, h1⟩
    | false => exact ⟨G, μ1, F1, st1, σd, S1, R.ext e1, h1⟩⟩
theorem set_run {i : Nat} {D : Ends} {σ : St} {H : Hp} (h : dS k W (sSet i f) D σ H) : tAsg (dE k W f) (gName i) D σ H := by
  obtain ⟨G, μ, F, st, σd, S, R, h⟩ := h
  exact ⟨G, μ, F, st, σd, S, R, (PostS.st R h).mono fun y st1 μ1 F1 H1 e1 S1 h1 v rv => h1 μ1 F1 H1 _ (Ext.refl _ _) S1 ((R.ext e1).set i rv)⟩
theorem s_set {i : Nat} {pos' : Pos} (hN : X.N.Nodup) (hi : X.N[i]? = some x) (hx : Loc X.env.scope x) (he : PE X e (dE k W f)) (hs : swapsWith e (some (.Name x pos')) pos.line X.env = pure false := by rfl) (hf : X.fn x = true ∨ X.env.scope.names.lookup x = some .local := by first | exact .inl rfl | exact .inr rfl | assumption) :
    PS X (.Assign [.Name x pos'] e pos) (dS k W (sSet i f)) := ps_weak (ps_set hN hi hx he hs hf) fun D σ H h => set_run h
theorem s_asg {tg : Expr} {is : List Nat} {t : TgF} (he : PE X e (dE k W f)) (hg : PG X tg (dG k is t)) (hs : swapsWithSole [tg] e pos.line X.env = pure false := by rfl) (hw : swappedStores [tg] e X.env = pure none := by rfl)
    (h1 : (assignEach [tg] X.env).map (·.2) = [assign tg X.env] := by rfl) : PS X (.Assign [tg] e pos) (dS k W (sAsg f t)) :=
  ps_weak (ps_asg he hg hs hw h1) fun D σ H ⟨G, μ, F, st, σd, S, R, h⟩ => ⟨G, μ, F, st, σd, S, R, (PostS.st R h).mono fun y st1 μ1 F1 H1 e1 S1 h1 v rv => by
    refine ⟨G, μ1, F1, st1, σd, y, S1, R.ext e1, rv, ?_⟩
    cases q : t y σd st1 with
    | none => rw [q] at h1; exact h1
    | some pr => rw [q] at h1; exact fun μ2 F2 H2 e2 S2 σ2 R2 _ => h1 μ2 F2 H2 σ2 e2 S2 R2⟩
theorem s_par {i j : Nat} {x y : Str} {px py pt : Pos} {kt k2 pt2} (hc : X.calm = true) (hN : X.N.Nodup) (hi : X.N[i]? = some x) (hj : X.N[j]? = some y) (hij : i ≠ j)
    (hx : X.env.scope.names.lookup x = some .local) (hy : X.env.scope.names.lookup y = some .local) (ha : PE X a (dE k W fa)) (hb : PE X b (dE k W fb))
    (hw : swappedStores [.Tuple [.Name x px, .Name y py] kt pt] (.Tuple [a, b] k2 pt2) X.env = pure (some [x, y]) := by rfl)
    (hs : swapsWithSole [.Tuple [.Name x px, .Name y py] kt pt] (.Tuple [a, b] k2 pt2) pos.line X.env = pure false := by rfl)
    (h1 : starEach (a :: [b]) X.env = (false, eval a X.env) :: starEach [b] X.env := by rfl) (h2 : starEach (b :: []) X.env = (false, eval b X.env) :: starEach [] X.env := by rfl) :
    PS X (.Assign [.Tuple [.Name x px, .Name y py] kt pt] (.Tuple [a, b] k2 pt2) pos) (dS k W (sPar i j fa fb)) :=
  ps_weak (ps_par hc hN hi hj hij hx hy (pa_cons ha (pa_cons hb pa_nil h2) h1) hw hs) fun D σ H ⟨G, μ, F, st, σd, S, R, h⟩ => ⟨G, μ, F, st, σd, S, R, (PostS.st R h).mono fun u st1 μ1 F1 H1 e1 S1 h1 v rv => by
    refine ⟨G, μ1, F1, st1, σd, S1, R.ext e1, (PostS.st (R.ext e1) h1).mono fun z st2 μ2 F2 H2 e2 S2 h2 w rw' => ?_⟩
    exact ⟨v, w, rfl, h2 μ2 F2 H2 _ (Ext.refl _ _) S2 (((R.ext e1).ext e2).set i (rv.ext e2) |>.set j rw')⟩⟩
def IpOk (K : PySem.W.Frag) (t : TIp) (o : D → D → Option D) : Prop := ∀ x y d e z H Q, Rep K H d x → Rep K H e y → o d e = some z → ∃ v, (∀ F, Rep K F z v) ∧ (Q v H → t x y H Q)
theorem s_aug {i : Nat} {op : Operator} {ti : TIp} {oo : D → D → Option D} {pos' : Pos} (hN : X.N.Nodup) (hi : X.N[i]? = some x) (hx : Loc X.env.scope x) (he : PE X e (dE k W f)) (ho : PIp X op ti) (ok : IpOk k.K ti oo) (hf : X.fn x = true ∨ X.env.scope.names.lookup x = some .local := by first | exact .inl rfl | exact .inr rfl | assumption) :
    PS X (.AugAssign (.Name x pos') op e pos) (dS k W (sAug i oo f)) :=
  ps_weak (ps_aug hN hi hx he ho hf) fun D σ H ⟨G, μ, F, st, σd, S, R, h⟩ => by
    unfold sAug at h
    split at h
    · rename_i y q
      obtain ⟨v, h1, h2⟩ := R.2 _ _ q
      refine ⟨v, h1, G, μ, F, st, σd, S, R, (PostS.st R h).mono fun u st1 μ1 F1 H1 e1 S1 h3 w rw' => ?_⟩
      cases q1 : y.view st1 with
      | none => rw [q1] at h3; exact h3.elim
      | some d =>
        rw [q1] at h3
        cases q2 : u.view st1 with
        | none => rw [q2] at h3; exact h3.elim
        | some d2 =>
          rw [q2] at h3
          dsimp only [Option.bind] at h3
          cases q3 : oo d d2 with
          | none => rw [q3] at h3; exact h3.elim
          | some z =>
            rw [q3] at h3
            obtain ⟨r, hr, hq⟩ := ok v w d d2 z H1 _ (view_rep S1 (h2.ext e1) q1) (view_rep S1 rw' q2) q3
            exact hq (h3 μ1 F1 H1 _ (Ext.refl _ _) S1 ((R.ext e1).set i (hr F1)))
    · exact h.elim
theorem ipk_add {K : PySem.W.Frag} : IpOk K (ipI fun i j => i + j) oAdd := fun x y d e z H Q rx ry h => by
  cases d <;> cases e <;> first
    | (cases h; cases rx; cases ry; exact ⟨_, fun _ => .int, fun q => ⟨_, _, rfl, rfl, q⟩⟩)
    | cases h
theorem ipk_sub {K : PySem.W.Frag} : IpOk K (ipI fun i j => i - j) oSub := fun x y d e z H Q rx ry h => by
  cases d <;> cases e <;> first
    | (cases h; cases rx; cases ry; exact ⟨_, fun _ => .int, fun q => ⟨_, _, rfl, rfl, q⟩⟩)
    | cases h
theorem ss_nil : PSs X [] (dS k W sNil) := pss_weak pss_nil fun D σ H ⟨G, μ, F, st, σd, S, R, h⟩ => h μ F H σ (Ext.refl _ _) S R
theorem ss_one {s : Stmt} {sa : SF} (h : PS X s (dS k W sa)) : PSs X [s] (dS k W sa) := pss_one h
theorem ss_cons {s : Stmt} {ss : List Stmt} {sa sb : SF} (h1 : PS X s (dS k W sa)) (h2 : PSs X ss (dS k W sb)) : PSs X (s :: ss) (dS k W (sSeq sa sb)) :=
  pss_weak (pss_cons h1 h2) fun D σ H ⟨G, μ, F, st, σd, S, R, h⟩ => by
    refine ⟨G, μ, F, st, σd, S, R, ?_⟩
    unfold sSeq at h
    cases q : sa σd st with
    | nx σ1 st1 =>
      rw [q] at h
      exact fun μ1 F1 H1 σ' e1 S1 R1 => ⟨G, μ1, F1, st1, σ1, S1, R1, PostS.ext e1 h⟩
    | rt a st1 => rw [q] at h; exact h
    | bk a st1 => rw [q] at h; exact h
    | ct a st1 => rw [q] at h; exact h
    | err _ _ _ => rw [q] at h; exact h
    | bad => rw [q] at h; exact h

theorem s_for {tg iter : Expr} {body : List Stmt} {it : IF} {is : List Nat} {t : TgF} {sb : SF} (hp : PassesOwn (model X.prog X.w) X.A X.env X.xe) (hc : X.calm = true) (hi : PI X tg iter (dI k W it)) (hg : PG X tg (dG k is t)) (hb : PSs X body (dS k W sb))
    (hs : ∀ x, foldedSetIterable iter X.env x = pure x := by intro _; rfl) : PS X (.For tg iter body [] pos) (dS k W (sFor it t sb)) :=
  ps_weak (ps_for hp hc hi hg hb hs) fun D σ H ⟨G, μ, F, st, σd, S, R, h⟩ => by
    refine ⟨G, μ, F, st, σd, S, R, (PostS.st R h).mono fun s st1 μ1 F1 H1 e1 S1 h1 J yi => ?_⟩
    refine ⟨fun i m σ H => m = s.xs.length - i ∧ i ≤ s.xs.length ∧ ∃ μ' F' st' σd', Ext μ1 F1 μ' F' ∧ Sim k.K G μ' F' st' H ∧ ERep k.K μ' F' σd' σ ∧ PostS k G μ' F' W D (forL t sb s.g (s.xs.drop i) σd' st'),
      ⟨s.xs.length, by simp, Nat.zero_le _, μ1, F1, st1, σd, Ext.refl _ _, S1, R.ext e1, h1⟩, ?_⟩
    rintro i m σ H ⟨rfl, hi, μ', F', st', σd', ex, S', R', hP⟩
    by_cases hlt : i < s.xs.length
    · rw [List.drop_eq_getElem_cons hlt] at hP
      unfold forL at hP
      split at hP
      · rename_i hgd
        obtain ⟨go, yl⟩ := (yi G i μ' F' st' H ex S' hgd).1 _ (List.getElem?_eq_getElem hlt)
        refine .inr ⟨go, fun σ2 H2 => ∃ μ2 F2 st2 σd2, Ext μ1 F1 μ2 F2 ∧ Sim k.K G μ2 F2 st2 H2 ∧ ERep k.K μ2 F2 σd2 σ2 ∧ PostS k G μ2 F2 W D (forL t sb s.g (s.xs.drop (i + 1)) σd2 st2), fun σ2 H2 q => ⟨s.xs.length - (i + 1), by omega, rfl, hlt, q⟩, fun v H' hy => ?_⟩
        obtain ⟨F2, x2, S2, r2⟩ := yl v H' hy
        refine ⟨G, μ', F2, st', σd', _, S2, R'.ext x2, r2, ?_⟩
        cases q : t s.xs[i] σd' st' with
        | none => rw [q] at hP; exact hP
        | some pr =>
          rw [q] at hP
          intro μ3 F3 H3 x3 S3 σ3 R3 _
          refine ⟨G, μ3, F3, pr.2, pr.1, S3, R3, ?_⟩
          have hP' := PostS.ext (x2.trans x3) hP
          dsimp only at hP'
          cases q2 : sb pr.1 pr.2 with
          | nx σ4 st4 => rw [q2] at hP'; exact fun μ5 F5 H5 σ5 x5 S5 R5 => ⟨μ5, F5, st4, σ4, ((ex.trans x2).trans x3).trans x5, S5, R5, PostS.ext x5 hP'⟩
          | ct σ4 st4 => rw [q2] at hP'; exact fun μ5 F5 H5 σ5 x5 S5 R5 => ⟨μ5, F5, st4, σ4, ((ex.trans x2).trans x3).trans x5, S5, R5, PostS.ext x5 hP'⟩
          | bk σ4 st4 => rw [q2] at hP'; exact hP'
          | rt a st4 => rw [q2] at hP'; exact hP'
          | err _ _ _ => rw [q2] at hP'; exact hP'
          | bad => rw [q2] at hP'; exact hP'
      · exact hP.elim
    · rw [List.drop_eq_nil_of_le (by omega)] at hP
      unfold forL at hP
      split at hP
      · rename_i hgd
        exact .inl ⟨(yi G i μ' F' st' H ex S' hgd).2 (by omega), hP μ' F' H σ (Ext.refl _ _) S' R'⟩
      · exact hP.elim
theorem s_while {body : List Stmt} {sb : SF} (hp : PassesOwn (model X.prog X.w) X.A X.env X.xe) (hc : PT X c (dT k W ta)) (hb : PSs X body (dS k W sb)) : PS X (.While c body [] pos) (dS k W (sWhile ta sb)) :=
  ps_weak (ps_while hp hc hb) fun D σ H ⟨G, μ, F, st, σd, S, R, h⟩ => by
    unfold sWhile at h
    split at h
    · rename_i hex
      refine ⟨fun m σ H => ∃ μ' F' st' σd', Sim k.K G μ' F' st' H ∧ ERep k.K μ' F' σd' σ ∧ PostS k G μ' F' W D (whileN ta sb m σd' st'), ⟨_, μ, F, st, σd, S, R, h⟩, ?_⟩
      rintro m σ H ⟨μ', F', st', σd', S', R', hP⟩
      cases m with
      | zero => exact hP.elim
      | succ m =>
        refine ⟨G, μ', F', st', σd', S', R', (PostS.st R' hP).mono fun cc st1 μ1 F1 H1 e1 S1 h1 => ?_⟩
        cases cc with
        | false => exact h1 μ1 F1 H1 σ (Ext.refl _ _) S1 (R'.ext e1)
        | true =>
          refine ⟨fun σ2 H2 => ∃ μ2 F2 st2 σd2, Sim k.K G μ2 F2 st2 H2 ∧ ERep k.K μ2 F2 σd2 σ2 ∧ PostS k G μ2 F2 W D (whileN ta sb m σd2 st2), fun σ2 H2 q => ⟨m, Nat.lt_succ_self _, q⟩, G, μ1, F1, st1, σd', S1, R'.ext e1, ?_⟩
          simp only [if_true] at h1
          cases q2 : sb σd' st1 with
          | nx σ4 st4 => rw [q2] at h1; exact fun μ5 F5 H5 σ5 x5 S5 R5 => ⟨μ5, F5, st4, σ4, S5, R5, PostS.ext x5 h1⟩
          | ct σ4 st4 => rw [q2] at h1; exact fun μ5 F5 H5 σ5 x5 S5 R5 => ⟨μ5, F5, st4, σ4, S5, R5, PostS.ext x5 h1⟩
          | bk σ4 st4 => rw [q2] at h1; exact h1
          | rt a st4 => rw [q2] at h1; exact h1
          | err _ _ _ => rw [q2] at h1; exact h1
          | bad => rw [q2] at h1; exact h1
    · exact h.elim

/-! comprehensions -/
theorem ERep.wipe {K : PySem.W.Frag} {μ : List Addr} {F : Hp} {σd : Env} {σ : St} (h : ERep K μ F σd σ) : ∀ vs : List Nat, ERep K μ F (wipeE σd vs) (wipe σ vs)
  | [] => h
  | v :: vs => by
    have ih := ERep.wipe h vs
    refine ⟨by show ((wipeE σd vs).set v none).length = ((L2.wipe σ vs).set v none).length; simp [ih.1], fun j b q => ?_⟩
    have q' : ((wipeE σd vs).set v none)[j]? = some (some b) := q
    show ∃ u, ((L2.wipe σ vs).set v none)[j]? = some (some u) ∧ _
    by_cases hj : v = j
    · subst hj
      by_cases hl : v < (wipeE σd vs).length
      · rw [List.getElem?_set_self hl] at q'; cases q'
      · rw [List.getElem?_eq_none (by simp; omega)] at q'; cases q'
    · rw [List.getElem?_set_ne hj] at q'
      rw [List.getElem?_set_ne hj]
      exact ih.2 j b q'
theorem wipe_agree {vs : List Nat} {σ σ' : St} (h : Agree vs (wipe σ vs) σ') : wipe σ' vs = wipe σ vs := by
  have wl : ∀ (σ : St) (vs : List Nat), (wipe σ vs).length = σ.length := wipe_length
  have wo : ∀ (σ : St) (vs : List Nat) (i : Nat), i ∉ vs → (wipe σ vs)[i]? = σ[i]? := fun σ vs i h => wipe_out h
  have wi : ∀ (σ : St) (vs : List Nat) (i : Nat), i ∈ vs → i < σ.length → (wipe σ vs)[i]? = some none := by
    intro σ vs
    induction vs with
    | nil => intro i hi; cases hi
    | cons v vs ih =>
      intro i hi hl
      show ((wipe σ vs).set v none)[i]? = some none
      by_cases hv : v = i
      · subst hv; rw [List.getElem?_set_self (by rw [wl]; exact hl)]
      · rw [List.getElem?_set_ne hv]
        exact ih i (by rcases List.mem_cons.mp hi with z | z; exact absurd z.symm hv; exact z) hl
  have hlen : σ'.length = σ.length := by rw [h.1, wl]
  apply List.ext_getElem?
  intro i
  by_cases hi : i ∈ vs
  · by_cases hl : i < σ.length
    · rw [wi _ _ _ hi (by rw [hlen]; exact hl), wi _ _ _ hi hl]
    · rw [List.getElem?_eq_none (by rw [wl]; omega), List.getElem?_eq_none (by rw [wl]; omega)]
  · rw [wo _ _ _ hi, h.2 i hi]
abbrev noW : WX := fun _ _ _ _ => False
/-- the reading of a comprehension -/
theorem comp_run {it : IF} {t : TgF} {ct : TF} {fe : EF} {vs is : List Nat} (his : ∀ j ∈ is, j ∈ vs) {σ : St} {H : Hp} {Q : VK} (h : dL k W (lComp it t ct fe vs) σ H Q) :
    tLc (dI k W it) (dG k is t) (dT k noW ct) (dE k noW fe) vs σ H Q := by
  obtain ⟨G, μ, F, st, σd, S, R, h⟩ := h
  refine ⟨G, μ, F, st, σd, S, R, (Post.bind h).mono fun s st1 μ1 F1 H1 e1 S1 h1 J yi D hD => ?_⟩
  have hG : G D = none := S1.freeG hD
  refine ⟨fun i m H => m = s.xs.length - i ∧ i ≤ s.xs.length ∧ ∃ μ' F' st' acc av, Ext μ1 F1 μ' F' ∧ Sim k.K (upd G D (.lst av)) μ' F' st' H ∧ AReps k.K μ' F' acc av ∧
      Post k G μ' F' (fun c d H' => W c d σ H') (fun xs _ μ' F' H' => ∀ p vs, H' p = some (.lst vs) → F' p = none → p ∉ μ' → G p = none → AReps k.K μ' F' xs vs → Q (.ref p) H') (compL t ct fe vs s.g σd (s.xs.drop i) acc st'),
    ⟨s.xs.length, by simp, Nat.zero_le _, μ1, F1, st1, [], [], Ext.refl _ _, (S1.heap hD).aside upd_same (S1.freeF hD) hG (S1.notin hD), .nil, h1⟩, ?_⟩
  rintro i m H ⟨rfl, hi, μ', F', st', acc, av, ex, S', ra, hP⟩
  obtain ⟨Sb, hHD, hFD, hμD⟩ := S'.back hG
  by_cases hlt : i < s.xs.length
  · rw [List.drop_eq_getElem_cons hlt] at hP
    unfold compL at hP
    split at hP
    · rename_i hgd
      obtain ⟨go, yl⟩ := (yi _ i μ' F' st' H ex S' hgd).1 _ (List.getElem?_eq_getElem hlt)
      refine .inr ⟨go, fun H2 => ∃ μ2 F2 st2 acc2 av2, Ext μ1 F1 μ2 F2 ∧ Sim k.K (upd G D (.lst av2)) μ2 F2 st2 H2 ∧ AReps k.K μ2 F2 acc2 av2 ∧
        Post k G μ2 F2 (fun c d H' => W c d σ H') (fun xs _ μ' F' H' => ∀ p vs, H' p = some (.lst vs) → F' p = none → p ∉ μ' → G p = none → AReps k.K μ' F' xs vs → Q (.ref p) H') (compL t ct fe vs s.g σd (s.xs.drop (i + 1)) acc2 st2),
        fun H2 q => ⟨s.xs.length - (i + 1), by omega, rfl, hlt, q⟩, fun v H' hy => ?_⟩
      obtain ⟨F2, x2, S2, r2⟩ := yl v H' hy
      refine ⟨_, μ', F2, st', wipeE σd vs, _, S2, ((R.ext (e1.trans ex)).ext x2).wipe vs, r2, ?_⟩
      cases q : t s.xs[i] (wipeE σd vs) st' with
      | none => rw [q] at hP; exact hP.elim
      | some pr =>
        rw [q] at hP
        intro μ3 F3 H3 x3 S3 σ3 R3 ag
        refine ⟨wipe_agree (ag.weak his), ?_⟩
        refine ⟨_, μ3, F3, pr.2, pr.1, S3, R3, ?_⟩
        dsimp only at hP
        cases q2 : ct pr.1 pr.2 with
        | bad => rw [q2] at hP; exact hP.elim
        | err _ _ => rw [q2] at hP; exact hP.elim
        | ok cc st4 =>
          rw [q2] at hP
          intro μ4 F4 H4 x4 S4
          cases cc with
          | false => exact ⟨μ4, F4, st4, acc, av, ((ex.trans x2).trans x3).trans x4, S4, AReps.ext ((x2.trans x3).trans x4) ra, Post.ext ((x2.trans x3).trans x4) hP⟩
          | true =>
            refine ⟨_, μ4, F4, st4, pr.1, S4, R3.ext x4, ?_⟩
            dsimp only at hP
            cases q3 : fe pr.1 st4 with
            | bad => rw [q3] at hP; exact hP.elim
            | err _ _ => rw [q3] at hP; exact hP.elim
            | ok z st5 =>
              rw [q3] at hP
              dsimp only at hP
              intro μ5 F5 H5 x5 S5 w rw'
              unfold gd at hP
              split at hP
              · rename_i hsz
                obtain ⟨S6, h6, hF6, hμ6⟩ := S5.back hG
                have exx := (((x2.trans x3).trans x4).trans x5)
                refine ⟨av, h6, ?_, μ5, F5, st5, acc ++ [z], av ++ [w], ex.trans exx, (S6.other hF6 hG hμ6).aside upd_same hF6 hG hμ6, AReps.snoc (AReps.ext exx ra) rw', Post.ext exx hP⟩
                rw [← ra.len, ← sizeMax_eq]
                exact hsz
              · exact hP.elim
    · exact hP.elim
  · rw [List.drop_eq_nil_of_le (by omega)] at hP
    unfold compL at hP
    split at hP
    · rename_i hgd
      exact .inl ⟨(yi _ i μ' F' st' H ex S' hgd).2 (by omega), hP μ' F' H (Ext.refl _ _) Sb D av hHD hFD hμD hG ra⟩
    · exact hP.elim
theorem l_comp {elt tg iter : Expr} {ifs : List Expr} {scope : Scope} {own : List (Str × Nat)} {it : IF} {is : List Nat} {t : TgF} {ct : TF} {fe : EF} (hc : X.calm = true) (hN : X.N.Nodup) (hi : PI X tg iter (dI k W it)) (ok : BlkOk X.N X.env.scope scope own)
    (hg : ∀ (s : Shared) (H : Hp) (C : Addr) (cl : List (Str × Addr)) (fp : List Addr), PG (X.blk s H scope (compEnvC scope cl C X.env) fp) tg (dG k is t)) (ht : ∀ (s : Shared) (H : Hp) (C : Addr) (cl : List (Str × Addr)) (fp : List Addr), PTs (X.blk s H scope (compEnvC scope cl C X.env) fp) ifs (dT k noW ct))
    (he : ∀ (s : Shared) (H : Hp) (C : Addr) (cl : List (Str × Addr)) (fp : List Addr), PE (X.blk s H scope (compEnvC scope cl C X.env) fp) elt (dE k noW fe)) (his : ∀ j ∈ is, j ∈ own.map (·.2) := by decide) (hs : ∀ x, foldedSetIterable iter X.env x = pure x := by intro _; rfl) :
    PE X (.ListComp elt [⟨tg, iter, ifs, 0⟩] scope pos) (dL k W (lComp it t ct fe (own.map (·.2)))) :=
  pe_weak (pe_lc hc hN hi ok hg ht he hs) fun σ H Q h => comp_run his h
theorem ts_nil : PTs X [] (dT k W tYes) := ⟨fun pins s σ H Q I ⟨G, μ, F, st, σd, S, R, h⟩ => pts_nil.run pins s σ H Q I (h μ F H (Ext.refl _ _) S)⟩
theorem ts_one (h : PT X c (dT k W ta)) : PTs X [c] (dT k W ta) := pts_one h
/-- y = [..] -/
theorem s_setLc {elt tg iter : Expr} {ifs : List Expr} {scope : Scope} {own : List (Str × Nat)} {it : IF} {is : List Nat} {t : TgF} {ct : TF} {fe : EF} {i : Nat} {y : Str} {py spos : Pos} (live : Bool) (hc : X.calm = true) (hN : X.N.Nodup) (hy : X.N[i]? = some y) (hyl : X.env.scope.names.lookup y = some .local)
    (hsw : swapsWith (.ListComp elt [⟨tg, iter, ifs, 0⟩] scope pos) (some (.Name y py)) spos.line X.env = pure true) (hi : PI X tg iter (dI k W it)) (ok : BlkOk X.N X.env.scope scope own)
    (hg : ∀ (s : Shared) (H : Hp) (C : Addr) (cl : List (Str × Addr)) (fp : List Addr), PG (X.blk s H scope (compEnvC scope cl C X.env) fp) tg (dG k is t)) (ht : ∀ (s : Shared) (H : Hp) (C : Addr) (cl : List (Str × Addr)) (fp : List Addr), PTs (X.blk s H scope (compEnvC scope cl C X.env) fp) ifs (dT k noW ct))
    (he : ∀ (s : Shared) (H : Hp) (C : Addr) (cl : List (Str × Addr)) (fp : List Addr), PE (X.blk s H scope (compEnvC scope cl C X.env) fp) elt (dE k noW fe)) (his : ∀ j ∈ is, j ∈ own.map (·.2) := by decide) (hs : ∀ x, foldedSetIterable iter X.env x = pure x := by intro _; rfl) :
    PS X (.Assign [.Name y py] (.ListComp elt [⟨tg, iter, ifs, 0⟩] scope pos) spos) (dS k W (sSet i (if live = true then fLive (lComp it t ct fe (own.map (·.2))) else fFrz (lComp it t ct fe (own.map (·.2)))))) :=
  ps_weak (ps_setLc hc hN hy hyl hsw hi ok hg ht he hs) fun D σ H h => by
    refine comp_run his ?_
    obtain ⟨G, μ, F, st, σd, S, R, h⟩ := h
    refine ⟨G, μ, F, st, σd, S, R, ?_⟩
    cases live with
    | true =>
      have h1 := PostS.st R h
      rw [if_pos rfl] at h1
      refine (Post.bind (show Post k G μ F _ _ ((lComp it t ct fe (own.map (·.2)) σd st).bind fun xs st1 => if xs.all (A.below st1.length) = true then .ok (A.ref st1.length) (st1 ++ [.lst xs]) else .bad) from h1)).mono fun as st1 μ1 F1 H1 e1 S1 h1 p vs hp hF hμ hG rv => ?_
      split at h1
      · rename_i q
        obtain ⟨S2, x2⟩ := S1.push hp hF hG hμ rv q
        exact h1 _ _ _ x2 S2 _ _ _ _ (Ext.refl _ _) S2 (((R.ext e1).ext x2).set i ⟨p, by rw [← S1.len]; simp, rfl⟩)
      · exact h1.elim
    | false =>
      have h1 := PostS.st R h
      rw [if_neg (by decide)] at h1
      refine (Post.bind (show Post k G μ F _ _ ((lComp it t ct fe (own.map (·.2)) σd st).bind fun xs st1 => match frzL st1 xs with
        | some (ds, st2) => .ok (A.v (.lst ds)) st2
        | none => .bad) from h1)).mono fun as st1 μ1 F1 H1 e1 S1 h1 p vs hp hF hμ hG rv => ?_
      split at h1
      · rename_i ds st2 q
        obtain ⟨F2, S2, x2, r2, n2⟩ := frzL_ok S1 rv q
        obtain ⟨S3, x3⟩ := S2.keep hp (n2 p hμ hF) hG hμ
        have x4 := x2.trans x3
        exact h1 μ1 _ _ x4 S3 _ _ _ _ (Ext.refl _ _) S3 (((R.ext e1).ext x4).set i (Rep.lst upd_same (r2.mono x3.2)))
      · exact h1.elim
/-- o.append(e) -/
theorem e_append (h : PE X e (tBM X.K "list" rAppend (dE k W fo) (tCons (dE k W f) tNil))) : PE X e (dE k W (fAppend fo f)) :=
  pe_weak h fun σ H Q ⟨G, μ, F, st, σd, S, R, h⟩ => by
    refine ⟨G, μ, F, st, σd, S, R, (Post.bind h).mono fun y st1 μ1 F1 H1 e1 S1 h1 v rv => ?_⟩
    cases y with
    | v d => exact h1.elim
    | ref n =>
      obtain ⟨ad, hy, rfl⟩ := rv
      refine ⟨?_, G, μ1, F1, st1, σd, S1, R.ext e1, (Post.bind h1).mono fun z st2 μ2 F2 H2 e2 S2 h2 w rw' => ?_⟩
      · have hn : n < st1.length := by rw [← S1.len]; exact (List.getElem?_eq_some_iff.mp hy).1
        have hc := S1.cell n _ st1[n] hy (List.getElem?_eq_getElem hn)
        cases q : st1[n] with
        | lst xs =>
          rw [q] at hc
          obtain ⟨_, ⟨vs, h5, _⟩, _⟩ := hc
          exact .inl ⟨rfl, _, SqL.of h5⟩
        | frz ds =>
          rw [q] at hc
          obtain ⟨vs, h5, _⟩ := hc
          exact .inl ⟨rfl, _, SqL.of (S1.sub _ _ h5)⟩
      · split at h2
        · rename_i b st3 q
          obtain ⟨F3, S3, x3, r3, hb⟩ := put_ok S2 rw' q
          split at h2
          · rename_i xs q2
            unfold gd at h2
            split at h2
            · rename_i hsz
              have hy2 := e2.at hy
              obtain ⟨_, ⟨vs, h5, h6⟩, h7⟩ := cell_of S3 hy2 q2
              refine ⟨ad, vs, w, rfl, rfl, h5, by rw [← h6.len, ← sizeMax_eq]; exact hsz, ?_⟩
              refine h2 μ2 F3 _ x3 (S3.write hy2 q2 (AReps.snoc h6 r3) ?_) _ Rep.non
              rw [List.all_append, h7]
              simp [hb]
            · exact h2.elim
          · exact h2.elim
        · exact h2.elim

/-! defs -/
/-- the promise of a def by its function -/
def spV (k : Kx) (n : Nat) (g : List A → Store → RE A) : Sp := fun vs H Q E => vs.length = n ∧ ∃ G μ F st as, Sim k.K G μ F st H ∧ AReps k.K μ F as vs ∧
  Post k G μ F E (fun a _ μ' F' H' => ∀ v, ARep k.K μ' F' a v → Q v H') (g as st)
/-- of a def that hands back a new list -/
def spL (k : Kx) (n : Nat) (g : List A → Store → RE (List A)) : Sp := fun vs H Q E => vs.length = n ∧ ∃ G μ F st as, Sim k.K G μ F st H ∧ AReps k.K μ F as vs ∧
  Post k G μ F E (fun xs _ μ' F' H' => ∀ p vs, H' p = some (.lst vs) → F' p = none → p ∉ μ' → G p = none → AReps k.K μ' F' xs vs → Q (.ref p) H') (g as st)
theorem e_call {lv : Nat} {ad : Addr} {fd : FuncData} {ps : List Str} {n : Nat} {g : List A → Store → RE A} (Fn : FnOk X.prog X.w X.K X.mg X.base (L2.CX X.prog X.w) lv ad fd ps (spV k n g)) (hr : Room lv X.A) (tk : Takes X W) (hg : Gl X x) (hm : X.mg x = some (.ref ad)) (hk : PySem.W.keepIn X.K (.ref ad) = true) (hb : Binds X.K fd ps [])
    (ha : PA X (e :: es) (dA k W (fArgs fs))) (hl : fs.length = n := by rfl) (hdb : (x == ("__debug__" : Str)) = false := by decide) (he : starEach (e :: es) X.env = (false, eval e X.env) :: starEach es X.env := by rfl) (hpl : (backTo pos (starEach es X.env)).any (·.1) = false := by rfl) :
    PE X (.Call (.Name x p) (e :: es) [] pos) (dE k W (fCall g fs)) :=
  pe_weak (pe_callS Fn hr hg hm hk hb (E := WE W) (fun σ => passAt tk σ) ha hdb he hpl) fun σ H Q ⟨G, μ, F, st, σd, S, R, h⟩ => by
    refine ⟨G, μ, F, st, σd, S, R, (Post.bindE h).mono fun xs st1 μ1 F1 H1 e1 S1 ⟨hq, h1⟩ vs rv => ?_⟩
    exact ⟨by rw [← rv.len, fArgs_len _ _ _ _ _ hq, hl], G, μ1, F1, st1, xs, S1, rv, h1⟩
theorem l_call {lv : Nat} {ad : Addr} {fd : FuncData} {ps : List Str} {n : Nat} {g : List A → Store → RE (List A)} (Fn : FnOk X.prog X.w X.K X.mg X.base (L2.CX X.prog X.w) lv ad fd ps (spL k n g)) (hr : Room lv X.A) (tk : Takes X W) (hg : Gl X x) (hm : X.mg x = some (.ref ad)) (hk : PySem.W.keepIn X.K (.ref ad) = true) (hb : Binds X.K fd ps [])
    (ha : PA X (e :: es) (dA k W (fArgs fs))) (hl : fs.length = n := by rfl) (hdb : (x == ("__debug__" : Str)) = false := by decide) (he : starEach (e :: es) X.env = (false, eval e X.env) :: starEach es X.env := by rfl) (hpl : (backTo pos (starEach es X.env)).any (·.1) = false := by rfl) :
    PE X (.Call (.Name x p) (e :: es) [] pos) (dL k W (lCall g fs)) :=
  pe_weak (pe_callS Fn hr hg hm hk hb (E := WE W) (fun σ => passAt tk σ) ha hdb he hpl) fun σ H Q ⟨G, μ, F, st, σd, S, R, h⟩ => by
    refine ⟨G, μ, F, st, σd, S, R, (Post.bindE h).mono fun xs st1 μ1 F1 H1 e1 S1 ⟨hq, h1⟩ vs rv => ?_⟩
    exact ⟨by rw [← rv.len, fArgs_len _ _ _ _ _ hq, hl], G, μ1, F1, st1, xs, S1, rv, h1⟩
end
section
variable {P : Program} {w : World} {K : PySem.W.Frag} {mg : Str → Option Value} {base : Heap}
/-- the context of a def's body -/
abbrev bodyX (P : Program) (w : World) (K : PySem.W.Frag) (mg : Str → Option Value) (base : Heap) (N : List Str) (qual : Str) (st : Stmt) (f : Addr) (cdv : Value) (A : Around) (outer : List PySem.Env) (s : Shared) (H : Hp) (E : XK) : Cx :=
  cxOf (L2.CX P w) P w K mg base N qual (defScope st) f cdv A outer s H E
theorem fnV_ok {x qual : Str} {st : Stmt} {f : Addr} {fd : FuncData} {N ps : List Str} {lv n m : Nat} {sb : SF} (Fn : Fun K x qual st f fd) (Sc : FnScope N ps (defScope st)) (hn : ps.length = n) (hm : N.length = m)
    (hb : ∀ (cdv : Value) (A : Around) (outer : List PySem.Env) (s : Shared) (H : Hp) (E : XK), Room lv (A.deeper (envOfC qual (defScope st) s.heap.objs.size f cdv)) →
      PSs (bodyX P w K mg base N qual st f cdv A outer s H E) (defBody st) (dS ⟨K, mg⟩ (fun cls d _ H => E cls d H) sb)) :
    FnOk P w K mg base (L2.CX P w) (lv + 1) f fd ps (spV ⟨K, mg⟩ n (fnV m sb)) := by
  subst hm
  refine Fn.okX Sc (fun vs H Q E h => by rw [h.1, hn]) fun cdv A outer s H vs Q E hr h => ⟨_, hb cdv A outer s H E hr, ?_⟩
  obtain ⟨hl, G, μ, F, st, as, S, r, h⟩ := h
  refine ⟨G, μ, F, st, _, S, ERep.start (n := N.length) r, ?_⟩
  unfold fnV at h
  split at h
  · rename_i σd' st' q
    rw [q]
    intro μ1 F1 H1 σ1 e1 S1 R1
    have S2 := S1.take μ.length
    rw [take_ext e1, S.len] at S2
    exact h μ F1 H1 ⟨⟨[], by simp⟩, e1.2⟩ S2 _ Rep.non
  · rename_i a st' q
    rw [q]
    intro μ1 F1 H1 v e1 S1 rv
    unfold retA at h
    split at h
    · rename_i hb
      have S2 := S1.take μ.length
      have r2 := rv.low (n := μ.length) (by rw [S.len]; exact hb)
      rw [take_ext e1] at S2 r2
      rw [S.len] at S2
      exact h μ F1 H1 ⟨⟨[], by simp⟩, e1.2⟩ S2 _ r2
    · split at h
      · rename_i d st2 q2
        obtain ⟨F2, S2, x2, r2, _⟩ := frz_ok S1 rv q2
        have S3 := S2.take μ.length
        rw [take_ext e1, S.len] at S3
        exact h μ F2 H1 ⟨⟨[], by simp⟩, (e1.trans x2).2⟩ S3 _ r2
      · exact h.elim
  · rename_i xx σd' st' q
    rw [q]
    intro μ1 F1 H1 σ1 cls d e1 S1 R1 X1
    have S2 := S1.take μ.length
    rw [take_ext e1, S.len] at S2
    exact h μ F1 H1 cls d ⟨⟨[], by simp⟩, e1.2⟩ S2 X1
  · exact h.elim
theorem fnL_ok {x qual : Str} {st : Stmt} {f : Addr} {fd : FuncData} {N ps : List Str} {lv n m : Nat} {sb : SF} (Fn : Fun K x qual st f fd) (Sc : FnScope N ps (defScope st)) (hn : ps.length = n) (hm : N.length = m)
    (hb : ∀ (cdv : Value) (A : Around) (outer : List PySem.Env) (s : Shared) (H : Hp) (E : XK), Room lv (A.deeper (envOfC qual (defScope st) s.heap.objs.size f cdv)) →
      PSs (bodyX P w K mg base N qual st f cdv A outer s H E) (defBody st) (dS ⟨K, mg⟩ (fun cls d _ H => E cls d H) sb)) :
    FnOk P w K mg base (L2.CX P w) (lv + 1) f fd ps (spL ⟨K, mg⟩ n (fnL m sb)) := by
  subst hm
  refine Fn.okX Sc (fun vs H Q E h => by rw [h.1, hn]) fun cdv A outer s H vs Q E hr h => ⟨_, hb cdv A outer s H E hr, ?_⟩
  obtain ⟨hl, G, μ, F, st, as, S, r, h⟩ := h
  refine ⟨G, μ, F, st, _, S, ERep.start (n := N.length) r, ?_⟩
  unfold fnL at h
  split at h
  · rename_i nn st' q
    rw [q]
    unfold gd at h
    split at h
    · rename_i hle
      split at h
      · rename_i xs q2
        split at h
        · rename_i hall
          intro μ1 F1 H1 v e1 S1 rv
          obtain ⟨ad, hy, rfl⟩ := rv
          obtain ⟨hF, ⟨vs, hH, hr⟩, _⟩ := cell_of S1 hy q2
          have S2 := S1.take μ.length
          have r2 := hr.low (n := μ.length) (by rw [S.len]; exact hall)
          rw [take_ext e1] at S2 r2
          rw [S.len] at S2
          refine h μ F1 H1 ⟨⟨[], by simp⟩, e1.2⟩ S2 ad vs hH hF (fun hm => ?_) (S1.gμ ad (List.mem_of_getElem? hy)) r2
          obtain ⟨j, hj⟩ := List.getElem?_of_mem hm
          have hjl := (List.getElem?_eq_some_iff.mp hj).1
          have := nodup_at S1.nd (e1.at hj) hy
          rw [S.len] at hjl
          omega
        · exact h.elim
      · exact h.elim
    · exact h.elim
  · rename_i xx σd' st' q
    rw [q]
    intro μ1 F1 H1 σ1 cls d e1 S1 R1 X1
    have S2 := S1.take μ.length
    rw [take_ext e1, S.len] at S2
    exact h μ F1 H1 cls d ⟨⟨[], by simp⟩, e1.2⟩ S2 X1
  · exact h.elim
end
end Dn

set_option linter.all false
set_option Elab.async false
set_option maxRecDepth 100000
/-! Ops: more operations. -/
namespace Dn
open PySem PySem.Spec PyProof.Rows L2

section
variable {X : Cx} {W : WX} {k : Kx} {a b c e : Expr} {es : List Expr} {fa fb fc f : EF} {fs : List EF} {l : LF} {pos : Pos} {x : Str} {p : Pos} {ta tb : TF}
theorem OpR.or {f : Value → Value → Sem Value} {r r' : R2} (h : OpR X f r) (h' : OpR X f r') : OpR X f fun x y H Q => r x y H Q ∨ r' x y H Q :=
  fun pins s σ H x y v u Q I rx ry q => q.elim (h pins s σ H x y v u Q I rx ry) (h' pins s σ H x y v u Q I rx ry)
/-- an operation that may make something -/
def Op2 (K : PySem.W.Frag) (r : R2) (o : D → D → Option D) : Prop := ∀ (G : Hp) (μ : List Addr) (F : Hp) (st : Store) (H : Hp) (x y : A) (v w : V) (d e z : D) (Q : VK), Sim K G μ F st H → ARep K μ F x v → ARep K μ F y w →
  x.view st = some d → y.view st = some e → o d e = some z → (∀ F' H' u, Ext μ F μ F' → Sim K G μ F' st H' → Rep K F' z u → Q u H') → r v w H Q
theorem Op2.of {K : PySem.W.Frag} {r : R2} {o : D → D → Option D} (h : OpOk K r o) : Op2 K r o := fun G μ F st H x y v w d e z Q S rx ry h1 h2 h3 hQ => by
  obtain ⟨u, hu, hq⟩ := h v w d e z H Q (view_rep S rx h1) (view_rep S ry h2) h3
  exact hq (hQ F H u (Ext.refl _ _) S (hu F))
theorem op2_run {r : R2} {o : D → D → Option D} (ok : Op2 k.K r o) (G : Hp) (μ : List Addr) (F : Hp) (st : Store) (H : Hp) (x y : A) (v w : V) (Q : VK) (E : XK) (S : Sim k.K G μ F st H) (rx : ARep k.K μ F x v) (ry : ARep k.K μ F y w)
    (h : Post k G μ F E (fun a _ μ' F' H' => ∀ v, ARep k.K μ' F' a v → Q v H') (RE.of ((x.view st).bind fun d => (y.view st).bind fun e => (o d e).map .v) st)) : r v w H Q := by
  obtain ⟨a, ha, h⟩ := h.of
  cases q1 : x.view st with
  | none => rw [q1] at ha; cases ha
  | some d =>
    rw [q1] at ha
    cases q2 : y.view st with
    | none => rw [q2] at ha; cases ha
    | some e =>
      rw [q2] at ha
      have ha' : (o d e).map A.v = some a := ha
      cases q3 : o d e with
      | none => rw [q3] at ha'; cases ha'
      | some z =>
        rw [q3] at ha'; cases ha'
        exact ok G μ F st H x y v w d e z Q S rx ry q1 q2 q3 fun F' H' u e' S' r' => h μ F' H' e' S' u r'
theorem e_op2 {op : Operator} {r : R2} {o : D → D → Option D} (ho : OpR X (binaryOp op) r) (ok : Op2 k.K r o) (ha : PE X a (dE k W fa)) (hb : PE X b (dE k W fb)) : PE X (.BinOp a op b pos) (dE k W (fOp o fa fb)) :=
  pe_weak (pe_op ho ha hb) (bin_run (op2_run ok))
theorem view_seq {K : PySem.W.Frag} {G F H : Hp} {μ : List Addr} {st : Store} (S : Sim K G μ F st H) {a : A} {v : V} {ds : List D} (r : ARep K μ F a v) (h : a.view st = some (.lst ds)) : ∃ p vs, v = .ref p ∧ H p = some (.lst vs) ∧ Reps K F ds vs := by
  cases a with
  | v e => cases h; cases r with
    | lst h1 h2 => exact ⟨_, _, rfl, S.sub _ _ h1, h2⟩
  | ref n =>
    obtain ⟨x, h1, rfl⟩ := r
    unfold A.view at h
    dsimp only at h
    split at h
    · rename_i xs q
      obtain ⟨_, ⟨vs, h2, h3⟩, _⟩ := cell_of S h1 q
      cases e : vals xs with
      | none => rw [e] at h; cases h
      | some ds => rw [e] at h; cases h; exact ⟨_, _, rfl, h2, h3.vals e⟩
    · rename_i ds q
      cases h
      obtain ⟨vs, h2, h3⟩ := cell_of S h1 q
      exact ⟨_, _, rfl, S.sub _ _ h2, h3⟩
    · cases h
theorem view_tup {K : PySem.W.Frag} {G F H : Hp} {μ : List Addr} {st : Store} (S : Sim K G μ F st H) {a : A} {v : V} {ds : List D} (r : ARep K μ F a v) (h : a.view st = some (.tup ds)) : ∃ p vs, v = .ref p ∧ SqT K H p vs ∧ Reps K F ds vs ∧ Rep K F (.tup ds) v := by
  cases a with
  | v e =>
    cases h
    have r' : Rep K F (.tup ds) v := r
    cases r with
    | tup h1 h2 => exact ⟨_, _, rfl, SqT.of (S.sub _ _ h1), h2, r'⟩
  | ref n =>
    unfold A.view at h
    dsimp only at h
    split at h
    · rename_i xs q
      cases e : vals xs with
      | none => rw [e] at h; cases h
      | some ds => rw [e] at h; cases h
    · cases h
    · cases h
theorem Reps.append {K : PySem.W.Frag} {H : Hp} : ∀ {ds es : List D} {vs ws : List V}, Reps K H ds vs → Reps K H es ws → Reps K H (ds ++ es) (vs ++ ws)
  | _, _, _, _, .nil, r => r
  | _, _, _, _, .cons h t, r => .cons h (Reps.append t r)

/-! + -/
/-- t + u of tuples, t empty: u itself -/
def rCat0 (K : PySem.W.Frag) : R2 := fun x y H Q => ∃ a b ys, x = .ref a ∧ y = .ref b ∧ SqT K H a [] ∧ SqT K H b ys ∧ Q (.ref b) H
theorem op_cat0 : OpR X (binaryOp .Add) (rCat0 X.K) := by
  rintro pins s σ H _ _ v u Q I rx ry ⟨a, b, ys, rfl, rfl, ha, hb, q⟩
  cases rx
  cases ry
  obtain ⟨is1, v1, p1, _⟩ := I.tuple ha
  obtain ⟨is2, v2, p2, _⟩ := I.tuple hb
  cases v1
  obtain ⟨o1, g1, c1, n1, d1⟩ := p1
  obtain ⟨o2, g2, c2, n2, d2⟩ := p2
  obtain ⟨_, dd1, _, sl1⟩ := o1
  obtain ⟨_, dd2, _, sl2⟩ := o2
  simp only at c1 d1 c2 d2
  subst c1 d1 c2 d2
  have m := tuple_addW0 a b [].toArray is2.toArray n1 n2 dd1 dd2 sl1 sl2 rfl
  exact concat_meets ⟨_, g1, rfl⟩ ⟨_, g2, rfl⟩ noFill_tuple_add seq_tuple_add PySem.F.slot_tuple_add PySem.F.entry_tuple_add (PySem.F.args_tuple_add_2 _ _) m
    ⟨g1, g2, .ref b, H, I, rfl, q⟩
def rAddU (K : PySem.W.Frag) : R2 := fun x y H Q => rI0 (fun i j => .int (i + j)) x y H Q ∨ rCat0 K x y H Q ∨ rCatT K x y H Q ∨ rCat x y H Q
theorem op_addU : OpR X (binaryOp .Add) (rAddU X.K) := OpR.or op_add (OpR.or op_cat0 (OpR.or op_catT op_cat))
theorem k2_addU {K : PySem.W.Frag} : Op2 K (rAddU K) oAddU := by
  intro G μ F st H x y v w d e z Q S rx ry h1 h2 h3 hQ
  have hs := sizeMax_eq
  cases d with
  | int i =>
    cases e <;> first
      | (cases h3; exact .inl (by
          cases view_rep S rx h1; cases view_rep S ry h2
          exact ⟨_, _, rfl, rfl, hQ F H _ (Ext.refl _ _) S .int⟩))
      | cases h3
  | tup xs =>
    cases e with
    | tup ys =>
      have h3' : gd (xs.length + ys.length ≤ sizeMax) (some (D.tup (xs ++ ys))) none = some z := h3
      unfold gd at h3'
      split at h3'
      · rename_i hl
        cases h3'
        obtain ⟨p, vs, rfl, sq1, r1, rr1⟩ := view_tup S rx h1
        obtain ⟨q, ws, rfl, sq2, r2, rr2⟩ := view_tup S ry h2
        have l1 := r1.length
        have l2 := r2.length
        cases vs with
        | nil =>
          cases r1
          exact .inr (.inl ⟨p, q, ws, rfl, rfl, sq1, sq2, hQ F H _ (Ext.refl _ _) S rr2⟩)
        | cons v0 vr =>
          refine .inr (.inr (.inl ⟨p, q, _, _, rfl, rfl, sq1, sq2, by simp, by omega, fun e => ?_, fun _ a ha => ?_⟩))
          · subst e
            cases r2
            rw [List.append_nil] at hQ
            exact hQ F H _ (Ext.refl _ _) S rr1
          · obtain ⟨S3, x3⟩ := S.new (o := .tup (v0 :: vr ++ ws)) ha
            exact hQ _ _ _ x3 S3 (.tup upd_same ((r1.append r2).mono x3.2))
      · cases h3'
    | _ => cases h3
  | lst xs =>
    cases e with
    | lst ys =>
      have h3' : gd (xs.length + ys.length ≤ sizeMax) (some (D.lst (xs ++ ys))) none = some z := h3
      unfold gd at h3'
      split at h3'
      · rename_i hl
        cases h3'
        obtain ⟨p, vs, rfl, sq1, r1⟩ := view_seq S rx h1
        obtain ⟨q, ws, rfl, sq2, r2⟩ := view_seq S ry h2
        have l1 := r1.length
        have l2 := r2.length
        refine .inr (.inr (.inr ⟨p, q, vs, ws, rfl, rfl, sq1, sq2, by omega, fun a ha => ?_⟩))
        obtain ⟨S3, x3⟩ := S.new (o := .lst (vs ++ ws)) ha
        exact hQ _ _ _ x3 S3 (.lst upd_same ((r1.append r2).mono x3.2))
      · cases h3'
    | _ => cases h3
  | _ => cases h3
theorem Reps.rep {K : PySem.W.Frag} {H : Hp} {ds : List D} {vs : List V} (r : Reps K H ds vs) : ∀ n, Reps K H (repD n ds) (List.replicate n vs).flatten
  | 0 => .nil
  | n + 1 => by
    have ih := Reps.rep r n
    show Reps K H (List.replicate (n + 1) ds).flatten _
    rw [List.replicate_succ, List.replicate_succ, List.flatten_cons, List.flatten_cons]
    exact r.append ih
def rMulU : R2 := fun x y H Q => rI mulOk (fun i j => .int (i * j)) x y H Q ∨ rRep x y H Q
theorem op_mulU : OpR X (binaryOp .Mult) rMulU := OpR.or op_mulB op_rep
theorem k2_mulU {K : PySem.W.Frag} : Op2 K rMulU oMulU := by
  intro G μ F st H x y v w d e z Q S rx ry h1 h2 h3 hQ
  have hs := sizeMax_eq
  cases d with
  | int i =>
    cases e with
    | int j =>
      have h3' : gd (mulOk i j) (some (D.int (i * j))) none = some z := h3
      unfold gd at h3'
      split at h3'
      · rename_i q
        cases h3'
        cases view_rep S rx h1; cases view_rep S ry h2
        exact .inl ⟨i, j, rfl, rfl, q, hQ F H _ (Ext.refl _ _) S .int⟩
      · cases h3'
    | _ => cases h3
  | lst xs =>
    cases e with
    | int kk =>
      have h3' : gd (-(2 ^ 63) ≤ kk ∧ kk < 2 ^ 63 ∧ xs.length * kk.toNat ≤ sizeMax) (some (D.lst (repD kk.toNat xs))) none = some z := h3
      unfold gd at h3'
      split at h3'
      · rename_i q
        cases h3'
        obtain ⟨p, vs, rfl, sq1, r1⟩ := view_seq S rx h1
        cases view_rep S ry h2
        have l1 := r1.length
        refine .inr ⟨p, kk, vs, rfl, rfl, sq1, q.1, q.2.1, by rw [← l1, ← hs]; exact q.2.2, fun a ha => ?_⟩
        obtain ⟨S3, x3⟩ := S.new (o := .lst (List.replicate kk.toNat vs).flatten) ha
        exact hQ _ _ _ x3 S3 (.lst upd_same ((r1.rep _).mono x3.2))
      · cases h3'
    | _ => cases h3
  | _ => cases h3

/-! == -/
/-- a list with an empty list -/
def rEqNil (neg : Bool) : R2 := fun x y H Q => ∃ l b xs ys, x = .ref l ∧ y = .ref b ∧ H l = some (.lst xs) ∧ H b = some (.lst ys) ∧ (xs = [] ∨ ys = []) ∧ Q (.bl (neg ^^ (xs.isEmpty && ys.isEmpty))) H
theorem op_eqNil (hu : X.A.units < cLine) : OpR X (compareOp .Eq) (rEqNil false) := by
  rintro pins s σ H _ _ v u Q I rx ry ⟨l, b, xs, ys, rfl, rfl, h1, h2, hn, q⟩
  cases rx
  cases ry
  obtain ⟨_, is1, n1, v1, g1⟩ := I.hok l _ h1
  obtain ⟨_, is2, n2, v2, g2⟩ := I.hok b _ h2
  have l1 := v1.length
  have l2 := v2.length
  by_cases hz : xs.length = ys.length
  · have e1 : xs = [] := by
      rcases hn with e | e
      · exact e
      · subst e; exact List.length_eq_zero_iff.mp hz
    have e2 : ys = [] := by subst e1; exact List.length_eq_zero_iff.mp hz.symm
    subst e1 e2
    cases v1
    cases v2
    refine PySem.P.eq_list (e := fun _ => true) g1 g2 rfl (fun j hj => absurd hj (by simp)) hu ?_
    exact ⟨.bl _, H, I, rfl, q⟩
  · have hk : (xs.isEmpty && ys.isEmpty) = false := by
      cases xs with
      | nil => cases ys with
        | nil => exact absurd rfl hz
        | cons _ _ => rfl
      | cons _ _ => rfl
    rw [hk] at q
    refine PySem.P.eq_list_lengths g1 g2 ?_ hu ⟨.bl _, H, I, rfl, q⟩
    simp only [List.size_toArray, bne_iff_ne, ne_eq]
    omega
def rEqU : R2 := fun x y H Q => rEq x y H Q ∨ rEqNil false x y H Q
theorem op_eqU (hu : X.A.units < cLine) : OpR X (compareOp .Eq) rEqU := OpR.or op_eq (op_eqNil hu)
theorem Reps.empty {K : PySem.W.Frag} {H : Hp} {ds : List D} {vs : List V} (r : Reps K H ds vs) : ds.isEmpty = vs.isEmpty := by cases r <;> rfl
theorem k2_eqU {K : PySem.W.Frag} : Op2 K rEqU oEqU := by
  intro G μ F st H x y v w d e z Q S rx ry h1 h2 h3 hQ
  have sc : oEqS d e = some z → rEqU v w H Q := fun q => .inl (by
    obtain ⟨u, hu, hq⟩ := k_eqS v w d e z H Q (view_rep S rx h1) (view_rep S ry h2) q
    exact hq (hQ F H u (Ext.refl _ _) S (hu F)))
  cases d with
  | lst xs =>
    cases e with
    | lst ys =>
      obtain ⟨p, vs, rfl, sq1, r1⟩ := view_seq S rx h1
      obtain ⟨q, ws, rfl, sq2, r2⟩ := view_seq S ry h2
      cases ys with
      | nil =>
        cases h3
        cases r2
        refine .inr ⟨p, q, vs, [], rfl, rfl, sq1, sq2, .inr rfl, ?_⟩
        rw [← r1.empty]
        have : (false ^^ (xs.isEmpty && ([] : List V).isEmpty)) = xs.isEmpty := by simp
        rw [this]
        exact hQ F H _ (Ext.refl _ _) S .bl
      | cons y0 yr =>
        cases xs with
        | nil =>
          cases h3
          cases r1
          refine .inr ⟨p, q, [], ws, rfl, rfl, sq1, sq2, .inl rfl, ?_⟩
          rw [← r2.empty]
          exact hQ F H _ (Ext.refl _ _) S .bl
        | cons _ _ => cases h3
    | _ => exact sc h3
  | _ => exact sc (by cases e <;> exact h3)
theorem e_cmp2 {op : CmpOp} {r : R2} {o : D → D → Option D} (ho : OpR X (compareOp op) r) (ok : Op2 k.K r o) (ha : PE X a (dE k W fa)) (hb : PE X b (dE k W fb)) (hm : behindInMarks op b = false) : PE X (.Compare a [op] [b] pos) (dE k W (fOp o fa fb)) :=
  pe_weak (pe_cmpR ho ha hb hm) (bin_run (op2_run ok))
theorem t_cmp2 {op : CmpOp} {r : R2} {o : D → D → Option D} (ho : OpR X (compareOp op) r) (ok : Op2 k.K r o) (ha : PE X a (dE k W fa)) (hb : PE X b (dE k W fb)) (hm : behindInMarks op b = false) : PT X (.Compare a [op] [b] pos) (dT k W (tCmp (fOp o fa fb))) :=
  pt_weak (pt_cmpR ho ha hb hm) fun σ H Q h => by
    refine bin_run (op2_run ok) σ H (fun x H' => ∃ k, x = .bl k ∧ Q k H') ?_
    obtain ⟨G, μ, F, st, σd, S, R, h⟩ := h
    refine ⟨G, μ, F, st, σd, S, R, (Post.bind h).mono fun x st1 μ1 F1 H1 e1 S1 h1 v rv => ?_⟩
    obtain ⟨bb, hb, h2⟩ := h1.of
    exact ⟨bb, bl_rep rv hb, h2 μ1 F1 H1 (Ext.refl _ _) S1⟩
/-! is True -/
def rIsB : R2 := fun x y H Q => ∃ b, y = .bl b ∧ Q (.bl (decide (x = .bl b))) H
theorem op_isB : OpR X (compareOp .Is) rIsB := by
  rintro pins s σ H x _ v u Q I rx ry ⟨b, rfl, q⟩
  cases ry
  have hp : plainIs v (.bool b) = true ∧ (v == .bool b) = decide (x = .bl b) := by
    cases x with
    | bl bb =>
      cases rx
      refine ⟨rfl, ?_⟩
      cases b <;> cases bb <;> decide
    | _ => first
      | (obtain ⟨t, rfl⟩ := rx; exact ⟨rfl, by simp⟩)
      | (cases rx; exact ⟨rfl, by simp⟩)
  exact wpAny_is_plain hp.1 ⟨.bl _, H, I, rfl, by rw [hp.2]; exact q⟩
theorem k_isB {K : PySem.W.Frag} : OpOk K rIsB oIsB := by
  intro x y d e z H Q rx ry h
  cases e <;> first
    | (cases ry; cases d <;> (cases h; cases rx; exact ⟨_, fun _ => .bl, fun q => ⟨_, rfl, by simpa using q⟩⟩))
    | (cases d <;> cases h)
/-! in -/
theorem flat_rep {K : PySem.W.Frag} {H : Hp} {d : D} {v : V} (r : Rep K H d v) (h : flatD d = true) : flatV v = true := by
  cases r <;> first
    | rfl
    | cases h
theorem flats_rep {K : PySem.W.Frag} {H : Hp} : ∀ {ds : List D} {vs : List V}, Reps K H ds vs → ds.all flatD = true → vs.all flatV = true
  | _, _, .nil, _ => rfl
  | _, _, .cons r t, h => by
    simp only [List.all_cons, Bool.and_eq_true] at h ⊢
    exact ⟨flat_rep r h.1, flats_rep t h.2⟩
theorem eqF_rep {K : PySem.W.Frag} {H : Hp} {d e : D} {v w : V} (r : Rep K H d v) (r2 : Rep K H e w) (h : flatD d = true) (h2 : flatD e = true) : eqV v w = eqF d e := by
  cases r <;> first
    | (cases r2 <;> first
        | rfl
        | cases h2)
    | cases h
theorem inF_rep {K : PySem.W.Frag} {H : Hp} {d : D} {v : V} (r : Rep K H d v) (h : flatD d = true) : ∀ {ds : List D} {vs : List V}, Reps K H ds vs → ds.all flatD = true → inV v vs = inF d ds
  | _, _, .nil, _ => rfl
  | _, _, .cons r1 t, h2 => by
    simp only [List.all_cons, Bool.and_eq_true] at h2
    have ih := inF_rep r h t h2.2
    unfold inV inF at ih ⊢
    rw [List.any_cons, List.any_cons, ih, eqF_rep r1 r h2.1 h]
theorem k_in {K : PySem.W.Frag} : OpOk K (rIn K false) oIn := by
  intro x y d e z H Q rx ry h
  cases e with
  | lst xs =>
    have h' : (if flatD d = true ∧ xs.all flatD = true then some (D.bl (inF d xs)) else none) = some z := h
    split at h'
    · rename_i q
      cases h'
      cases ry with
      | lst h1 h2 => exact ⟨_, fun _ => .bl, fun hq => ⟨_, _, rfl, .inl (SqL.of h1), flat_rep rx q.1, flats_rep h2 q.2, by rw [inF_rep rx q.1 h2 q.2]; exact hq⟩⟩
    · cases h'
  | tup xs =>
    have h' : (if flatD d = true ∧ xs.all flatD = true then some (D.bl (inF d xs)) else none) = some z := h
    split at h'
    · rename_i q
      cases h'
      cases ry with
      | tup h1 h2 => exact ⟨_, fun _ => .bl, fun hq => ⟨_, _, rfl, .inr (SqT.of h1), flat_rep rx q.1, flats_rep h2 q.2, by rw [inF_rep rx q.1 h2 q.2]; exact hq⟩⟩
    · cases h'
  | _ => cases h
theorem k_notIn {K : PySem.W.Frag} : OpOk K (rIn K true) oNotIn := by
  intro x y d e z H Q rx ry h
  cases e with
  | lst xs =>
    have h' : (if flatD d = true ∧ xs.all flatD = true then some (D.bl (!inF d xs)) else none) = some z := h
    split at h'
    · rename_i q
      cases h'
      cases ry with
      | lst h1 h2 => exact ⟨_, fun _ => .bl, fun hq => ⟨_, _, rfl, .inl (SqL.of h1), flat_rep rx q.1, flats_rep h2 q.2, by rw [inF_rep rx q.1 h2 q.2]; exact hq⟩⟩
    · cases h'
  | tup xs =>
    have h' : (if flatD d = true ∧ xs.all flatD = true then some (D.bl (!inF d xs)) else none) = some z := h
    split at h'
    · rename_i q
      cases h'
      cases ry with
      | tup h1 h2 => exact ⟨_, fun _ => .bl, fun hq => ⟨_, _, rfl, .inr (SqT.of h1), flat_rep rx q.1, flats_rep h2 q.2, by rw [inF_rep rx q.1 h2 q.2]; exact hq⟩⟩
    · cases h'
  | _ => cases h
end
end Dn

set_option linter.all false
set_option Elab.async false
set_option maxRecDepth 100000
/-! Ops2: sorted, max, min, all, any, isinstance, list(range(n)). -/
namespace Dn
open PySem PySem.Spec PyProof.Rows L2

section
variable {X : Cx} {W : WX} {k : Kx} {a b c e : Expr} {es : List Expr} {fa fb fc f : EF} {fs : List EF} {l : LF} {pos : Pos} {x : Str} {p p2 pos2 : Pos} {ta tb : TF}
theorem ints_areps {K : PySem.W.Frag} {μ : List Addr} {F : Hp} : ∀ ns : List Int, AReps K μ F (ns.map fun i => A.v (.int i)) (ns.map V.int)
  | [] => .nil
  | _ :: r => .cons Rep.int (ints_areps r)
theorem l_sorted (hg : Gl X ("sorted" : Str)) (hm : X.mg ("sorted" : Str) = none) (hk : k.K = X.K) (ha : PE X e (dE k W f)) (hs : starEach [e] X.env = (false, eval e X.env) :: starEach [] X.env := by rfl) (hpl : (backTo pos (starEach [] X.env)).any (·.1) = false := by rfl) : PE X (.Call (.Name ("sorted" : Str) p) [e] [] pos) (dL k W (lSorted f)) :=
  pe_weak (pe_callB cr_sorted hg hm (by decide +kernel) (pa_cons ha pa_nil hs) (by decide) (by decide) hs hpl) fun σ H Q ⟨G, μ, F, st, σd, S, R, h⟩ => by
    refine ⟨G, μ, F, st, σd, S, R, (Post.bind h).mono fun x st1 μ1 F1 H1 e1 S1 h1 v rv => ?_⟩
    obtain ⟨xs, q1, _⟩ := h1.of
    rw [q1] at h1
    cases q : x.view st1 with
    | none => rw [q] at q1; cases q1
    | some d =>
      rw [q] at q1
      cases d with
      | lst ds =>
        obtain ⟨pp, vs, rfl, hh, hr⟩ := view_seq S1 rv q
        have q1' : ((intsD ds).bind fun ns => gd (ns.length < 64) (some ((sortI ns).map fun i => A.v (.int i))) none) = some xs := q1
        cases q2 : intsD ds with
        | none => rw [q2] at q1'; cases q1'
        | some ns =>
          rw [q2] at q1'
          have q3 : gd (ns.length < 64) (some ((sortI ns).map fun i => A.v (.int i))) none = some xs := q1'
          unfold gd at q3
          split at q3
          · rename_i h64
            cases q3
            obtain ⟨e1, _⟩ := ints_rep hr q2
            subst e1
            refine ⟨pp, ns, rfl, SqL.of hh, h64, fun ns' pn hpm hpw hn => ?_⟩
            have : ns' = sortI ns := sort_uniq (hpm.trans (sortI_perm ns).symm) hpw (sortI_pw ns)
            subst this
            exact new_run S1 (ints_areps _) hn h1
          · cases q3
      | _ => cases q1
theorem k_max {K : PySem.W.Frag} : CallOk K (rMax K) bMax := fun vs ds z H Q r h => by
  match ds, r, h with
  | [.lst xs], .cons (.lst h1 h2) .nil, h =>
    have h' : ((intsD xs).bind fun ns => (maxI ns).map D.int) = some z := h
    cases q : intsD xs with
    | none => rw [q] at h'; cases h'
    | some ns =>
      rw [q] at h'
      have h3 : (maxI ns).map D.int = some z := h'
      cases q3 : maxI ns with
      | none => rw [q3] at h3; cases h3
      | some m =>
        rw [q3] at h3; cases h3
        obtain ⟨e1, _⟩ := ints_rep h2 q
        subst e1
        obtain ⟨m1, m2⟩ := maxI_spec q3
        refine ⟨_, fun _ => .int, fun hq => ⟨_, ns, rfl, SqL.of h1, List.length_pos_of_mem m1, fun m' a1 a2 => ?_⟩⟩
        rw [Int.le_antisymm (m2 _ a1) (a2 _ m1)]
        exact hq
theorem k_min {K : PySem.W.Frag} : CallOk K (rMin K) bMin := fun vs ds z H Q r h => by
  match ds, r, h with
  | [.lst xs], .cons (.lst h1 h2) .nil, h =>
    have h' : ((intsD xs).bind fun ns => (minI ns).map D.int) = some z := h
    cases q : intsD xs with
    | none => rw [q] at h'; cases h'
    | some ns =>
      rw [q] at h'
      have h3 : (minI ns).map D.int = some z := h'
      cases q3 : minI ns with
      | none => rw [q3] at h3; cases h3
      | some m =>
        rw [q3] at h3; cases h3
        obtain ⟨e1, _⟩ := ints_rep h2 q
        subst e1
        obtain ⟨m1, m2⟩ := minI_spec q3
        refine ⟨_, fun _ => .int, fun hq => ⟨_, ns, rfl, SqL.of h1, List.length_pos_of_mem m1, fun m' a1 a2 => ?_⟩⟩
        rw [Int.le_antisymm (a2 _ m1) (m2 _ a1)]
        exact hq
theorem bools_rep {K : PySem.W.Frag} {H : Hp} : ∀ {ds : List D} {vs : List V} {ns : List Bool}, Reps K H ds vs → boolsD ds = some ns → vs = ns.map V.bl
  | _, _, _, .nil, h => by cases h; rfl
  | .bl i :: r, _, ns, .cons .bl t, h => by
    have h' : (boolsD r).map (i :: ·) = some ns := h
    cases q : boolsD r with
    | none => rw [q] at h'; cases h'
    | some ms =>
      rw [q] at h'; cases h'
      rw [bools_rep t q]; rfl
theorem k_all {K : PySem.W.Frag} : CallOk K (rAll K) bAll := fun vs ds z H Q r h => by
  match ds, r, h with
  | [.lst xs], .cons (.lst h1 h2) .nil, h =>
    have h' : ((boolsD xs).map fun bs => D.bl (bs.all id)) = some z := h
    cases q : boolsD xs with
    | none => rw [q] at h'; cases h'
    | some ns =>
      rw [q] at h'; cases h'
      have e1 := bools_rep h2 q
      subst e1
      exact ⟨_, fun _ => .bl, fun hq => ⟨_, ns, rfl, SqL.of h1, hq⟩⟩
theorem k_any {K : PySem.W.Frag} : CallOk K (rAny K) bAny := fun vs ds z H Q r h => by
  match ds, r, h with
  | [.lst xs], .cons (.lst h1 h2) .nil, h =>
    have h' : ((boolsD xs).map fun bs => D.bl (bs.any id)) = some z := h
    cases q : boolsD xs with
    | none => rw [q] at h'; cases h'
    | some ns =>
      rw [q] at h'; cases h'
      have e1 := bools_rep h2 q
      subst e1
      exact ⟨_, fun _ => .bl, fun hq => ⟨_, ns, rfl, SqL.of h1, hq⟩⟩

/-! isinstance of a built-in type -/
def tyN : Ty → String
  | .int => "int"
  | .bool => "bool"
  | .str => "str"
  | .tuple => "tuple"
  | .list => "list"
theorem ty_rep {K : PySem.W.Frag} {H : Hp} {d : D} {v : V} (r : Rep K H d v) (t : Ty) : ∃ u, TyX K H v u ∧ PySem.W.kitOne K u (.type (tyN t)) = some (isTy d t) := by
  have tup : ∀ {a : Addr} {vs : List V}, SqT K H a vs → TyX K H (.ref a) (.type "tuple") := fun h => by
    rcases h with (h | ⟨o, h⟩) | ⟨o, its, n, h, hc, _⟩
    · exact .base (.tup h)
    · exact .fTuple h
    · exact .kTuple h hc
  have lst : ∀ {a : Addr} {vs : List V}, SqL K H a vs → TyX K H (.ref a) (.type "list") := fun h => by
    rcases h with (h | ⟨o, h⟩) | ⟨o, its, n, h, hc, _⟩
    · exact .base (.lst h)
    · exact .base (.frz h)
    · exact .kList h hc
  cases r with
  | non => exact ⟨_, .base .non, by cases t <;> first | exact kit_ty (show kitB _ _ = some true by decide +kernel) | exact kit_ty (show kitB _ _ = some false by decide +kernel)⟩
  | bl => exact ⟨_, .base (.bl _), by cases t <;> first | exact kit_ty (show kitB _ _ = some true by decide +kernel) | exact kit_ty (show kitB _ _ = some false by decide +kernel)⟩
  | int => exact ⟨_, .base (.int _), by cases t <;> first | exact kit_ty (show kitB _ _ = some true by decide +kernel) | exact kit_ty (show kitB _ _ = some false by decide +kernel)⟩
  | str => exact ⟨_, .base (.str _), by cases t <;> first | exact kit_ty (show kitB _ _ = some true by decide +kernel) | exact kit_ty (show kitB _ _ = some false by decide +kernel)⟩
  | tup h _ => exact ⟨_, tup (SqT.of h), by cases t <;> first | exact kit_ty (show kitB _ _ = some true by decide +kernel) | exact kit_ty (show kitB _ _ = some false by decide +kernel)⟩
  | lst h _ => exact ⟨_, .base (.lst h), by cases t <;> first | exact kit_ty (show kitB _ _ = some true by decide +kernel) | exact kit_ty (show kitB _ _ = some false by decide +kernel)⟩
  | ro h _ => exact ⟨_, lst h, by cases t <;> first | exact kit_ty (show kitB _ _ = some true by decide +kernel) | exact kit_ty (show kitB _ _ = some false by decide +kernel)⟩
theorem e_isi {y : Str} {t : Ty} (hg : Gl X ("isinstance" : Str)) (hm : X.mg ("isinstance" : Str) = none) (hgt : Gl X y) (hmt : X.mg y = none) (hv : bootBuiltins y = some (.type (tyN t))) (hk : k.K = X.K) (ha : PE X e (dE k W f))
    (hs : starEach [e, .Name y p2] X.env = (false, eval e X.env) :: starEach [.Name y p2] X.env := by rfl) (hs2 : starEach [.Name y p2] X.env = (false, eval (.Name y p2) X.env) :: starEach [] X.env := by rfl) (hpl : (backTo pos (starEach [.Name y p2] X.env)).any (·.1) = false := by rfl)
    (hn : y ≠ "__name__" := by decide) (hd : (y == ("__debug__" : Str)) = false := by decide) : PE X (.Call (.Name ("isinstance" : Str) p) [e, .Name y p2] [] pos) (dE k W (fIsi f t)) :=
  pe_weak (pe_callB call_isi hg hm (by decide +kernel) (pa_cons ha (pa_cons (pe_bltn hgt hmt hv (show RelV (.ty (tyN t)) _ from rfl) hn hd) pa_nil hs2) hs) (by decide) (by decide) hs hpl) fun σ H Q ⟨G, μ, F, st, σd, S, R, h⟩ => by
    refine ⟨G, μ, F, st, σd, S, R, (Post.bind h).mono fun x st1 μ1 F1 H1 e1 S1 h1 v rv => ?_⟩
    obtain ⟨z, q1, h2⟩ := h1.of
    cases q : x.view st1 with
    | none => rw [q] at q1; cases q1
    | some d =>
      rw [q] at q1; cases q1
      obtain ⟨u, hu, hkk⟩ := ty_rep (view_rep S1 rv q) t
      rw [hk] at hu hkk
      exact ⟨v, .ty (tyN t), u, _, _, rfl, .ty _, hu, hkk, h2 μ1 F1 H1 (Ext.refl _ _) S1 _ Rep.bl⟩

/-! list(range(n)) -/
theorem cr_range1 : CallR X (.type "range") (fun vs H Q => ∃ j, vs = [V.int j] ∧ ∀ p, H p = none → Q (.ref p) (upd H p (.rng 0 j))) := by
  rintro pins s σ H vs us Q I r ⟨j, rfl, q⟩
  obtain ⟨u1, rfl, t, rfl⟩ := vals1 r
  refine call_range_1 ⟨.ref s.heap.objs.size, upd H s.heap.objs.size (.rng 0 j), ?_, rfl, q _ (I.hok.fresh (Nat.le_refl _))⟩
  refine I.laid (fun _ _ => Heap.get?_push_of_some _) (Nat.le_refl _) ⟨_, _, _, Heap.get?_push_size _ rfl⟩
theorem call_listR (hc : X.calm = true) : CallR X (.type "list") (fun vs H Q => ∃ p j, vs = [V.ref p] ∧ H p = some (.rng 0 j) ∧ -(2 ^ 62) ≤ j ∧ j ≤ 16777216 ∧ ∀ l, H l = none → Q (.ref l) (upd H l (.lst ((List.range j.toNat).map fun i => V.int (i : Nat))))) := by
  rintro pins s σ H vs us Q I r ⟨p, j, rfl, hp, h1, h2, q⟩
  obtain ⟨u1, rfl, ru⟩ := vals1 r
  cases ru
  obtain ⟨t, u, v, hg⟩ := I.hok p _ hp
  have hsz : Builtin.Range.rangeSize 0 j 1 = (j.toNat : Int) := by
    rw [rangeSize_one]
    split <;> omega
  refine call_list_range (n := j.toNat) (I.ok.hd hc) hg (small_one (by omega) (by omega) h1 (by omega)) hsz (by omega) fun h' tk acc c' kp hn it => ?_
  obtain ⟨i1, i2⟩ := it
  have vv : Vals ((List.range j.toNat).map fun i => V.int (i : Nat)) acc.toList := by
    have go : ∀ (m : Nat) (l : List Value) (o : Nat), l.length = m → (∀ i z, l[i]? = some z → ∃ t, z = Value.int (((o + i : Nat)) : Int) t) → Vals ((List.range' o m).map fun i => V.int (i : Nat)) l := by
      intro m
      induction m with
      | zero => intro l o hl _; cases l with
        | nil => exact .nil
        | cons _ _ => cases hl
      | succ m ih => intro l o hl hz; cases l with
        | nil => cases hl
        | cons y r =>
          rw [List.range'_succ, List.map_cons]
          refine .cons ?_ (ih r (o + 1) (by simpa using hl) fun i z hi => ?_)
          · obtain ⟨t, e⟩ := hz 0 y rfl
            exact ⟨t, e⟩
          · obtain ⟨t, e⟩ := hz (i + 1) z (by simpa using hi)
            exact ⟨t, by rw [e]; congr 2; omega⟩
    rw [List.range_eq_range']
    refine go _ _ _ (by simpa using i1) fun i z hi => ?_
    obtain ⟨t, e⟩ := i2 i z (by simpa using hi)
    exact ⟨t, by rw [e]; congr 1; omega⟩
  refine ⟨.ref s.heap.objs.size, _, I.laid (t' := tk) (o := .lst ((List.range j.toNat).map fun i => V.int (i : Nat))) kp (Nat.le_refl _) ?_, rfl, q _ (I.hok.fresh (Nat.le_refl _))⟩
  exact ⟨by rw [List.length_map, List.length_range, sizeLine_eq]; omega, acc.toList, c', vv, by simpa using hn⟩
theorem range_areps {K : PySem.W.Frag} {μ : List Addr} {F : Hp} : ∀ (n o : Nat), AReps K μ F (rangeA (o : Nat) n) ((List.range' o n).map fun i => V.int (i : Nat))
  | 0, _ => .nil
  | n + 1, o => by
    have e : rangeA (o : Nat) (n + 1) = .v (.int o) :: rangeA ((o + 1 : Nat) : Int) n := by
      show A.v (D.int o) :: rangeA ((o : Int) + 1) n = _
      rw [show ((o : Int) + 1) = ((o + 1 : Nat) : Int) by omega]
    rw [e, List.range'_succ, List.map_cons]
    exact .cons Rep.int (range_areps n (o + 1))
theorem l_range1 (hc : X.calm = true) (hg : Gl X ("list" : Str)) (hm : X.mg ("list" : Str) = none) (hgr : Gl X ("range" : Str)) (hmr : X.mg ("range" : Str) = none) (ha : PE X e (dE k W f))
    (hs : starEach [e] X.env = (false, eval e X.env) :: starEach [] X.env := by rfl) (hpl : (backTo pos2 (starEach [] X.env)).any (·.1) = false := by rfl)
    (hs2 : starEach [.Call (.Name ("range" : Str) p2) [e] [] pos2] X.env = (false, eval (.Call (.Name ("range" : Str) p2) [e] [] pos2) X.env) :: starEach [] X.env := by rfl) (hpl2 : (backTo pos (starEach [] X.env)).any (·.1) = false := by rfl) :
    PE X (.Call (.Name ("list" : Str) p) [.Call (.Name ("range" : Str) p2) [e] [] pos2] [] pos) (dL k W (lRange1 f)) :=
  pe_weak (pe_callTy (call_listR hc) hg hm (by decide +kernel) (pa_cons (pe_callTy cr_range1 hgr hmr (by decide +kernel) (pa_cons ha pa_nil hs) (by decide) (by decide) hs hpl) pa_nil hs2) (by decide) (by decide) hs2 hpl2) fun σ H Q ⟨G, μ, F, st, σd, S, R, h⟩ => by
    refine ⟨G, μ, F, st, σd, S, R, (Post.bind h).mono fun x st1 μ1 F1 H1 e1 S1 h1 v rv => ?_⟩
    cases x with
    | ref n => exact h1.elim
    | v d =>
      cases d with
      | int j =>
        cases rv
        dsimp only at h1
        unfold gd at h1
        split at h1
        · rename_i q
          refine ⟨j, rfl, fun pp hp => ⟨pp, j, rfl, upd_same, q.1.1, q.2, fun l hl => ?_⟩⟩
          have S2 := S1.heap (o := .rng 0 j) hp
          rw [List.range_eq_range']
          exact new_run S2 (range_areps _ 0) hl h1
        · exact h1.elim
      | _ => exact h1.elim
end
end Dn

set_option linter.all false
set_option Elab.async false
set_option maxRecDepth 100000
/-! Ops3: enumerate and zip of lists and tuples, range of three, sorted pairs. -/
namespace Dn
open PySem PySem.Spec PyProof.Rows L2

/-! lists or tuples (true) -/
def SqB (K : PySem.W.Frag) (H : Hp) (b : Bool) (a : Addr) (xs : List V) : Prop := match b with
  | true => SqT K H a xs
  | false => SqL K H a xs
def ItB (h : Heap) (b : Bool) (it a : Addr) (i : Nat) : Prop := match b with
  | true => h.IsTupleIter it a i
  | false => h.IsListIter it a i
def VsB (h : Heap) (b : Bool) (a : Addr) (xs : Array Value) : Prop := match b with
  | true => h.IsTuple a xs
  | false => h.IsList a xs
theorem drawsB {prog : Program} {w : World} {A : Around} (hh : A.handled = none) (b : Bool) (it t : Addr) (hne : t ≠ it) (items : Array Value) :
    Draws prog w A it [it, t] items.size (fun i v => items[i]? = some v) (fun i h => ItB h b it t i ∧ VsB h b t items) := by
  cases b with
  | true => exact Draws.tuple hh it t hne items
  | false => exact Draws.list hh it t hne items
def objB (b : Bool) (a : Addr) : Obj := match b with
  | true => { cls := .type "tuple_iterator", data := .fields #[.ref a, .int 0 0] }
  | false => { cls := .type "list_iterator", data := .fields #[.ref a, .int 0 0] }
theorem beginsB (b : Bool) (a : Addr) (items : Array Value) : Begins (.ref a) (objB b a) fun h => VsB h b a items := by
  cases b with
  | true => exact begins_tuple a items
  | false => exact begins_list a items
theorem itB_new {h : Heap} {b : Bool} {it a : Addr} (e : h.get? it = some (objB b a)) : ItB h b it a 0 := by
  cases b with
  | true => exact ⟨_, e, rfl, rfl⟩
  | false => exact ⟨_, e, rfl, rfl⟩
theorem ItB.obj {h : Heap} {b : Bool} {it a : Addr} {i : Nat} (s : ItB h b it a i) : ∃ o, h.get? it = some o ∧ ∀ v, o.data ≠ .cell v := by
  cases b with
  | true =>
    obtain ⟨o, e, _, d⟩ := s
    exact ⟨o, e, fun v q => by rw [d] at q; cases q⟩
  | false =>
    obtain ⟨o, e, _, d⟩ := s
    exact ⟨o, e, fun v q => by rw [d] at q; cases q⟩
theorem ItB.at {h h' : Heap} {b : Bool} {it a : Addr} {i : Nat} (s : ItB h b it a i) (e : ∀ o, h.get? it = some o → h'.get? it = some o) : ItB h' b it a i := by
  cases b with
  | true => exact Heap.IsTupleIter.at s e
  | false => exact Heap.IsListIter.at s e
section
variable {X : Cx} {pins : List (Addr × Obj)} {σ : St} {H : Hp} {s : Shared}
theorem seqB (I : Inv X pins σ H s) {b : Bool} {a : Addr} {xs : List V} (h : SqB X.K H b a xs) : ∃ its : List Value, Vals xs its ∧ VsB s.heap b a its.toArray := by
  cases b with
  | true =>
    obtain ⟨its, r, p, _⟩ := I.tuple h
    exact ⟨its, r, p⟩
  | false =>
    obtain ⟨its, r, p, _⟩ := I.list h
    exact ⟨its, r, p.isList⟩
theorem seqB_inj (I : Inv X pins σ H s) {b : Bool} {a : Addr} {xs ys : List V} (h : SqB X.K H b a xs) (h' : SqB X.K H b a ys) : xs = ys := by
  cases b with
  | true => exact I.tuple_inj h h'
  | false => exact I.list_inj h h'
end
theorem VsB.lt {h : Heap} {b : Bool} {a : Addr} {xs : Array Value} (v : VsB h b a xs) : a < h.objs.size := by
  cases b with
  | true =>
    obtain ⟨o, e, _⟩ := v
    exact Heap.lt_size e
  | false =>
    obtain ⟨o, e, _⟩ := v
    exact Heap.lt_size e
theorem Same.sqB {K : PySem.W.Frag} {H H' : Hp} {b : Bool} {a : Addr} {xs : List V} (e : Same H H') (h : SqB K H b a xs) : SqB K H' b a xs := by
  cases b with
  | true => exact Same.tup e h
  | false => exact e.seq h

/-! enumerate -/
def IteB (K : PySem.W.Frag) (b : Bool) (a : Addr) : It :=
  ⟨fun i H => ∃ (xs : List V) (x : V), SqB K H b a xs ∧ xs[i]? = some x, fun i H v H' => ∃ T x, v = .ref T ∧ H T = none ∧ H' = upd H T (.tup [.int (i : Nat), x]) ∧ ∀ xs, SqB K H b a xs → xs[i]? = some x, fun i H => ∃ xs : List V, SqB K H b a xs ∧ i = xs.length⟩
theorem turn_enumB {P : Program} {w : World} {K : PySem.W.Frag} {elts : List Expr} {kk : Nat} {tpos : Pos} (b : Bool) (a e it : Addr) :
    Turn P w K (.Tuple elts kk tpos) (IteB K b a) [e, it] e (fun i h => (∃ old, IsEnum h e it ((i : Nat) : Int) old) ∧ ItB h b it a i ∧ e ≠ it ∧ e ≠ a ∧ a ≠ it) where
  mem := by simp
  obj := fun i h st c hb => by
    obtain ⟨⟨old, he⟩, hi, _⟩ := st
    have e' : c = e ∨ c = it := by simpa using hb
    rcases e' with z | z
    · rw [z]; exact ⟨_, he, fun v q => nomatch q⟩
    · rw [z]; exact hi.obj
  keep := fun i h h' st k => let ⟨⟨old, he⟩, hi, hne⟩ := st; ⟨⟨old, k e (by simp) _ he⟩, hi.at fun o q => k it (by simp) o q, hne⟩
  item := by
    intro X hP hw hK hc i pins s σ H E I hf st hg
    subst hP hw hK
    obtain ⟨⟨old, he⟩, hit, hne, hea, hai⟩ := st
    obtain ⟨xs, x, hq, hx⟩ := hg
    obtain ⟨its, rv, p⟩ := seqB I hq
    obtain ⟨u, hu, ru⟩ := rv.get hx
    have hel : e < s.heap.objs.size := Heap.lt_size he
    have hil : it < s.heap.objs.size := by obtain ⟨_, q, _⟩ := hit.obj; exact Heap.lt_size q
    have hlt : i < its.toArray.size := by
      rw [List.size_toArray]
      exact (List.getElem?_eq_some_iff.mp hu).1
    refine wpAny_pyNext_enum_itemD (drawsB (show X.A.in1.handled = none from I.ok.hd hc) b it a hai its.toArray) he ⟨hit, p⟩ hlt hne (by simp [hne, hea]) fun x' h' tk hx' ho hst' hT hsz hk => ?_
    have ex : x' = u := by
      have e1 : its[i]? = some x' := by simpa using hx'
      rw [hu] at e1; cases e1; rfl
    subst ex
    refine ⟨_, rfl, wpAny_letOwnedTupleGo_enum (s := { s with heap := h', toks := tk + 1 }) ho fun h'' he' sb => ?_⟩
    have hT2 : h''.get? s.heap.objs.size = some { cls := .type "tuple", data := .seq #[.int i tk, x'] } := (sb.2 _ (Nat.ne_of_gt hel)).trans hT
    have new : ObjOk X.prog X.w (upd H s.heap.objs.size (.tup [.int (i : Nat), x])) h'' s.heap.objs.size (.tup [.int (i : Nat), x]) :=
      ⟨by show 2 ≤ sizeLine; decide, [.int i tk, x'], .cons ⟨_, rfl⟩ (.cons ru .nil), ⟨_, hT2, rfl, _, rfl⟩⟩
    have I1 : Inv X pins σ (upd H s.heap.objs.size (.tup [.int (i : Nat), x])) { s with heap := h'', toks := tk + 1 } :=
      I.turnedNew (ch := [e, it]) (fun c ob hb q => (sb.2 c (fun z => hb (by simp [z]))).trans (hk c ob (fun z => hb (by simp [z])) (fun z => hb (by simp [z])) q)) hf (Nat.le_refl _) new
    refine ⟨.ref s.heap.objs.size, _, I1, rfl, ⟨_, x, rfl, I.hok.fresh (Nat.le_refl _), rfl, fun ys hy => by rw [seqB_inj I hy hq]; exact hx⟩, ⟨⟨x', ?_⟩, hst'.1.at fun o q => (sb.2 it (Ne.symm hne)).trans q, hne, hea, hai⟩, fun c hb => ?_⟩
    · have e1 : ((i + 1 : Nat) : Int) = (i : Int) + 1 := by omega
      rw [e1]; exact he'
    · have hb' : c < s.heap.objs.size := by
        have e' : c = e ∨ c = it := by simpa using hb
        rcases e' with z | z
        · rw [z]; exact hel
        · rw [z]; exact hil
      rw [upd_ne (Nat.ne_of_lt hb')]
      exact (hf c hb).1
  done := by
    intro X hP hw hK hc i pins s σ H E I hf st hg
    subst hP hw hK
    obtain ⟨⟨old, he⟩, hit, hne, hea, hai⟩ := st
    obtain ⟨xs, hq, hx⟩ := hg
    obtain ⟨f0, f1, f2, f3, f4, f5⟩ := hf it (by simp)
    obtain ⟨its, rv, p⟩ := seqB I hq
    have hl : i = its.toArray.size := by
      rw [List.size_toArray, ← rv.length]
      exact hx
    subst hl
    exact wpAny_pyNext_enum_endD (drawsB (show X.A.in1.handled = none from I.ok.hd hc) b it a hai its.toArray) he ⟨hit, p⟩ fun h' eb => ⟨rfl, I.turned (t' := s.toks) (fun b o hb q => eb b o hb q) f0 f1 f3 f4 f5⟩
  self := fun A i s Q E st h => let ⟨⟨_, he⟩, _⟩ := st; wpAny_pyIter_enum he h

set_option maxHeartbeats 1000000 in
theorem meets_enumB {v : Value} {o : Obj} {H : Heap → Prop} (B : Begins v o H) :
    Meets (Builtin.«enumerate.__new__» ⟨[.type "enumerate", v], []⟩) (fun _ R s => H s.heap ∧
      R (.ok (.ret (.ref (s.heap.push o).objs.size))) { s with heap := (s.heap.push o).push { cls := .type "enumerate", data := .fields #[.none, .bool false, .ref s.heap.objs.size, rawInt 0, .none, .none] } }) :=
  .of_wp fun prog w A R s h => by
    obtain ⟨hp, g, d, tk, os⟩ := s; obtain ⟨h1, h⟩ := h
    have hsub := sub_enumerate
    have q1 : ∀ {A' : Around} {E : Value → Shared → Prop} {Q : Value → Shared → Prop}, Q (.ref hp.objs.size) ⟨hp.push o, g, d, tk, os⟩ → wpAny (model prog w) A' (pyIter v) Q E ⟨hp, g, d, tk, os⟩ :=
      fun q => B.iter prog w _ _ ⟨hp, g, d, tk, os⟩ _ h1 q
    wp_walk using q1
    refine wpAny_stack_any fun st => wpAny_pure ?_
    split
    · rename_i c _ _ _ _ _
      cases (c == Value.type "enumerate")
      · wp_walk using q1
        exact ⟨_, rfl, h⟩
      · wp_walk using q1
        exact ⟨_, rfl, h⟩
    · wp_walk using q1
      exact ⟨_, rfl, h⟩
section
variable {prog : Program} {w : World} {A : Around} {E : Value → Shared → Prop} {s : Shared}
theorem call_enumB {v : Value} {o : Obj} {H : Heap → Prop} {Q : Value → Shared → Prop} (B : Begins v o H) (h1 : H s.heap)
    (h : ∀ h', IsEnum h' (s.heap.objs.size + 1) s.heap.objs.size 0 .none → h'.get? s.heap.objs.size = some o →
      (∀ b o, s.heap.get? b = some o → h'.get? b = some o) → Q (.ref (s.heap.objs.size + 1)) { s with heap := h' }) :
    wpAny (model prog w) A (call (.type "enumerate") [v]) Q E s := by
  refine callType_new F.called_enumerate (by decide) (F.typeCall_enumerate_1 _) (F.newCall_enumerate_1 _) (fun obj => F.args_object_init_2 obj _) F.entry_enumerate_new
    (meets_enumB B) ⟨h1, ?_⟩
  have hz : (s.heap.push o).objs.size = s.heap.objs.size + 1 := Heap.size_push ..
  show _ ∧ _
  rw [hz]
  have he : IsEnum ((s.heap.push o).push { cls := .type "enumerate", data := .fields #[.none, .bool false, .ref s.heap.objs.size, rawInt 0, .none, .none] }) (s.heap.objs.size + 1) s.heap.objs.size 0 .none := by
    have := Heap.get?_push_size (s.heap.push o) (o := { cls := .type "enumerate", data := .fields #[.none, .bool false, .ref s.heap.objs.size, rawInt 0, .none, .none] }) rfl
    rw [hz] at this; exact this
  refine ⟨⟨_, he, rfl⟩, h _ he (Heap.get?_push_of_some _ (Heap.get?_push_size _ B.free)) fun b o x => Heap.get?_push_of_some _ (Heap.get?_push_of_some _ x)⟩
end
def iEnumB (K : PySem.W.Frag) (ta : TA) : TI := fun σ H R => ta σ H fun vs H1 => ∃ b a xs, vs = [.ref a] ∧ SqB K H1 b a xs ∧ R (IteB K b a) H1
theorem pi_enumB {X : Cx} {e : Expr} {ta : TA} {p pos tpos : Pos} {elts : List Expr} {kk : Nat} (hg : Gl X "enumerate") (hm : X.mg "enumerate" = none) (ha : PA X [e] ta) (hs : starEach [e] X.env = [(false, eval e X.env)] := by rfl) :
    PI X (.Tuple elts kk tpos) (.Call (.Name "enumerate" p) [e] [] pos) (iEnumB X.K ta) := by
  refine ⟨fun pins s σ H R I h => ?_⟩
  refine Call_ (ld_blt I hg hm boot_enumerate (PyProof.Rows.callWith_type1 (thn (ha.run pos pins s σ H _ I h) fun us s1 ⟨vs, H1, I1, r1, q1⟩ => ?_) hs rfl))
  obtain ⟨b, a, xs, ex, hq, q⟩ := q1
  subst ex
  cases r1 with
  | cons r rr =>
    cases rr
    cases r
    obtain ⟨its, rv, p'⟩ := seqB I1 hq
    have hal := p'.lt
    refine call_enumB (beginsB b a its.toArray) p' fun h' he hit hk => wpAny_pyIter_enum he ?_
    have I2 : Inv X pins σ H1 { s1 with heap := h' } := I1.kept (t' := s1.toks) hk
    refine ⟨s1.heap.objs.size + 1, [s1.heap.objs.size + 1, s1.heap.objs.size], _, _, H1, rfl, I2, turn_enumB b a (s1.heap.objs.size + 1) s1.heap.objs.size, ⟨⟨.none, he⟩, itB_new hit, Nat.succ_ne_self _, Nat.ne_of_gt (Nat.lt_succ_of_lt hal), Nat.ne_of_lt hal⟩, fun c hb => ?_, q⟩
    have e' : c = s1.heap.objs.size + 1 ∨ c = s1.heap.objs.size := by simpa using hb
    have hle : s1.heap.objs.size ≤ c := by
      rcases e' with z | z
      · rw [z]; exact Nat.le_add_right _ _
      · rw [z]; exact Nat.le_refl _
    exact I1.fpOk hle (I1.hok.fresh hle)

/-! zip of two -/
def ItzB (K : PySem.W.Frag) (b1 b2 : Bool) (a b : Addr) : It :=
  ⟨fun i H => ∃ (xs ys : List V) (x y : V), SqB K H b1 a xs ∧ SqB K H b2 b ys ∧ xs[i]? = some x ∧ ys[i]? = some y,
    fun i H v H' => ∃ T x y, v = .ref T ∧ H T = none ∧ H' = upd H T (.tup [x, y]) ∧ (∀ xs, SqB K H b1 a xs → xs[i]? = some x) ∧ ∀ ys, SqB K H b2 b ys → ys[i]? = some y,
    fun i H => ∃ xs ys : List V, SqB K H b1 a xs ∧ SqB K H b2 b ys ∧ i ≤ xs.length ∧ i ≤ ys.length ∧ (i = xs.length ∨ i = ys.length)⟩
theorem turn_zipB {P : Program} {w : World} {K : PySem.W.Frag} {elts : List Expr} {kk : Nat} {tpos : Pos} {b1 b2 : Bool} {a b z TI TO i1 i2 : Addr} (D : ZipSep2 z TI TO i1 i2 [i1, a] [i2, b]) (n1 : a ≠ i1) (n2 : b ≠ i2) :
    Turn P w K (.Tuple elts kk tpos) (ItzB K b1 b2 a b) [z, TI, TO, i1, i2] z (fun i h => IsZip h z TI TO .none ∧ IsTupOf2 h TI (.ref i1) (.ref i2) ∧ (∃ x y, IsTupOf2 h TO x y) ∧ ItB h b1 i1 a i ∧ ItB h b2 i2 b i) where
  mem := by simp
  obj := fun i h st c hc => by
    obtain ⟨hz, hTI, ⟨x, y, hTO⟩, h1, h2⟩ := st
    have e' : c = z ∨ c = TI ∨ c = TO ∨ c = i1 ∨ c = i2 := by simpa using hc
    rcases e' with q | q | q | q | q
    · rw [q]; exact ⟨_, hz, fun v q => nomatch q⟩
    · rw [q]; exact ⟨_, hTI, fun v q => nomatch q⟩
    · rw [q]; exact ⟨_, hTO, fun v q => nomatch q⟩
    · rw [q]; exact h1.obj
    · rw [q]; exact h2.obj
  keep := fun i h h' st k => by
    obtain ⟨hz, hTI, ⟨x, y, hTO⟩, h1, h2⟩ := st
    exact ⟨k z (by simp) _ hz, k TI (by simp) _ hTI, ⟨x, y, k TO (by simp) _ hTO⟩, h1.at fun o q => k i1 (by simp) o q, h2.at fun o q => k i2 (by simp) o q⟩
  item := by
    intro X hP hw hK hc i pins s σ H E I hf st hg
    subst hP hw hK
    obtain ⟨hz, hTI, ⟨x0, y0, hTO⟩, h1, h2⟩ := st
    obtain ⟨xs, ys, x, y, hqx, hqy, hx, hy⟩ := hg
    obtain ⟨its, rv, p⟩ := seqB I hqx
    obtain ⟨its2, rv2, p2⟩ := seqB I hqy
    obtain ⟨u, hu, ru⟩ := rv.get hx
    obtain ⟨u2, hu2, ru2⟩ := rv2.get hy
    have hzl : z < s.heap.objs.size := Heap.lt_size hz
    have hh : X.A.in1.handled = none := I.ok.hd hc
    refine wpAny_pyNext_zipD2_item D (drawsB hh b1 i1 a n1 its.toArray) (drawsB hh b2 i2 b n2 its2.toArray) hz hTI hTO ⟨h1, p⟩ ⟨h2, p2⟩
      (by rw [List.size_toArray]; exact (List.getElem?_eq_some_iff.mp hu).1) (by rw [List.size_toArray]; exact (List.getElem?_eq_some_iff.mp hu2).1) fun w1 w2 h' tk hw1 hw2 z' TO' s1' s2' hT hsz hk => ?_
    have ex : w1 = u := by
      have e1 : its[i]? = some w1 := by simpa using hw1
      rw [hu] at e1; cases e1; rfl
    have ey : w2 = u2 := by
      have e1 : its2[i]? = some w2 := by simpa using hw2
      rw [hu2] at e1; cases e1; rfl
    subst ex ey
    refine ⟨_, rfl, wpAny_letOwnedTupleGo_zip (s := { s with heap := h', toks := tk }) z' fun h'' z'' sb => ?_⟩
    have hT2 : h''.get? s.heap.objs.size = some { cls := .type "tuple", data := .seq #[w1, w2] } := (sb.2 _ (Nat.ne_of_gt hzl)).trans hT
    have new : ObjOk X.prog X.w (upd H s.heap.objs.size (.tup [x, y])) h'' s.heap.objs.size (.tup [x, y]) :=
      ⟨by show 2 ≤ sizeLine; decide, [w1, w2], .cons ru (.cons ru2 .nil), ⟨_, hT2, rfl, _, rfl⟩⟩
    have I1 : Inv X pins σ (upd H s.heap.objs.size (.tup [x, y])) { s with heap := h'', toks := tk } :=
      I.turnedNew (t' := tk) (ch := [z, TI, TO, i1, i2]) (fun c o hb q => (sb.2 c (fun q' => hb (by simp [q']))).trans (hk c o (fun q' => hb (by simp [q'])) (fun q' => hb (by simp [q'])) (fun q' => hb (by simp [q'])) (fun q' => hb (by simp [q'])) q)) hf (Nat.le_refl _) new
    refine ⟨.ref s.heap.objs.size, _, I1, rfl, ⟨_, x, y, rfl, I.hok.fresh (Nat.le_refl _), rfl, fun l hl => by rw [seqB_inj I hl hqx]; exact hx, fun l hl => by rw [seqB_inj I hl hqy]; exact hy⟩, ⟨z'', ?_, ⟨w1, w2, ?_⟩, ?_, ?_⟩, fun c hcm => ?_⟩
    · exact (sb.2 _ D.TIz).trans (hk _ _ D.TIz D.TITO D.TIi1 D.TIi2 hTI)
    · exact (sb.2 _ D.TOz).trans TO'
    · exact s1'.1.at fun o q => (sb.2 _ D.zi1.symm).trans q
    · exact s2'.1.at fun o q => (sb.2 _ D.zi2.symm).trans q
    · have hlt : c < s.heap.objs.size := by
        have e' : c = z ∨ c = TI ∨ c = TO ∨ c = i1 ∨ c = i2 := by simpa using hcm
        rcases e' with q | q | q | q | q
        · rw [q]; exact hzl
        · rw [q]; exact Heap.lt_size hTI
        · rw [q]; exact Heap.lt_size hTO
        · rw [q]; obtain ⟨_, e1, _⟩ := h1.obj; exact Heap.lt_size e1
        · rw [q]; obtain ⟨_, e2, _⟩ := h2.obj; exact Heap.lt_size e2
      rw [upd_ne (Nat.ne_of_lt hlt)]
      exact (hf c hcm).1
  done := by
    intro X hP hw hK hc i pins s σ H E I hf st hg
    subst hP hw hK
    obtain ⟨hz, hTI, ⟨x0, y0, hTO⟩, h1, h2⟩ := st
    obtain ⟨xs, ys, hqx, hqy, l1, l2, hend⟩ := hg
    obtain ⟨its, rv, p⟩ := seqB I hqx
    obtain ⟨its2, rv2, p2⟩ := seqB I hqy
    have m1 := rv.length
    have m2 := rv2.length
    have hh : X.A.in1.handled = none := I.ok.hd hc
    exact wpAny_pyNext_zipD2_end D (drawsB hh b1 i1 a n1 its.toArray) (drawsB hh b2 i2 b n2 its2.toArray) hz hTI hTO ⟨h1, p⟩ ⟨h2, p2⟩ (by rw [List.size_toArray]; omega) (by rw [List.size_toArray]; omega)
      (by rw [List.size_toArray, List.size_toArray]; omega) fun h' tk hk => ⟨rfl, I.turnedL (t' := tk) (ch := [z, TI, TO, i1, i2]) (fun c o hb q =>
      hk c o (fun q' => hb (by simp [q'])) (fun q' => hb (by simp [q'])) (fun q' => hb (by simp [q'])) (fun q' => hb (by simp [q'])) q) hf⟩
  self := fun A i s Q E st h => wpAny_pyIter_zip st.1 h
def iZipB (K : PySem.W.Frag) (ta : TA) : TI := fun σ H R => ta σ H fun vs H1 => ∃ b1 b2 a b xs ys, vs = [.ref a, .ref b] ∧ SqB K H1 b1 a xs ∧ SqB K H1 b2 b ys ∧ R (ItzB K b1 b2 a b) H1
theorem pi_zipB {X : Cx} {e e2 : Expr} {ta : TA} {p pos tpos : Pos} {elts : List Expr} {kk : Nat} (hg : Gl X "zip") (hm : X.mg "zip" = none) (ha : PA X [e, e2] ta)
    (hs : starEach [e, e2] X.env = (false, eval e X.env) :: starEach [e2] X.env := by rfl) (hpl : (backTo pos (starEach [e2] X.env)).any (·.1) = false := by rfl) :
    PI X (.Tuple elts kk tpos) (.Call (.Name "zip" p) [e, e2] [] pos) (iZipB X.K ta) := by
  refine ⟨fun pins s σ H R I h => ?_⟩
  refine Call_ (ld_blt I hg hm PyProof.Rows.boot_zip (PyProof.Rows.callWith_type1 (thn (ha.run pos pins s σ H _ I h) fun us s1 ⟨vs, H1, I1, r1, q1⟩ => ?_) hs hpl))
  obtain ⟨b1, b2, a, b, xs, ys, ex, hqx, hqy, q⟩ := q1
  subst ex
  cases r1 with
  | cons r rr =>
    cases rr with
    | cons r' rr =>
      cases rr
      cases r
      cases r'
      obtain ⟨its, rv, p1⟩ := seqB I1 hqx
      obtain ⟨its2, rv2, p2⟩ := seqB I1 hqy
      have la := p1.lt
      have lb := p2.lt
      refine zip_begins2 (beginsB b1 a its.toArray) (beginsB b2 b its2.toArray) p1 p2 fun h' hz hTI hTO h1 h2 hsz hk => wpAny_pyIter_zip hz ?_
      have I2 : Inv X pins σ H1 { s1 with heap := h' } := I1.kept (t' := s1.toks) hk
      refine ⟨s1.heap.objs.size + 4, [s1.heap.objs.size + 4, s1.heap.objs.size + 2, s1.heap.objs.size + 3, s1.heap.objs.size, s1.heap.objs.size + 1], _, _, H1, rfl, I2,
        turn_zipB (zip_sep2 (fp1 := [a]) (fp2 := [b]) (by simpa using la) (by simpa using lb)) (Nat.ne_of_lt la) (Nat.ne_of_lt (Nat.lt_succ_of_lt lb)), ⟨hz, hTI, ⟨_, _, hTO⟩, itB_new h1, itB_new h2⟩, fun c hcm => ?_, q⟩
      have e' : c = s1.heap.objs.size + 4 ∨ c = s1.heap.objs.size + 2 ∨ c = s1.heap.objs.size + 3 ∨ c = s1.heap.objs.size ∨ c = s1.heap.objs.size + 1 := by simpa using hcm
      have hle : s1.heap.objs.size ≤ c := by
        rcases e' with z | z | z | z | z
        · rw [z]; exact Nat.le_add_right _ _
        · rw [z]; exact Nat.le_add_right _ _
        · rw [z]; exact Nat.le_add_right _ _
        · rw [z]; exact Nat.le_refl _
        · rw [z]; exact Nat.le_add_right _ _
      exact I1.fpOk hle (I1.hok.fresh hle)

/-! the rules -/
theorem enumA_len : ∀ (ds : List D) (o : Nat), (enumA o ds).length = ds.length
  | [], _ => rfl
  | d :: r, o => by show (enumA (o + 1) r).length + 1 = _; rw [enumA_len r]; rfl
theorem enumA_get : ∀ (ds : List D) (o i : Nat) (x : A), (enumA o ds)[i]? = some x → ∃ d, ds[i]? = some d ∧ x = .v (.tup [.int ((o + i : Nat) : Int), d])
  | [], _, i, x, h => by simp [enumA] at h
  | d :: r, o, 0, x, h => by
    have h' : some (A.v (.tup [.int (o : Nat), d])) = some x := h
    cases h'
    exact ⟨d, rfl, by simp⟩
  | d :: r, o, i + 1, x, h => by
    obtain ⟨d', h1, h2⟩ := enumA_get r (o + 1) i x h
    refine ⟨d', h1, ?_⟩
    rw [h2]
    congr 4
    omega
theorem zipA_len : ∀ (ds es : List D), (zipA ds es).length = min ds.length es.length
  | [], es => by simp [zipA]
  | d :: r, [] => by simp [zipA]
  | d :: r, e :: s => by show (zipA r s).length + 1 = _; rw [zipA_len r s]; simp
theorem zipA_get : ∀ (ds es : List D) (i : Nat) (x : A), (zipA ds es)[i]? = some x → ∃ d e, ds[i]? = some d ∧ es[i]? = some e ∧ x = .v (.tup [d, e])
  | [], es, i, x, h => by simp [zipA] at h
  | d :: r, [], i, x, h => by simp [zipA] at h
  | d :: r, e :: s, 0, x, h => by
    have h' : some (A.v (.tup [d, e])) = some x := h
    cases h'
    exact ⟨d, e, rfl, rfl, rfl⟩
  | d :: r, e :: s, i + 1, x, h => by
    obtain ⟨d', e', h1, h2, h3⟩ := zipA_get r s i x h
    exact ⟨d', e', h1, h2, h3⟩
section
variable {X : Cx} {W : WX} {k : Kx} {a b c e : Expr} {fa fb fc f : EF} {pos p : Pos}
/-- a list or tuple of data, that stands so for the walk -/
theorem seqd_rep {K : PySem.W.Frag} {G F H : Hp} {μ : List Addr} {st : Store} (S : Sim K G μ F st H) {x : A} {v : V} {ds : List D} {g : Store → Prop} (r : ARep K μ F x v) (h : x.seqd st = some (ds, g)) :
    ∃ b ad vs, v = .ref ad ∧ SqB K H b ad vs ∧ ∀ G' μ' F' st' H', Ext μ F μ' F' → Sim K G' μ' F' st' H' → g st' → ∃ ws, SqB K H' b ad ws ∧ Reps K F' ds ws := by
  cases x with
  | v d =>
    cases d with
    | lst xs =>
      cases h
      cases r with
      | lst h1 h2 => exact ⟨false, _, _, rfl, SqL.of (S.sub _ _ h1), fun G' μ' F' st' H' e S' _ => ⟨_, SqL.of (S'.sub _ _ (e.2 _ _ h1)), h2.mono e.2⟩⟩
    | tup xs =>
      cases h
      cases r with
      | tup h1 h2 => exact ⟨true, _, _, rfl, SqT.of (S.sub _ _ h1), fun G' μ' F' st' H' e S' _ => ⟨_, SqT.of (S'.sub _ _ (e.2 _ _ h1)), h2.mono e.2⟩⟩
    | ro xs =>
      cases h
      cases r with
      | ro h1 h2 => exact ⟨false, _, _, rfl, S.sub.seq h1, fun G' μ' F' st' H' e S' _ => ⟨_, S'.sub.seq (e.2.seq h1), h2.mono e.2⟩⟩
    | _ => cases h
  | ref n =>
    obtain ⟨y, hy, rfl⟩ := r
    unfold A.seqd at h
    dsimp only at h
    split at h
    · rename_i xs q
      cases q2 : vals xs with
      | none => rw [q2] at h; cases h
      | some es =>
        rw [q2] at h; cases h
        obtain ⟨_, ⟨vs, h2, h3⟩, _⟩ := cell_of S hy q
        refine ⟨false, _, _, rfl, SqL.of h2, fun G' μ' F' st' H' e S' hg => ?_⟩
        obtain ⟨_, ⟨ws, h5, h6⟩, _⟩ := cell_of S' (e.at hy) hg
        exact ⟨ws, SqL.of h5, h6.vals q2⟩
    · rename_i es q
      cases h
      obtain ⟨vs, h2, h3⟩ := cell_of S hy q
      exact ⟨false, _, _, rfl, SqL.of (S.sub _ _ h2), fun G' μ' F' st' H' e S' _ => ⟨_, SqL.of (S'.sub _ _ (e.2 _ _ h2)), h3.mono e.2⟩⟩
    · cases h
theorem i_enum {elts : List Expr} {kk : Nat} {tpos : Pos} (hk : k.K = X.K) (hg : Gl X "enumerate") (hm : X.mg "enumerate" = none) (ha : PE X e (dE k W f)) (hs : starEach [e] X.env = [(false, eval e X.env)] := by rfl) :
    PI X (.Tuple elts kk tpos) (.Call (.Name "enumerate" p) [e] [] pos) (dI k W (iEnum f)) :=
  pi_weak (pi_enumB hg hm (pa_cons ha pa_nil hs) hs) fun σ H Q ⟨G, μ, F, st, σd, S, R, h⟩ => by
    refine ⟨G, μ, F, st, σd, S, R, (Post.bind h).mono fun x st1 μ1 F1 H1 e1 S1 h1 v rv => ?_⟩
    rw [← hk]
    split at h1
    · rename_i ds g q
      obtain ⟨b, ad, vs, rfl, hq, hw⟩ := seqd_rep S1 rv q
      refine ⟨b, ad, vs, rfl, hq, h1 μ1 F1 H1 (Ext.refl _ _) S1 _ fun G' i μ' F' st' H' e' S' hg' => ?_⟩
      obtain ⟨ws, hq', hr⟩ := hw G' μ' F' st' H' e' S' hg'
      refine ⟨fun x hx => ?_, fun hl => ⟨ws, hq', by rw [hl, ← hr.len]; exact enumA_len ds 0⟩⟩
      obtain ⟨d, hd, rfl⟩ := enumA_get ds 0 i x hx
      obtain ⟨u, h7, h8⟩ := hr.get hd
      refine ⟨⟨ws, u, hq', h7⟩, fun w H2 hy => ?_⟩
      obtain ⟨T, x2, rfl, hT, rfl, hxx⟩ := hy
      have hxx' := hxx ws hq'
      rw [h7] at hxx'; cases hxx'
      obtain ⟨S3, x3⟩ := S'.new (o := .tup [.int ((i : Nat) : Int), u]) hT
      exact ⟨_, x3, S3, Rep.tup upd_same (.cons (by rw [Nat.zero_add]; exact .int) (.cons (h8.mono x3.2) .nil))⟩
    · exact h1.elim
theorem i_zip {elts : List Expr} {kk : Nat} {tpos : Pos} (hk : k.K = X.K) (hg : Gl X "zip") (hm : X.mg "zip" = none) (ha : PE X a (dE k W fa)) (hb : PE X b (dE k W fb))
    (hs : starEach [a, b] X.env = (false, eval a X.env) :: starEach [b] X.env := by rfl) (hs2 : starEach [b] X.env = (false, eval b X.env) :: starEach [] X.env := by rfl) (hpl : (backTo pos (starEach [b] X.env)).any (·.1) = false := by rfl) :
    PI X (.Tuple elts kk tpos) (.Call (.Name "zip" p) [a, b] [] pos) (dI k W (iZip fa fb)) :=
  pi_weak (pi_zipB hg hm (pa_cons ha (pa_cons hb pa_nil hs2) hs) hs hpl) fun σ H Q ⟨G, μ, F, st, σd, S, R, h⟩ => by
    refine ⟨G, μ, F, st, σd, S, R, (Post.bind h).mono fun x st1 μ1 F1 H1 e1 S1 h1 v rv => ?_⟩
    refine ⟨G, μ1, F1, st1, σd, S1, R.ext e1, (Post.bind h1).mono fun y st2 μ2 F2 H2 e2 S2 h2 w rw' => ?_⟩
    rw [← hk]
    split at h2
    · rename_i ds g es g' q q2
      obtain ⟨b, ad, vs, rfl, hq, hw⟩ := seqd_rep S2 (rv.ext e2) q
      obtain ⟨b', ad', vs', rfl, hq2, hw2⟩ := seqd_rep S2 rw' q2
      refine ⟨b, b', ad, ad', vs, vs', rfl, hq, hq2, h2 μ2 F2 H2 (Ext.refl _ _) S2 _ fun G' i μ' F' st' H' e' S' hg' => ?_⟩
      obtain ⟨ws, hq', hr⟩ := hw G' μ' F' st' H' e' S' hg'.1
      obtain ⟨us, hq2', hr2⟩ := hw2 G' μ' F' st' H' e' S' hg'.2
      have hl1 := hr.len
      have hl2 := hr2.len
      refine ⟨fun x hx => ?_, fun hl => ⟨ws, us, hq', hq2', ?_⟩⟩
      · obtain ⟨d, d', hd, hd', rfl⟩ := zipA_get ds es i x hx
        obtain ⟨u, h7, h8⟩ := hr.get hd
        obtain ⟨u', h7', h8'⟩ := hr2.get hd'
        refine ⟨⟨ws, us, u, u', hq', hq2', h7, h7'⟩, fun w H2 hy => ?_⟩
        obtain ⟨T, x2, y2, rfl, hT, rfl, hxx, hyy⟩ := hy
        have hxx' := hxx ws hq'
        have hyy' := hyy us hq2'
        rw [h7] at hxx'; cases hxx'
        rw [h7'] at hyy'; cases hyy'
        obtain ⟨S3, x3⟩ := S'.new (o := .tup [u, u']) hT
        exact ⟨_, x3, S3, Rep.tup upd_same (.cons (h8.mono x3.2) (.cons (h8'.mono x3.2) .nil))⟩
      · rw [zipA_len] at hl
        omega
    · exact h2.elim
end

/-! sorted of ints or pairs -/
theorem CallR.or {X : Cx} {f : Value} {r r' : List V → Hp → VK → Prop} (h : CallR X f r) (h' : CallR X f r') : CallR X f fun xs H Q => r xs H Q ∨ r' xs H Q :=
  fun pins s σ H vs us Q I rv q => q.elim (h pins s σ H vs us Q I rv) (h' pins s σ H vs us Q I rv)
open Classical in
/-- the pair at a value -/
noncomputable def keyP (H : Hp) (v : V) : Int × Int := if h : ∃ p : Int × Int, ∃ t, v = .ref t ∧ H t = some (.tup [.int p.1, .int p.2]) then Classical.choose h else (0, 0)
theorem keyP_eq {H : Hp} {t : Addr} {i j : Int} (h : H t = some (.tup [.int i, .int j])) : keyP H (.ref t) = (i, j) := by
  have hx : ∃ p : Int × Int, ∃ t', V.ref t = .ref t' ∧ H t' = some (.tup [.int p.1, .int p.2]) := ⟨(i, j), t, rfl, h⟩
  unfold keyP
  rw [dif_pos hx]
  obtain ⟨t', e, h2⟩ := Classical.choose_spec hx
  cases e
  rw [h] at h2
  injection h2 with h2
  injection h2 with h2
  injection h2 with h3 h4
  injection h4 with h4 _
  injection h3 with h3
  injection h4 with h4
  exact Prod.ext h3.symm h4.symm
theorem pairs_rep {K : PySem.W.Frag} {H : Hp} : ∀ {ds : List D} {vs : List V} {ps : List (Int × Int)}, Reps K H ds vs → pairsD ds = some ps → vs.map (keyP H) = ps ∧ ∀ v ∈ vs, ∃ t, v = .ref t ∧ H t = some (.tup [.int (keyP H v).1, .int (keyP H v).2])
  | _, _, _, .nil, h => by cases h; exact ⟨rfl, fun v hv => by cases hv⟩
  | .tup [.int i, .int j] :: r, _, ps, .cons (.tup h1 h2) t, h => by
    have h' : (pairsD r).map ((i, j) :: ·) = some ps := h
    cases q : pairsD r with
    | none => rw [q] at h'; cases h'
    | some ms =>
      rw [q] at h'; cases h'
      obtain ⟨a1, a2⟩ := pairs_rep t q
      cases h2 with
      | cons x1 x2 =>
        cases x1
        cases x2 with
        | cons y1 y2 =>
          cases y1
          cases y2
          refine ⟨by rw [List.map_cons, a1, keyP_eq h1], fun v hv => ?_⟩
          rcases List.mem_cons.mp hv with e | hv
          · subst e
            exact ⟨_, rfl, by rw [keyP_eq h1]; exact h1⟩
          · exact a2 v hv
theorem pairs_areps {K : PySem.W.Frag} {μ : List Addr} {F : Hp} {kf : V → Int × Int} : ∀ {vs : List V}, (∀ v ∈ vs, ∃ t, v = .ref t ∧ F t = some (.tup [.int (kf v).1, .int (kf v).2])) → AReps K μ F ((vs.map kf).map fun p => .v (pairD p)) vs
  | [], _ => .nil
  | v :: r, h => by
    obtain ⟨t, e, ht⟩ := h v List.mem_cons_self
    refine .cons ?_ (pairs_areps fun z hz => h z (List.mem_cons_of_mem _ hz))
    rw [e] at ht ⊢
    exact Rep.tup ht (.cons .int (.cons .int .nil))
def rSortedU (K : PySem.W.Frag) : List V → Hp → VK → Prop := fun xs H Q => rSortedI K xs H Q ∨ rSortedPO K xs H Q
section
variable {X : Cx} {W : WX} {k : Kx} {a b c e : Expr} {fa fb fc f : EF} {pos p : Pos}
theorem l_sortedU (hk : k.K = X.K) (hg : Gl X ("sorted" : Str)) (hm : X.mg ("sorted" : Str) = none) (ha : PE X e (dE k W f)) (hs : starEach [e] X.env = (false, eval e X.env) :: starEach [] X.env := by rfl) (hpl : (backTo pos (starEach [] X.env)).any (·.1) = false := by rfl) :
    PE X (.Call (.Name ("sorted" : Str) p) [e] [] pos) (dL k W (lSortedU f)) :=
  pe_weak (pe_callB (CallR.or cr_sortedI cr_sortedPO) hg hm (by decide +kernel) (pa_cons ha pa_nil hs) (by decide) (by decide) hs hpl) fun σ H Q ⟨G, μ, F, st, σd, S, R, h⟩ => by
    refine ⟨G, μ, F, st, σd, S, R, (Post.bind h).mono fun x st1 μ1 F1 H1 e1 S1 h1 v rv => ?_⟩
    obtain ⟨xs, q1, _⟩ := h1.of
    rw [q1] at h1
    cases q : x.view st1 with
    | none => rw [q] at q1; cases q1
    | some d =>
      rw [q] at q1
      cases d with
      | lst ds =>
        obtain ⟨pp, vs, rfl, hh, hr⟩ := view_seq S1 rv q
        have q1' : (match intsD ds with
          | some ns => some ((sortI ns).map fun i => A.v (.int i))
          | none => (pairsD ds).map fun ps => (sortP ps).map fun p => A.v (pairD p)) = some xs := q1
        cases q2 : intsD ds with
        | some ns =>
          rw [q2] at q1'
          cases q1'
          obtain ⟨e1, _⟩ := ints_rep hr q2
          subst e1
          refine .inl ⟨pp, ns, rfl, SqL.of hh, fun ns' pn hpm hpw hn => ?_⟩
          have : ns' = sortI ns := sort_uniq (hpm.trans (sortI_perm ns).symm) hpw (sortI_pw ns)
          subst this
          exact new_run S1 (ints_areps _) hn h1
        | none =>
          rw [q2] at q1'
          cases q3 : pairsD ds with
          | none => rw [q3] at q1'; cases q1'
          | some ps =>
            rw [q3] at q1'
            cases q1'
            obtain ⟨e1, e2⟩ := pairs_rep hr q3
            subst e1
            refine .inr ⟨pp, vs, keyP F1, rfl, SqL.of hh, fun v hv => ?_, fun ys pn hs1 hs2 hn => ?_⟩
            · obtain ⟨t, e, ht⟩ := e2 v hv
              exact ⟨t, e, S1.sub _ _ ht⟩
            · have ey : ys.map (keyP F1) = sortP (vs.map (keyP F1)) := by
                refine pair_uniq ((hs2.perm.map _).trans (sortP_perm _).symm) ?_ (sortP_pw _)
                rw [List.pairwise_map]
                refine List.Pairwise.imp (fun {x y} hxy => ?_) hs1
                have := SrtO.lexB_no.mp hxy
                unfold lePP
                omega
              have ra := pairs_areps (K := k.K) (μ := μ1) (F := F1) (kf := keyP F1) (vs := ys) fun v hv => e2 v (hs2.perm.mem_iff.mp hv)
              rw [ey] at ra
              exact new_run S1 ra hn h1
      | _ => cases q1
theorem lexLtI_eq : ∀ ns ms : List Int, HT.lexLt ns ms = lexLtI ns ms
  | [], [] => rfl
  | [], _ :: _ => rfl
  | _ :: _, [] => rfl
  | x :: xs, y :: ys => by
    unfold lexLtI
    rw [HT.lexLt_cons, lexLtI_eq xs ys]
    by_cases h : x = y
    · rw [if_pos h, if_pos (dec_pos h)]
    · rw [if_neg h, if_neg (by rw [dec_neg h]; decide), dec_eq]
def rLtU (K : PySem.W.Frag) : R2 := fun x y H Q => rI0 (fun i j => .bl (decide (i < j))) x y H Q ∨ rLtT K x y H Q
theorem op_ltU (hu : X.A.units < cLine) : OpR X (compareOp .Lt) (rLtU X.K) := OpR.or op_lt (op_ltT hu)
theorem k_ltU {K : PySem.W.Frag} : OpOk K (rLtU K) oLtU := by
  intro x y d e z H Q rx ry h
  cases d with
  | int i =>
    cases e <;> first
      | (obtain ⟨v, h1, h2⟩ := k_lt (K := K) x y _ _ z H Q rx ry h; exact ⟨v, h1, fun q => .inl (h2 q)⟩)
      | cases h
  | tup xs =>
    cases e with
    | tup ys =>
      cases rx with
      | tup h1 h2 =>
        cases ry with
        | tup h3 h4 =>
          have h' : ((intsD xs).bind fun ns => (intsD ys).map fun ms => D.bl (lexLtI ns ms)) = some z := h
          cases q1 : intsD xs with
          | none => rw [q1] at h'; cases h'
          | some ns =>
            cases q2 : intsD ys with
            | none => rw [q1, q2] at h'; cases h'
            | some ms =>
              rw [q1, q2] at h'; cases h'
              obtain ⟨e1, _⟩ := ints_rep h2 q1
              obtain ⟨e2, _⟩ := ints_rep h4 q2
              subst e1 e2
              exact ⟨_, fun _ => .bl, fun q => .inr ⟨_, _, ns, ms, rfl, rfl, SqT.of h1, SqT.of h3, by rw [lexLtI_eq]; exact q⟩⟩
    | _ => cases h
  | _ => cases h

/-! range(i, j, -1) -/
theorem rangeC_len : ∀ (n : Nat) (lo c : Int), (rangeC lo c n).length = n
  | 0, _, _ => rfl
  | n + 1, lo, c => by show (rangeC (lo + c) c n).length + 1 = n + 1; rw [rangeC_len n]
theorem rangeC_get : ∀ (n : Nat) (lo c : Int) (i : Nat), i < n → (rangeC lo c n)[i]? = some (.v (.int (lo + (i : Nat) * c)))
  | n + 1, lo, c, 0, _ => by show some (A.v (D.int lo)) = _; simp
  | n + 1, lo, c, i + 1, h => by
    show (rangeC (lo + c) c n)[i]? = _
    rw [rangeC_get n (lo + c) c i (by omega)]
    congr 3
    rw [show (((i + 1 : Nat) : Int)) = (i : Int) + 1 by omega, Int.add_mul]
    omega
theorem yields_c {μ : List Addr} {F : Hp} {lo c : Int} {n : Nat} : Yields k μ F ⟨rangeC lo c n, fun _ => True⟩ (Itc lo c n) := by
  intro G i μ' F' st H e S hg
  refine ⟨fun x hx => ?_, fun hl => by rw [rangeC_len] at hl; exact Nat.le_of_eq hl.symm⟩
  have hi : i < n := by
    have := (List.getElem?_eq_some_iff.mp hx).1
    rw [rangeC_len] at this; exact this
  refine ⟨hi, fun v H' hy => ?_⟩
  obtain ⟨rfl, rfl⟩ := hy
  rw [rangeC_get n lo c i hi] at hx; cases hx
  exact ⟨F', Ext.refl _ _, S, Rep.int⟩
theorem i_rangeDn {tg : Expr} {j2 : Nat} {p1 p3 : Pos} (hg : Gl X ("range" : Str)) (hm : X.mg ("range" : Str) = none) (ha : PE X a (dE k W fa)) (hb : PE X b (dE k W fb))
    (hs : starEach [a, b, .UnaryOp .USub (.Constant (.int 1) j2 p1) p3] X.env = (false, eval a X.env) :: starEach [b, .UnaryOp .USub (.Constant (.int 1) j2 p1) p3] X.env := by rfl)
    (hs2 : starEach [b, .UnaryOp .USub (.Constant (.int 1) j2 p1) p3] X.env = (false, eval b X.env) :: starEach [.UnaryOp .USub (.Constant (.int 1) j2 p1) p3] X.env := by rfl)
    (hs3 : starEach [.UnaryOp .USub (.Constant (.int 1) j2 p1) p3] X.env = (false, eval (.UnaryOp .USub (.Constant (.int 1) j2 p1) p3) X.env) :: starEach [] X.env := by rfl)
    (hpl : (backTo pos (starEach [b, .UnaryOp .USub (.Constant (.int 1) j2 p1) p3] X.env)).any (·.1) = false := by rfl) :
    PI X tg (.Call (.Name ("range" : Str) p) [a, b, .UnaryOp .USub (.Constant (.int 1) j2 p1) p3] [] pos) (dI k W (iRangeDn fa fb)) :=
  pi_weak (pi_range3 hg hm (pa_cons ha (pa_cons hb (pa_cons (e_un (k := k) (W := W) un_neg k_neg (e_int (k := k) (W := W) (i := 1))) pa_nil hs3) hs2) hs) hs hpl) fun σ H Q ⟨G, μ, F, st, σd, S, R, h⟩ => by
    refine ⟨G, μ, F, st, σd, S, R, (Post.bind h).mono fun x st1 μ1 F1 H1 e1 S1 h1 v rv => ?_⟩
    refine ⟨G, μ1, F1, st1, σd, S1, R.ext e1, (Post.bind h1).mono fun y st2 μ2 F2 H2 e2 S2 h2 w rw' => ?_⟩
    refine ⟨G, μ2, F2, st2, σd, S2, (R.ext e1).ext e2, fun μ3 F3 H3 e3 S3 u ru => ?_⟩
    cases ru
    cases x with
    | ref n => exact h2.elim
    | v d =>
      cases d with
      | int i =>
        cases y with
        | ref n => exact h2.elim
        | v d' =>
          cases d' with
          | int j =>
            cases rv; cases rw'
            dsimp only at h2
            unfold gd at h2
            split at h2
            · rename_i q
              exact ⟨i, j, _, _, rfl, RgC.neg q.1.1 q.1.2 q.2.1 q.2.2, Post.ext e3 h2 μ3 F3 H3 (Ext.refl _ _) S3 _ yields_c⟩
            · exact h2.elim
          | _ => exact h2.elim
      | _ => cases y <;> exact h2.elim
def ipM : TIp := fun x y H Q => ∃ i j, x = .int i ∧ y = .int j ∧ mulOk i j ∧ Q (.int (i * j)) H
theorem ip_mul : PIp X .Mult ipM := by
  intro pins s σ H x y v u Q I r1 r2 h
  obtain ⟨i, j, e1, e2, hc, q⟩ := h
  subst e1; subst e2
  obtain ⟨t, rfl⟩ := r1
  obtain ⟨t', rfl⟩ := r2
  exact _root_.PyProof.Rows.imul_int ⟨.int _, H, I.tok _, ⟨_, rfl⟩, q⟩ (mulOk_ok hc)
theorem ipk_mul {K : PySem.W.Frag} : IpOk K ipM oMul := fun x y d e z H Q rx ry h => by
  cases d with
  | int i =>
    cases e with
    | int j =>
      have h3' : gd (mulOk i j) (some (D.int (i * j))) none = some z := h
      unfold gd at h3'
      split at h3'
      · rename_i q
        cases h3'
        cases rx; cases ry
        exact ⟨_, fun _ => .int, fun q' => ⟨_, _, rfl, rfl, q, q'⟩⟩
      · cases h3'
    | _ => cases h
  | _ => cases h
end

/-! sum, max, min of a list or a tuple -/
section
variable {prog : Program} {w : World} {A : Around} {E : Value → Shared → Prop} {s : Shared} {l : Addr} {xs : Array (Int × Tok)}
theorem iter_intTup {Q : Value → Shared → Prop} (hl : s.heap.IsTuple l (intItems xs))
    (h : ∀ s₂ : Shared, s₂ = { s with heap := s.heap.push { cls := .type "tuple_iterator", data := .fields #[.ref l, .int 0 0] } } →
      (s₂.heap.IsTupleIter s.heap.objs.size l 0 ∧ s₂.heap.IsTuple l (intItems xs)) → (∀ b ∈ [s.heap.objs.size, l], b < s₂.heap.objs.size) → l ≠ s.heap.objs.size → Q (.ref s.heap.objs.size) s₂) :
    wpAny (model prog w) A (pyIter (.ref l)) Q E s := by
  have hlt : l < s.heap.objs.size := by obtain ⟨_, e, _⟩ := hl; exact Heap.lt_size e
  refine wpAny_pyIter_tuple hl (h _ rfl ⟨⟨_, Heap.get?_push_size _ rfl, rfl, rfl⟩, hl.at fun o e => Heap.get?_push_of_some _ e⟩ (fun b hb => ?_) (Nat.ne_of_lt hlt))
  show b < (s.heap.push _).objs.size
  rw [Heap.size_push]
  rcases List.mem_cons.mp hb with rfl | hb
  · exact Nat.lt_succ_self _
  · rcases List.mem_cons.mp hb with rfl | hb
    · exact Nat.lt_succ_of_lt hlt
    · cases hb
theorem old_keptT {h' : Heap} (hk : ∀ b o, b ∉ [s.heap.objs.size] → (s.heap.push { cls := .type "tuple_iterator", data := .fields #[.ref l, .int 0 0] }).get? b = some o → h'.get? b = some o) :
    ∀ b o, s.heap.get? b = some o → h'.get? b = some o := fun b o e => by
  refine hk b o (fun hm => ?_) (Heap.get?_push_of_some _ e)
  rcases List.mem_cons.mp hm with e1 | hm
  · exact absurd (e1 ▸ Heap.lt_size e) (Nat.lt_irrefl _)
  · cases hm
theorem sum_intTup {Q : Value → Shared → Prop} (hh : A.handled = none) (hl : s.heap.IsTuple l (intItems xs))
    (h : ∀ h' tk t', (∀ b o, s.heap.get? b = some o → h'.get? b = some o) → Q (.int (preSum (numAt xs) xs.size) t') { s with heap := h', toks := tk }) :
    wpAny (model prog w) A (call (.builtin "sum") [.ref l]) Q E s := by
  refine call_sum_walkG (iter_intTup hl fun s₂ e st hfp hlI => ?_)
  subst e
  refine ⟨_, _, _, _, _, _, numAt xs, rfl, Walks.tuple (A := A.in1) hh _ l hlI (intItems xs), st, hfp, (fun _ _ => intItems_at), fun h' tk t' hk => ?_⟩
  have := h h' tk t' (old_keptT hk)
  simpa [intItems] using this
theorem max_intTup {Q : Value → Shared → Prop} (hh : A.handled = none) (hl : s.heap.IsTuple l (intItems xs)) (hne : 0 < xs.size)
    (h : ∀ v h' tk, (intItems xs)[argBest (fun i j => decide (numAt xs i > numAt xs j)) (xs.size - 1)]? = some v → (∀ b o, s.heap.get? b = some o → h'.get? b = some o) → Q v { s with heap := h', toks := tk }) :
    wpAny (model prog w) A (call (.builtin "max") [.ref l]) Q E s := by
  refine call_max_walk (iter_intTup hl fun s₂ e st hfp hlI => ?_)
  subst e
  refine ⟨_, _, _, _, _, _, _, rfl, Walks.tuple (A := A.in1) hh _ l hlI (intItems xs), st, hfp, by simpa [intItems] using hne, CmpOf.ints_gt (numAt xs) (fun _ _ => intItems_at), fun v h' tk hP hk => ?_⟩
  exact h v h' tk (by simpa [intItems] using hP) (old_keptT hk)
theorem min_intTup {Q : Value → Shared → Prop} (hh : A.handled = none) (hl : s.heap.IsTuple l (intItems xs)) (hne : 0 < xs.size)
    (h : ∀ v h' tk, (intItems xs)[argBest (fun i j => decide (numAt xs i < numAt xs j)) (xs.size - 1)]? = some v → (∀ b o, s.heap.get? b = some o → h'.get? b = some o) → Q v { s with heap := h', toks := tk }) :
    wpAny (model prog w) A (call (.builtin "min") [.ref l]) Q E s := by
  refine call_min_walk (iter_intTup hl fun s₂ e st hfp hlI => ?_)
  subst e
  refine ⟨_, _, _, _, _, _, _, rfl, Walks.tuple (A := A.in1) hh _ l hlI (intItems xs), st, hfp, by simpa [intItems] using hne, CmpOf.ints_lt (numAt xs) (fun _ _ => intItems_at), fun v h' tk hP hk => ?_⟩
  exact h v h' tk (by simpa [intItems] using hP) (old_keptT hk)
end
section
variable {prog : Program} {w : World} {A : Around} {E : Value → Shared → Prop} {s : Shared} {l : Addr} {its : List Value} {ns : List Int} {Q : Value → Shared → Prop}
theorem sum_rawT (hh : A.handled = none) (hl : s.heap.IsTuple l its.toArray) (hi : IntsAre its ns)
    (h : ∀ h' tk t', (∀ b o, s.heap.get? b = some o → h'.get? b = some o) → Q (.int ns.sum t') { s with heap := h', toks := tk }) : wpAny (model prog w) A (call (.builtin "sum") [.ref l]) Q E s := by
  obtain ⟨xs, e⟩ := hi.allInts.items
  have hn : numsOf (intItems xs).toList = ns := by rw [← e]; exact hi.numsOf
  rw [nums_intItems] at hn
  rw [e] at hl
  refine sum_intTup hh hl fun h' tk t' hk => ?_
  have := h h' tk t' hk
  rw [preSum_eq, List.take_of_length_le (by simp), hn]; exact this
theorem max_rawT (hh : A.handled = none) (hl : s.heap.IsTuple l its.toArray) (hi : IntsAre its ns) (hne : 0 < ns.length)
    (h : ∀ h' tk M t', (∀ b o, s.heap.get? b = some o → h'.get? b = some o) → M ∈ ns → (∀ a, a ∈ ns → a ≤ M) → Q (.int M t') { s with heap := h', toks := tk }) : wpAny (model prog w) A (call (.builtin "max") [.ref l]) Q E s := by
  obtain ⟨xs, e⟩ := hi.allInts.items
  have hn : numsOf (intItems xs).toList = ns := by rw [← e]; exact hi.numsOf
  rw [nums_intItems] at hn
  subst hn
  rw [e] at hl
  have hsz : 0 < xs.size := by simpa using hne
  refine max_intTup hh hl hsz fun v h' tk hv hk => ?_
  obtain ⟨t, rfl⟩ := intItems_at hv
  obtain ⟨h1, h2⟩ := argBest_gt (numAt xs) (xs.size - 1)
  refine h h' tk _ t hk ?_ fun a ha => ?_
  · rw [numAt_eq]; exact PySem.getD_mem (by rw [List.length_map, Array.length_toList]; omega)
  · obtain ⟨j, hj, rfl⟩ := mem_getD ha
    rw [List.length_map, Array.length_toList] at hj
    rw [← numAt_eq]; exact h2 j (by omega)
theorem min_rawT (hh : A.handled = none) (hl : s.heap.IsTuple l its.toArray) (hi : IntsAre its ns) (hne : 0 < ns.length)
    (h : ∀ h' tk M t', (∀ b o, s.heap.get? b = some o → h'.get? b = some o) → M ∈ ns → (∀ a, a ∈ ns → M ≤ a) → Q (.int M t') { s with heap := h', toks := tk }) : wpAny (model prog w) A (call (.builtin "min") [.ref l]) Q E s := by
  obtain ⟨xs, e⟩ := hi.allInts.items
  have hn : numsOf (intItems xs).toList = ns := by rw [← e]; exact hi.numsOf
  rw [nums_intItems] at hn
  subst hn
  rw [e] at hl
  have hsz : 0 < xs.size := by simpa using hne
  refine min_intTup hh hl hsz fun v h' tk hv hk => ?_
  obtain ⟨t, rfl⟩ := intItems_at hv
  obtain ⟨h1, h2⟩ := argBest_lt (numAt xs) (xs.size - 1)
  refine h h' tk _ t hk ?_ fun a ha => ?_
  · rw [numAt_eq]; exact PySem.getD_mem (by rw [List.length_map, Array.length_toList]; omega)
  · obtain ⟨j, hj, rfl⟩ := mem_getD ha
    rw [List.length_map, Array.length_toList] at hj
    rw [← numAt_eq]; exact h2 j (by omega)
end
def rSumB (K : PySem.W.Frag) : List V → Hp → VK → Prop := fun vs H Q => ∃ (b : Bool) (a : Addr) (ns : List Int), vs = [V.ref a] ∧ SqB K H b a (ns.map V.int) ∧ Q (.int ns.sum) H
def rMaxB (K : PySem.W.Frag) : List V → Hp → VK → Prop := fun vs H Q => ∃ (b : Bool) (a : Addr) (ns : List Int), vs = [V.ref a] ∧ SqB K H b a (ns.map V.int) ∧ 0 < ns.length ∧ ∀ m, m ∈ ns → (∀ y, y ∈ ns → y ≤ m) → Q (.int m) H
def rMinB (K : PySem.W.Frag) : List V → Hp → VK → Prop := fun vs H Q => ∃ (b : Bool) (a : Addr) (ns : List Int), vs = [V.ref a] ∧ SqB K H b a (ns.map V.int) ∧ 0 < ns.length ∧ ∀ m, m ∈ ns → (∀ y, y ∈ ns → m ≤ y) → Q (.int m) H
section
variable {X : Cx}
theorem cr_sumB (hc : X.calm = true) : CallR X (.builtin "sum") (rSumB X.K) := by
  intro pins s σ H vs us Q I r h
  obtain ⟨b, a, ns, rfl, hs, q⟩ := h
  cases b with
  | false => exact cr_sum hc pins s σ H _ us Q I r ⟨a, ns, rfl, hs, q⟩
  | true =>
    obtain ⟨its, rv, hl, _⟩ := I.tuple hs
    rw [Vals.ref1 r]
    exact sum_rawT (I.ok.hd hc) hl rv.ints fun h' tk t' hk => ⟨.int _, H, I.kept hk, ⟨_, rfl⟩, q⟩
theorem cr_maxB (hc : X.calm = true) : CallR X (.builtin "max") (rMaxB X.K) := by
  intro pins s σ H vs us Q I r h
  obtain ⟨b, a, ns, rfl, hs, hne, q⟩ := h
  cases b with
  | false => exact cr_max hc pins s σ H _ us Q I r ⟨a, ns, rfl, hs, hne, q⟩
  | true =>
    obtain ⟨its, rv, hl, _⟩ := I.tuple hs
    rw [Vals.ref1 r]
    exact max_rawT (I.ok.hd hc) hl rv.ints hne fun h' tk m t' hk h1 h2 => ⟨.int _, H, I.kept hk, ⟨_, rfl⟩, q m h1 h2⟩
theorem cr_minB (hc : X.calm = true) : CallR X (.builtin "min") (rMinB X.K) := by
  intro pins s σ H vs us Q I r h
  obtain ⟨b, a, ns, rfl, hs, hne, q⟩ := h
  cases b with
  | false => exact cr_min hc pins s σ H _ us Q I r ⟨a, ns, rfl, hs, hne, q⟩
  | true =>
    obtain ⟨its, rv, hl, _⟩ := I.tuple hs
    rw [Vals.ref1 r]
    exact min_rawT (I.ok.hd hc) hl rv.ints hne fun h' tk m t' hk h1 h2 => ⟨.int _, H, I.kept hk, ⟨_, rfl⟩, q m h1 h2⟩
end
theorem seqD_rep {K : PySem.W.Frag} {H : Hp} {d : D} {v : V} {xs : List D} (r : Rep K H d v) (h : seqD d = some xs) : ∃ b a vs, v = .ref a ∧ SqB K H b a vs ∧ Reps K H xs vs := by
  cases d <;> first
    | (cases h
       cases r with
       | lst h1 h2 => exact ⟨false, _, _, rfl, SqL.of h1, h2⟩)
    | (cases h
       cases r with
       | tup h1 h2 => exact ⟨true, _, _, rfl, SqT.of h1, h2⟩)
    | cases h
theorem k_sumB {K : PySem.W.Frag} : CallOk K (rSumB K) bSumU := fun vs ds z H Q r h => by
  match ds, r, h with
  | [d], .cons rd .nil, h =>
    have h' : ((seqD d).bind fun xs => (intsD xs).map fun ns => D.int ns.sum) = some z := h
    cases q0 : seqD d with
    | none => rw [q0] at h'; cases h'
    | some xs =>
      rw [q0] at h'
      have h2 : ((intsD xs).map fun ns => D.int ns.sum) = some z := h'
      cases q : intsD xs with
      | none => rw [q] at h2; cases h2
      | some ns =>
        rw [q] at h2; cases h2
        obtain ⟨b, a, us, rfl, hs, hr⟩ := seqD_rep rd q0
        obtain ⟨e1, _⟩ := ints_rep hr q
        subst e1
        exact ⟨_, fun _ => .int, fun hq => ⟨b, a, ns, rfl, hs, hq⟩⟩
theorem k_maxB {K : PySem.W.Frag} : CallOk K (rMaxB K) bMaxU := fun vs ds z H Q r h => by
  match ds, r, h with
  | [d], .cons rd .nil, h =>
    have h' : ((seqD d).bind fun xs => (intsD xs).bind fun ns => (maxI ns).map D.int) = some z := h
    cases q0 : seqD d with
    | none => rw [q0] at h'; cases h'
    | some xs =>
      rw [q0] at h'
      have h2 : ((intsD xs).bind fun ns => (maxI ns).map D.int) = some z := h'
      cases q : intsD xs with
      | none => rw [q] at h2; cases h2
      | some ns =>
        rw [q] at h2
        have h3 : (maxI ns).map D.int = some z := h2
        cases q3 : maxI ns with
        | none => rw [q3] at h3; cases h3
        | some m =>
          rw [q3] at h3; cases h3
          obtain ⟨b, a, us, rfl, hs, hr⟩ := seqD_rep rd q0
          obtain ⟨e1, _⟩ := ints_rep hr q
          subst e1
          obtain ⟨m1, m2⟩ := maxI_spec q3
          refine ⟨_, fun _ => .int, fun hq => ⟨b, _, ns, rfl, hs, List.length_pos_of_mem m1, fun m' a1 a2 => ?_⟩⟩
          rw [Int.le_antisymm (m2 _ a1) (a2 _ m1)]
          exact hq
theorem k_minB {K : PySem.W.Frag} : CallOk K (rMinB K) bMinU := fun vs ds z H Q r h => by
  match ds, r, h with
  | [d], .cons rd .nil, h =>
    have h' : ((seqD d).bind fun xs => (intsD xs).bind fun ns => (minI ns).map D.int) = some z := h
    cases q0 : seqD d with
    | none => rw [q0] at h'; cases h'
    | some xs =>
      rw [q0] at h'
      have h2 : ((intsD xs).bind fun ns => (minI ns).map D.int) = some z := h'
      cases q : intsD xs with
      | none => rw [q] at h2; cases h2
      | some ns =>
        rw [q] at h2
        have h3 : (minI ns).map D.int = some z := h2
        cases q3 : minI ns with
        | none => rw [q3] at h3; cases h3
        | some m =>
          rw [q3] at h3; cases h3
          obtain ⟨b, a, us, rfl, hs, hr⟩ := seqD_rep rd q0
          obtain ⟨e1, _⟩ := ints_rep hr q
          subst e1
          obtain ⟨m1, m2⟩ := minI_spec q3
          refine ⟨_, fun _ => .int, fun hq => ⟨b, _, ns, rfl, hs, List.length_pos_of_mem m1, fun m' a1 a2 => ?_⟩⟩
          rw [Int.le_antisymm (a2 _ m1) (m2 _ a1)]
          exact hq

/-! operations that make a new list -/
def OpL (K : PySem.W.Frag) (r : R2) (o : D → D → Option (List D)) : Prop := ∀ (G : Hp) (μ : List Addr) (F : Hp) (st : Store) (H : Hp) (x y : A) (v w : V) (d e : D) (z : List D) (Q : VK), Sim K G μ F st H → ARep K μ F x v → ARep K μ F y w →
  x.view st = some d → y.view st = some e → o d e = some z → (∀ p vs, H p = none → Reps K F z vs → Q (.ref p) (upd H p (.lst vs))) → r v w H Q
section
variable {X : Cx} {W : WX} {k : Kx} {a b : Expr} {fa fb : EF} {pos : Pos}
theorem l_op {op : Operator} {r : R2} {o : D → D → Option (List D)} (ho : OpR X (binaryOp op) r) (ok : OpL k.K r o) (ha : PE X a (dE k W fa)) (hb : PE X b (dE k W fb)) : PE X (.BinOp a op b pos) (dL k W (lOp o fa fb)) :=
  pe_weak (pe_op ho ha hb) fun σ H Q ⟨G, μ, F, st, σd, S, R, h⟩ => by
    refine ⟨G, μ, F, st, σd, S, R, (Post.bind h).mono fun x st1 μ1 F1 H1 e1 S1 h1 v rv => ?_⟩
    refine ⟨G, μ1, F1, st1, σd, S1, R.ext e1, (Post.bind h1).mono fun y st2 μ2 F2 H2 e2 S2 h2 w rw' => ?_⟩
    cases q1 : x.view st2 with
    | none => rw [q1] at h2; exact h2.elim
    | some d =>
      rw [q1] at h2
      cases q2 : y.view st2 with
      | none => rw [q2] at h2; exact h2.elim
      | some e =>
        rw [q2] at h2
        dsimp only [Option.bind] at h2
        cases q3 : o d e with
        | none => rw [q3] at h2; exact h2.elim
        | some z =>
          rw [q3] at h2
          exact ok G μ2 F2 st2 H2 x y v w d e z Q S2 (rv.ext e2) rw' q1 q2 q3 fun p vs hp hr => new_run S2 (AReps.of hr) hp h2
theorem kL_rep {K : PySem.W.Frag} : OpL K rRep oRepL := by
  intro G μ F st H x y v w d e z Q S rx ry h1 h2 h3 hQ
  have hs := sizeMax_eq
  cases d with
  | lst xs =>
    cases e with
    | int kk =>
      have h3' : gd (-(2 ^ 63) ≤ kk ∧ kk < 2 ^ 63 ∧ xs.length * kk.toNat ≤ sizeMax) (some (repD kk.toNat xs)) none = some z := h3
      unfold gd at h3'
      split at h3'
      · rename_i q
        cases h3'
        obtain ⟨p, vs, rfl, sq1, r1⟩ := view_seq S rx h1
        cases view_rep S ry h2
        have l1 := r1.length
        exact ⟨p, kk, vs, rfl, rfl, sq1, q.1, q.2.1, by rw [← l1, ← hs]; exact q.2.2, fun a ha => hQ a _ ha (r1.rep _)⟩
      · cases h3'
    | _ => cases h3
  | _ => cases h3
theorem kL_cat {K : PySem.W.Frag} : OpL K rCat oCatL := by
  intro G μ F st H x y v w d e z Q S rx ry h1 h2 h3 hQ
  have hs := sizeMax_eq
  cases d with
  | lst xs =>
    cases e with
    | lst ys =>
      have h3' : gd (xs.length + ys.length ≤ sizeMax) (some (xs ++ ys)) none = some z := h3
      unfold gd at h3'
      split at h3'
      · rename_i hl
        cases h3'
        obtain ⟨p, vs, rfl, sq1, r1⟩ := view_seq S rx h1
        obtain ⟨q, ws, rfl, sq2, r2⟩ := view_seq S ry h2
        have l1 := r1.length
        have l2 := r2.length
        exact ⟨p, q, vs, ws, rfl, rfl, sq1, sq2, by omega, fun a ha => hQ a _ ha (r1.append r2)⟩
      · cases h3'
    | _ => cases h3
  | _ => cases h3
end

/-! == of anything -/
mutual
theorem Rep.dp {K : PySem.W.Frag} {H : Hp} : ∀ {d : D} {v : V}, Rep K H d v → Dp K H v (toPy d)
  | _, _, .non => .non
  | _, _, .bl => .bl _
  | _, _, .int => .int _
  | _, _, .str => .str _
  | _, _, .tup h r => .tup (SqT.of h) (Reps.dp r)
  | _, _, .lst h r => .lst (SqL.of h) (Reps.dp r)
  | _, _, .ro h r => .lst h (Reps.dp r)
theorem Reps.dp {K : PySem.W.Frag} {H : Hp} : ∀ {ds : List D} {vs : List V}, Reps K H ds vs → DpAll K H vs (toPyL ds)
  | _, _, .nil => .nil
  | _, _, .cons h r => .cons (Rep.dp h) (Reps.dp r)
end
def rEqG (K : PySem.W.Frag) : R2 := fun x y H Q => rEqU x y H Q ∨ rEqD K x y H Q
def rNeG (K : PySem.W.Frag) : R2 := fun x y H Q => rNe x y H Q ∨ rNeD K x y H Q
theorem op_eqG {X : Cx} (hu : X.A.units + 64 < cLine) : OpR X (compareOp .Eq) (rEqG X.K) := OpR.or (op_eqU (by omega)) (op_eqD hu)
theorem op_neG {X : Cx} (hu : X.A.units + 64 < cLine) : OpR X (compareOp .NotEq) (rNeG X.K) := OpR.or op_ne (op_neD hu)
theorem k2_eqG {K : PySem.W.Frag} : Op2 K (rEqG K) oEqG := by
  intro G μ F st H x y v w d e z Q S rx ry h1 h2 h3 hQ
  unfold oEqG at h3
  split at h3
  · rename_i b q
    exact .inl (k2_eqU G μ F st H x y v w d e z Q S rx ry h1 h2 (by unfold oEqU; rw [q]; exact h3) hQ)
  · unfold gd at h3
    split at h3
    · rename_i q
      cases h3
      exact .inr ⟨_, _, (view_rep S rx h1).dp, (view_rep S ry h2).dp, q.1, q.2, hQ F H _ (Ext.refl _ _) S .bl⟩
    · cases h3
theorem k2_neG {K : PySem.W.Frag} : Op2 K (rNeG K) oNeG := by
  intro G μ F st H x y v w d e z Q S rx ry h1 h2 h3 hQ
  unfold oNeG at h3
  split at h3
  · rename_i b q
    refine .inl ?_
    obtain ⟨u, hu, hq⟩ := k_neS v w d e z H Q (view_rep S rx h1) (view_rep S ry h2) (by unfold oNeS; rw [q]; exact h3)
    exact hq (hQ F H u (Ext.refl _ _) S (hu F))
  · unfold gd at h3
    split at h3
    · rename_i q
      cases h3
      exact .inr ⟨_, _, (view_rep S rx h1).dp, (view_rep S ry h2).dp, q.1, q.2, hQ F H _ (Ext.refl _ _) S .bl⟩
    · cases h3
end Dn

set_option linter.all false
set_option Elab.async false
set_option maxRecDepth 100000
/-! Lib: short forms, the end. -/
namespace Dn
open PySem PySem.Spec PyProof.Rows L2
section
variable {X : Cx} {W : WX} {k : Kx} {x : Str} {pos : Pos}
theorem v_ (i : Nat) (hN : X.N[i]? = some x := by rfl) (hv : Vis X.env.scope x := by first | exact .inl rfl | exact .inr (.inl rfl) | exact .inr (.inr rfl)) (hd : (x == ("__debug__" : Str)) = false := by decide) (hcd : (x == ("__classdict__" : Str)) = false := by decide) :
    PE X (.Name x pos) (dE k W (fVar i)) := e_var hN hv hd hcd
theorem gn_ (i : Nat) (hN : X.N.Nodup) (hi : X.N[i]? = some x := by rfl) (hx : Loc X.env.scope x := by first | exact .inl rfl | exact .inr rfl) (hf : X.fn x = true ∨ X.env.scope.names.lookup x = some .local := by first | exact .inl rfl | exact .inr rfl) :
    PG X (.Name x pos) (dG k [i] (tgName i)) := g_name hN hi hx hf
end
/-- a def of the top, and how it is called -/
structure Fn1 (K : PySem.W.Frag) (mg : Str → Option Value) (x : Str) (st : Stmt) (ps : List Str) where
  f : Addr
  fd : FuncData
  fn : Fun K x x st f fd
  bd : Binds K fd ps []
  gm : mg x = some (.ref f)
section
variable {P : Program} {w : World} {K : PySem.W.Frag} {mg : Str → Option Value} {base : Heap}
theorem fn_never {f : Addr} {fd : FuncData} {ps : List Str} {lv n : Nat} (hn : ps.length = n := by rfl) : FnOk P w K mg base (L2.CX P w) lv f fd ps (spV ⟨K, mg⟩ n fun _ _ => .bad) :=
  ⟨fun vs H Q E h => by rw [h.1, hn], fun A outer s H args us vs Q E _ _ _ _ h => by
    obtain ⟨_, _, _, _, _, _, _, _, h⟩ := h
    exact h.elim⟩
end
theorem walk_of {l : PySem.W.OpenLaw} {k : Nat} {q : Program} {loose : List Str} {XP : (Str → Option Value) → Heap → Prop} {YP : World → Heap → Prop} {d : DefRec} {K : Params → PySem.W.Frag} {g : List A → Store → RE A}
    (hn : l.most = some 63) (hdf : d.params.defaults = []) (hr : Room k callerA)
    (hY : ∀ (w : World) (h : Heap), YP w h → (K w.params).In h)
    (F : ∀ (w : World) (mg : Str → Option Value) (fa : Addr) (h : Heap), (K w.params).In h → h.Ns mainGlobals mg → mg d.name = some (.ref fa) →
      ∃ fd : FuncData, (∀ (s : Shared) (u : Value), BindsTo s fd ⟨[u], []⟩ [("script", u)]) ∧
        ∀ base : Heap, (K w.params).In base → base.Ns mainGlobals mg → FnOk l.prog w (K w.params) mg base (L2.CX l.prog w) k fa fd ["script"] (spV ⟨K w.params, mg⟩ 1 g))
    (tr : ∀ ns : List Int, ns.length ≤ 63 → g [.v (.ro (ns.map D.int))] [] = .ok (.v (.bl true)) []) :
    PySem.W.WalkO q loose XP YP l.row.toRowW d [] (fun f vs => PySem.call f vs) := by
  refine L2.walk_of (l := l) (n := 63) (k := k) (x := "script") (K := K) (CX := fun w => L2.CX l.prog w) (sp := fun w vs H Q E => ∃ (a : Addr) (ns : List Int), vs = [.ref a] ∧ ns.length ≤ 63 ∧ SqL (K w.params) H a (ns.map V.int) ∧ ∀ H', Q (.bl true) H') hn (by decide) hdf hr hY (fun w mg fa h h1 h2 h3 => ?_)
    (fun w H a ns hl _ hS => ⟨a, ns, rfl, hl, hS, fun _ => rfl⟩) (fun w H s e s' h => ?_)
  · obtain ⟨fd, hb, hF⟩ := F w mg fa h h1 h2 h3
    refine ⟨fd, hb, fun base b1 b2 => (hF base b1 b2).imp fun vs H Q E hs => ?_⟩
    obtain ⟨a, ns, rfl, hl, hS, hQ⟩ := hs
    have reps : ∀ ns : List Int, Reps (K w.params) H (ns.map D.int) (ns.map V.int) := by
      intro ns
      induction ns with
      | nil => exact .nil
      | cons _ _ ih => exact .cons .int ih
    refine ⟨rfl, fun _ => none, [], H, [], [.v (.ro (ns.map D.int))], ⟨Same.refl H, (fun _ _ e => by cases e), rfl, List.Pairwise.nil, (fun n a c e => by simp at e), (fun _ _ e => by cases e), (fun _ h => by cases h)⟩, .cons (Rep.ro hS (reps ns)) .nil, ?_⟩
    show Post _ _ _ _ _ _ (g [.v (.ro (ns.map D.int))] [])
    rw [tr ns hl]
    intro μ' F' H' _ _ v rv
    cases rv
    exact hQ H'
  · obtain ⟨_, _, _, _, _, _, _, _, _, _, _, _, z⟩ := h
    exact z
end Dn

set_option linter.all false
set_option Elab.async false
set_option maxRecDepth 100000
/-! The walk of k02. -/
namespace Pk02
open PySem PySem.Spec PyProof.Rows L2 Dn Pre
def topS (i : Nat) : Stmt := PySem.Challenge.pw_gridstead_k02_fill_by_rank.main.body.getD i (.Pass ⟨0, 0, 0, 0⟩)
abbrev s_rank_fill : Stmt := topS 1
abbrev s_gain : Stmt := topS 2
abbrev s_intake : Stmt := topS 3
abbrev s__law_pool : Stmt := topS 5
abbrev s__law_draw : Stmt := topS 6
abbrev s__law_pick : Stmt := topS 7
abbrev s__law_up : Stmt := topS 8
abbrev s__law_same : Stmt := topS 9
abbrev s__law_units : Stmt := topS 10
abbrev s__law_filled : Stmt := topS 11
abbrev s__law_kept : Stmt := topS 12
abbrev s__law_gained : Stmt := topS 13
abbrev s_law : Stmt := topS 14
structure Top (K : PySem.W.Frag) (mg : Str → Option Value) where
  rank_fill : Fn1 K mg "rank_fill" s_rank_fill ["wants", "ranks", "units"]
  gain : Fn1 K mg "gain" s_gain ["units", "loss"]
  intake : Fn1 K mg "intake" s_intake ["capacity", "power", "loss", "charge"]
  _law_pool : Fn1 K mg "_law_pool" s__law_pool ["script", "place"]
  _law_draw : Fn1 K mg "_law_draw" s__law_draw ["pool", "many"]
  _law_pick : Fn1 K mg "_law_pick" s__law_pick ["pool", "row"]
  _law_up : Fn1 K mg "_law_up" s__law_up ["pool", "few", "many"]
  _law_same : Fn1 K mg "_law_same" s__law_same ["got", "due"]
  _law_units : Fn1 K mg "_law_units" s__law_units ["pool", "wide"]
  _law_filled : Fn1 K mg "_law_filled" s__law_filled ["wants", "degrees", "units"]
  _law_kept : Fn1 K mg "_law_kept" s__law_kept ["units", "leak"]
  _law_gained : Fn1 K mg "_law_gained" s__law_gained ["units", "leak"]
  law : Fn1 K mg "law" s_law ["script"]
  z_abs : mg "abs" = none
  z_bool : mg "bool" = none
  z_enumerate : mg "enumerate" = none
  z_int : mg "int" = none
  z_isinstance : mg "isinstance" = none
  z_len : mg "len" = none
  z_max : mg "max" = none
  z_min : mg "min" = none
  z_range : mg "range" = none
  z_sorted : mg "sorted" = none
  z_str : mg "str" = none
  z_sum : mg "sum" = none
  z_tuple : mg "tuple" = none
section
variable {P : Program} {w : World} {K : PySem.W.Frag} {mg : Str → Option Value} {base : Heap}
theorem sc_rank_fill : FnScope ["wants", "ranks", "units", "got", "left", "_", "taker", "number", "rank"] ["wants", "ranks", "units"] (defScope s_rank_fill) := ⟨rfl, rfl, rfl, by decide +kernel, rfl, by decide +kernel, by decide +kernel⟩
theorem ok_rank_fill (T : Top K mg) : FnOk P w K mg base (L2.CX P w) 1 T.rank_fill.f T.rank_fill.fd ["wants", "ranks", "units"] (spV ⟨K, mg⟩ 3 d_rank_fill) :=
  fnV_ok (sb := b_rank_fill) T.rank_fill.fn sc_rank_fill rfl rfl fun cdv A outer s H E hr => (ss_cons (s_set (i := 3) sc_rank_fill.nd rfl (by first | exact .inl rfl | exact .inr rfl) (e_live (l_op op_rep kL_rep (e_frz (l_disp (a_cons e_int a_nil))) (e_len rfl T.z_len rfl (v_ 0)))))
  (ss_cons (s_set (i := 4) sc_rank_fill.nd rfl (by first | exact .inl rfl | exact .inr rfl) (v_ 2))
  (ss_cons (s_for (passes_of rfl) rfl (i_seq rfl (e_frz (l_sortedU rfl rfl T.z_sorted (e_frz (l_comp (own := [("number", 7), ("rank", 8)]) rfl sc_rank_fill.nd (i_enum rfl rfl T.z_enumerate (v_ 1)) (blkOk_by (by kernel_rfl)) (fun _ _ _ _ _ => (g_tup rfl rfl (gs_cons (gn_ 7 sc_rank_fill.nd) (gs_cons (gn_ 8 sc_rank_fill.nd) gs_nil)))) (fun _ _ _ _ _ => ts_nil) (fun _ _ _ _ _ => (e_tup (a_cons (v_ 8) (a_cons (v_ 7) a_nil))))))))) (g_tup rfl rfl (gs_cons (gn_ 5 sc_rank_fill.nd) (gs_cons (gn_ 6 sc_rank_fill.nd) gs_nil)))
  (ss_cons (s_asg (e_callB (call_min2 rfl) k_min2 rfl T.z_min (by decide +kernel) (a_cons (e_ix rfl (v_ 0) (v_ 6) (fun _ _ => rfl)) (a_cons (v_ 4) a_nil))) (g_sub (pg_sub (v_ 3) (v_ 6) set_list)))
  (ss_one (s_aug (i := 4) sc_rank_fill.nd rfl (by first | exact .inl rfl | exact .inr rfl) (e_ix rfl (v_ 3) (v_ 6) (fun _ _ => rfl)) ip_sub ipk_sub))))
  (ss_one (s_ret (e_tuple rfl T.z_tuple rfl (v_ 3)))))))
theorem sc_gain : FnScope ["units", "loss"] ["units", "loss"] (defScope s_gain) := ⟨rfl, rfl, rfl, by decide +kernel, rfl, by decide +kernel, by decide +kernel⟩
theorem ok_gain (T : Top K mg) : FnOk P w K mg base (L2.CX P w) 1 T.gain.f T.gain.fd ["units", "loss"] (spV ⟨K, mg⟩ 2 d_gain) :=
  fnV_ok (sb := b_gain) T.gain.fn sc_gain rfl rfl fun cdv A outer s H E hr => (ss_cons (s_if (t_cmp2 (op_eqG hr.units) k2_eqG (v_ 1) e_int (nomark _))
  (ss_one (s_ret (v_ 0)))
  ss_nil)
  (ss_one (s_ret (e_op op_sub k_sub (v_ 0) (e_op op_divB k_div (v_ 0) (v_ 1))))))
theorem sc_intake : FnScope ["capacity", "power", "loss", "charge", "units"] ["capacity", "power", "loss", "charge"] (defScope s_intake) := ⟨rfl, rfl, rfl, by decide +kernel, rfl, by decide +kernel, by decide +kernel⟩
theorem ok_intake (T : Top K mg) : FnOk P w K mg base (L2.CX P w) 2 T.intake.f T.intake.fd ["capacity", "power", "loss", "charge"] (spV ⟨K, mg⟩ 4 d_intake) :=
  fnV_ok (sb := b_intake) T.intake.fn sc_intake rfl rfl fun cdv A outer s H E hr => (ss_cons (s_set (i := 4) sc_intake.nd rfl (by first | exact .inl rfl | exact .inr rfl) (v_ 1))
  (ss_cons (s_while (passes_of rfl) (t_cmp op_gt k_gt (e_op2 op_addU k2_addU (v_ 3) (e_call (ok_gain T) (hr.mono (by decide)) (takes_of rfl rfl rfl rfl) rfl T.gain.gm T.gain.fn.kp T.gain.bd (a_cons (v_ 4) (a_cons (v_ 2) a_nil)))) (v_ 0) (nomark _))
  (ss_one (s_aug (i := 4) sc_intake.nd rfl (by first | exact .inl rfl | exact .inr rfl) e_int ip_sub ipk_sub)))
  (ss_one (s_ret (v_ 4)))))
theorem sc__law_pool : FnScope ["script", "place", "cell", "free"] ["script", "place"] (defScope s__law_pool) := ⟨rfl, rfl, rfl, by decide +kernel, rfl, by decide +kernel, by decide +kernel⟩
theorem ok__law_pool (T : Top K mg) : FnOk P w K mg base (L2.CX P w) 1 T._law_pool.f T._law_pool.fd ["script", "place"] (spL ⟨K, mg⟩ 2 d__law_pool) :=
  fnL_ok (sb := b__law_pool) T._law_pool.fn sc__law_pool rfl rfl fun cdv A outer s H E hr => (ss_cons (s_set (i := 2) sc__law_pool.nd rfl (by first | exact .inl rfl | exact .inr rfl) e_int)
  (ss_cons (s_if (t_cmp (op_ltU hr.units0) k_ltU (v_ 1) (e_len rfl T.z_len rfl (v_ 0)) (nomark _))
  (ss_one (s_set (i := 2) sc__law_pool.nd rfl (by first | exact .inl rfl | exact .inr rfl) (e_op2 op_addU k2_addU (e_op2 op_mulU k2_mulU e_int (e_callB call_abs k_abs rfl T.z_abs (by decide +kernel) (a_cons (e_callTy call_int1 k_intc rfl T.z_int (by decide +kernel) (a_cons (e_ix rfl (v_ 0) (v_ 1) (fun _ _ => rfl)) a_nil)) a_nil))) (e_callTy call_int1 k_intc rfl T.z_int (by decide +kernel) (a_cons (e_cmp (op_ltU hr.units0) k_ltU (e_ix rfl (v_ 0) (v_ 1) (fun _ _ => rfl)) e_int (nomark _)) a_nil)))))
  ss_nil)
  (ss_cons (s_set (i := 3) sc__law_pool.nd rfl (by first | exact .inl rfl | exact .inr rfl) e_int)
  (ss_cons (s_if (t_cmp op_ge k_ge (v_ 2) (e_op op_pow k_pow e_int e_int) (nomark _))
  (ss_one (s_set (i := 3) sc__law_pool.nd rfl (by first | exact .inl rfl | exact .inr rfl) (v_ 2)))
  ss_nil)
  (ss_one (s_ret (e_live (l_disp (a_cons (v_ 3) (a_cons (e_op op_modN k_mod (e_callTy call_int1 k_intc rfl T.z_int (by decide +kernel) (a_cons (e_op2 op_addU k2_addU (v_ 2) (e_op2 op_mulU k2_mulU e_int (e_op2 op_addU k2_addU (v_ 1) e_int))) a_nil)) e_int) (a_cons e_int a_nil)))))))))))
theorem sc__law_draw : FnScope ["pool", "many", "told", "mixed"] ["pool", "many"] (defScope s__law_draw) := ⟨rfl, rfl, rfl, by decide +kernel, rfl, by decide +kernel, by decide +kernel⟩
theorem ok__law_draw (T : Top K mg) : FnOk P w K mg base (L2.CX P w) 1 T._law_draw.f T._law_draw.fd ["pool", "many"] (spV ⟨K, mg⟩ 2 d__law_draw) :=
  fnV_ok (sb := b__law_draw) T._law_draw.fn sc__law_draw rfl rfl fun cdv A outer s H E hr => (ss_cons (s_if (t_cmp op_gt k_gt (e_ix rfl (v_ 0) e_int (fun _ _ => rfl)) e_int (nomark _))
  (ss_cons (s_set (i := 2) sc__law_draw.nd rfl (by first | exact .inl rfl | exact .inr rfl) (e_op op_modN k_mod (e_callTy call_int1 k_intc rfl T.z_int (by decide +kernel) (a_cons (e_ix rfl (v_ 0) e_int (fun _ _ => rfl)) a_nil)) (v_ 1)))
  (ss_cons (s_asg (e_op op_divB k_div (e_ix rfl (v_ 0) e_int (fun _ _ => rfl)) (v_ 1)) (g_sub (pg_sub (v_ 0) e_int set_list)))
  (ss_one (s_ret (v_ 2)))))
  ss_nil)
  (ss_cons (s_asg (e_op2 op_addU k2_addU (e_ix rfl (v_ 0) e_int (fun _ _ => rfl)) e_int) (g_sub (pg_sub (v_ 0) e_int set_list)))
  (ss_cons (s_set (i := 3) sc__law_draw.nd rfl (by first | exact .inl rfl | exact .inr rfl) (e_op op_modN k_mod (e_callTy call_int1 k_intc rfl T.z_int (by decide +kernel) (a_cons (e_op2 op_addU k2_addU (e_ix rfl (v_ 0) e_int (fun _ _ => rfl)) (e_op2 op_mulU k2_mulU (e_ix rfl (v_ 0) e_int (fun _ _ => rfl)) e_int)) a_nil)) e_int))
  (ss_cons (s_set (i := 3) sc__law_draw.nd rfl (by first | exact .inl rfl | exact .inr rfl) (e_op op_modN k_mod (e_callTy call_int1 k_intc rfl T.z_int (by decide +kernel) (a_cons (e_op2 op_addU k2_addU (e_op2 op_addU k2_addU (e_op2 op_mulU k2_mulU (v_ 3) (v_ 3)) (e_op2 op_mulU k2_mulU e_int (v_ 3))) (e_ix rfl (v_ 0) e_int (fun _ _ => rfl))) a_nil)) e_int))
  (ss_cons (s_set (i := 3) sc__law_draw.nd rfl (by first | exact .inl rfl | exact .inr rfl) (e_op op_modN k_mod (e_callTy call_int1 k_intc rfl T.z_int (by decide +kernel) (a_cons (e_op2 op_addU k2_addU (e_op2 op_addU k2_addU (e_op2 op_mulU k2_mulU (v_ 3) (v_ 3)) (e_op2 op_mulU k2_mulU e_int (v_ 3))) e_int) a_nil)) e_int))
  (ss_one (s_ret (e_op op_modN k_mod (e_callTy call_int1 k_intc rfl T.z_int (by decide +kernel) (a_cons (e_op op_divB k_div (v_ 3) e_int) a_nil)) (v_ 1)))))))))
theorem sc__law_pick : FnScope ["pool", "row"] ["pool", "row"] (defScope s__law_pick) := ⟨rfl, rfl, rfl, by decide +kernel, rfl, by decide +kernel, by decide +kernel⟩
theorem ok__law_pick (T : Top K mg) : FnOk P w K mg base (L2.CX P w) 2 T._law_pick.f T._law_pick.fd ["pool", "row"] (spV ⟨K, mg⟩ 2 d__law_pick) :=
  fnV_ok (sb := b__law_pick) T._law_pick.fn sc__law_pick rfl rfl fun cdv A outer s H E hr => (ss_one (s_ret (e_ix rfl (v_ 1) (e_call (ok__law_draw T) (hr.mono (by decide)) (takes_of rfl rfl rfl rfl) rfl T._law_draw.gm T._law_draw.fn.kp T._law_draw.bd (a_cons (v_ 0) (a_cons (e_len rfl T.z_len rfl (v_ 1)) a_nil))) (fun _ _ => rfl))))
theorem sc__law_up : FnScope ["pool", "few", "many"] ["pool", "few", "many"] (defScope s__law_up) := ⟨rfl, rfl, rfl, by decide +kernel, rfl, by decide +kernel, by decide +kernel⟩
theorem ok__law_up (T : Top K mg) : FnOk P w K mg base (L2.CX P w) 2 T._law_up.f T._law_up.fd ["pool", "few", "many"] (spV ⟨K, mg⟩ 3 d__law_up) :=
  fnV_ok (sb := b__law_up) T._law_up.fn sc__law_up rfl rfl fun cdv A outer s H E hr => (ss_cons (s_if (t_cmp op_gt k_gt (e_call (ok__law_draw T) (hr.mono (by decide)) (takes_of rfl rfl rfl rfl) rfl T._law_draw.gm T._law_draw.fn.kp T._law_draw.bd (a_cons (v_ 0) (a_cons e_int a_nil))) e_int (nomark _))
  (ss_one (s_ret (e_call (ok__law_draw T) (hr.mono (by decide)) (takes_of rfl rfl rfl rfl) rfl T._law_draw.gm T._law_draw.fn.kp T._law_draw.bd (a_cons (v_ 0) (a_cons (v_ 1) a_nil)))))
  ss_nil)
  (ss_one (s_ret (e_call (ok__law_draw T) (hr.mono (by decide)) (takes_of rfl rfl rfl rfl) rfl T._law_draw.gm T._law_draw.fn.kp T._law_draw.bd (a_cons (v_ 0) (a_cons (v_ 2) a_nil))))))
theorem sc__law_same : FnScope ["got", "due", "x"] ["got", "due"] (defScope s__law_same) := ⟨rfl, rfl, rfl, by decide +kernel, rfl, by decide +kernel, by decide +kernel⟩
theorem ok__law_same (T : Top K mg) : ∀ n : Nat, FnOk P w K mg base (L2.CX P w) (n + 1) T._law_same.f T._law_same.fd ["got", "due"] (spV ⟨K, mg⟩ 2 (d__law_same n))
  | 0 => fn_never
  | n + 1 => by
    have ih := ok__law_same T n
    exact fnV_ok (lv := n + 1) (sb := b__law_same n) T._law_same.fn sc__law_same rfl rfl fun cdv A outer s H E hr => (ss_cons (s_if (t_of rfl (e_isi (t := .tuple) rfl T.z_isinstance rfl T.z_tuple (by decide +kernel) rfl (v_ 1)))
  (ss_cons (s_if (PW.pt (w_or (t_not (t_of rfl (e_isi (t := .tuple) rfl T.z_isinstance rfl T.z_tuple (by decide +kernel) rfl (v_ 0)))) (w_or1 (t_cmp2 (op_neG hr.units) k2_neG (e_len rfl T.z_len rfl (v_ 0)) (e_len rfl T.z_len rfl (v_ 1)) (nomark _)))))
  (ss_one (s_ret e_bl))
  ss_nil)
  (ss_one (s_ret (e_cmp2 (op_eqG hr.units) k2_eqG (e_frz (l_comp (own := [("x", 2)]) rfl sc__law_same.nd (i_range1 rfl T.z_range (e_len rfl T.z_len rfl (v_ 1))) (blkOk_by (by kernel_rfl)) (fun _ _ _ _ _ => (gn_ 2 sc__law_same.nd)) (fun _ _ _ _ _ => (ts_one (t_not (t_of rfl (e_call ih (hr.mono (by omega)) takes0 rfl T._law_same.gm T._law_same.fn.kp T._law_same.bd (a_cons (e_ix rfl (v_ 0) (v_ 2) (fun _ _ => rfl)) (a_cons (e_ix rfl (v_ 1) (v_ 2) (fun _ _ => rfl)) a_nil))))))) (fun _ _ _ _ _ => (v_ 2)))) (e_frz (l_disp a_nil)) (nomark _)))))
  ss_nil)
  (ss_cons (s_if (t_cmp op_isN k_isN (v_ 1) e_non (nomark _))
  (ss_one (s_ret (e_cmp op_isN k_isN (v_ 0) e_non (nomark _))))
  ss_nil)
  (ss_cons (s_if (PW.pt (w_or (t_cmp op_isB k_isB (v_ 1) e_bl (nomark _)) (w_or1 (t_cmp op_isB k_isB (v_ 1) e_bl (nomark _)))))
  (ss_one (s_ret (e_and (e_isi (t := .bool) rfl T.z_isinstance rfl T.z_bool (by decide +kernel) rfl (v_ 0)) (e_one (e_cmp2 (op_eqG hr.units) k2_eqG (v_ 0) (v_ 1) (nomark _))))))
  ss_nil)
  (ss_cons (s_if (t_of rfl (e_isi (t := .str) rfl T.z_isinstance rfl T.z_str (by decide +kernel) rfl (v_ 1)))
  (ss_one (s_ret (e_and (e_isi (t := .str) rfl T.z_isinstance rfl T.z_str (by decide +kernel) rfl (v_ 0)) (e_one (e_cmp2 (op_eqG hr.units) k2_eqG (v_ 0) (v_ 1) (nomark _))))))
  ss_nil)
  (ss_one (s_ret (e_and (e_isi (t := .int) rfl T.z_isinstance rfl T.z_int (by decide +kernel) rfl (v_ 0)) (e_and (e_not (e_isi (t := .bool) rfl T.z_isinstance rfl T.z_bool (by decide +kernel) rfl (v_ 0))) (e_one (e_cmp2 (op_eqG hr.units) k2_eqG (v_ 0) (v_ 1) (nomark _)))))))))))
theorem sc__law_units : FnScope ["pool", "wide"] ["pool", "wide"] (defScope s__law_units) := ⟨rfl, rfl, rfl, by decide +kernel, rfl, by decide +kernel, by decide +kernel⟩
theorem ok__law_units (T : Top K mg) : FnOk P w K mg base (L2.CX P w) 3 T._law_units.f T._law_units.fd ["pool", "wide"] (spV ⟨K, mg⟩ 2 d__law_units) :=
  fnV_ok (sb := b__law_units) T._law_units.fn sc__law_units rfl rfl fun cdv A outer s H E hr => (ss_cons (s_if (PW.pt (w_and (t_of rfl (v_ 1)) (w_and1 (t_cmp2 (op_eqG hr.units) k2_eqG (e_call (ok__law_draw T) (hr.mono (by decide)) (takes_of rfl rfl rfl rfl) rfl T._law_draw.gm T._law_draw.fn.kp T._law_draw.bd (a_cons (v_ 0) (a_cons e_int a_nil))) e_int (nomark _)))))
  (ss_one (s_ret (e_callB (call_min2 rfl) k_min2 rfl T.z_min (by decide +kernel) (a_cons (e_op op_pow k_pow e_int e_int) (a_cons (e_op2 op_addU k2_addU (e_op2 op_mulU k2_mulU (e_call (ok__law_draw T) (hr.mono (by decide)) (takes_of rfl rfl rfl rfl) rfl T._law_draw.gm T._law_draw.fn.kp T._law_draw.bd (a_cons (v_ 0) (a_cons e_int a_nil))) (e_op op_pow k_pow e_int e_int)) (e_call (ok__law_draw T) (hr.mono (by decide)) (takes_of rfl rfl rfl rfl) rfl T._law_draw.gm T._law_draw.fn.kp T._law_draw.bd (a_cons (v_ 0) (a_cons (e_op op_pow k_pow e_int e_int) a_nil)))) a_nil)))))
  ss_nil)
  (ss_one (s_ret (e_call (ok__law_up T) (hr.mono (by decide)) (takes_of rfl rfl rfl rfl) rfl T._law_up.gm T._law_up.fn.kp T._law_up.bd (a_cons (v_ 0) (a_cons e_int (a_cons e_int a_nil)))))))
theorem sc__law_filled : FnScope ["wants", "degrees", "units", "due", "t", "ahead", "x"] ["wants", "degrees", "units"] (defScope s__law_filled) := ⟨rfl, rfl, rfl, by decide +kernel, rfl, by decide +kernel, by decide +kernel⟩
theorem ok__law_filled (T : Top K mg) : FnOk P w K mg base (L2.CX P w) 1 T._law_filled.f T._law_filled.fd ["wants", "degrees", "units"] (spV ⟨K, mg⟩ 3 d__law_filled) :=
  fnV_ok (sb := b__law_filled) T._law_filled.fn sc__law_filled rfl rfl fun cdv A outer s H E hr => (ss_cons (s_set (i := 3) sc__law_filled.nd rfl (by first | exact .inl rfl | exact .inr rfl) (e_live (l_disp a_nil)))
  (ss_cons (s_for (passes_of rfl) rfl (i_range1 rfl T.z_range (e_len rfl T.z_len rfl (v_ 0))) (gn_ 4 sc__law_filled.nd)
  (ss_cons (s_set (i := 5) sc__law_filled.nd rfl (by first | exact .inl rfl | exact .inr rfl) (e_callB (cr_sumB rfl) k_sumB rfl T.z_sum (by decide +kernel) (a_cons (e_frz (l_comp (own := [("x", 6)]) rfl sc__law_filled.nd (i_range1 rfl T.z_range (e_len rfl T.z_len rfl (v_ 0))) (blkOk_by (by kernel_rfl)) (fun _ _ _ _ _ => (gn_ 6 sc__law_filled.nd)) (fun _ _ _ _ _ => (ts_one (t_cmp (op_ltU hr.units0) k_ltU (e_tup (a_cons (e_ix rfl (v_ 1) (v_ 6) (fun _ _ => rfl)) (a_cons (v_ 6) a_nil))) (e_tup (a_cons (e_ix rfl (v_ 1) (v_ 4) (fun _ _ => rfl)) (a_cons (v_ 4) a_nil))) (nomark _)))) (fun _ _ _ _ _ => (e_ix rfl (v_ 0) (v_ 6) (fun _ _ => rfl))))) a_nil)))
  (ss_one (s_expr (e_append (pe_bm PySem.F.plainAttrs_list PySem.F.slot_list_append PySem.F.type_list_append mt_append (v_ 3) (pa_cons (e_callB (call_min2 rfl) k_min2 rfl T.z_min (by decide +kernel) (a_cons (e_ix rfl (v_ 0) (v_ 4) (fun _ _ => rfl)) (a_cons (e_callB (call_max2 rfl) k_max2 rfl T.z_max (by decide +kernel) (a_cons e_int (a_cons (e_op op_sub k_sub (v_ 2) (v_ 5)) a_nil))) a_nil))) pa_nil)))))))
  (ss_one (s_ret (e_tuple rfl T.z_tuple rfl (v_ 3))))))
theorem sc__law_kept : FnScope ["units", "leak"] ["units", "leak"] (defScope s__law_kept) := ⟨rfl, rfl, rfl, by decide +kernel, rfl, by decide +kernel, by decide +kernel⟩
theorem ok__law_kept (T : Top K mg) : FnOk P w K mg base (L2.CX P w) 1 T._law_kept.f T._law_kept.fd ["units", "leak"] (spV ⟨K, mg⟩ 2 d__law_kept) :=
  fnV_ok (sb := b__law_kept) T._law_kept.fn sc__law_kept rfl rfl fun cdv A outer s H E hr => (ss_cons (s_if (t_cmp2 (op_eqG hr.units) k2_eqG (v_ 1) e_int (nomark _))
  (ss_one (s_ret (v_ 0)))
  ss_nil)
  (ss_one (s_ret (e_op op_sub k_sub (v_ 0) (e_op op_divB k_div (v_ 0) (v_ 1))))))
theorem sc__law_gained : FnScope ["units", "leak", "told", "gone"] ["units", "leak"] (defScope s__law_gained) := ⟨rfl, rfl, rfl, by decide +kernel, rfl, by decide +kernel, by decide +kernel⟩
theorem ok__law_gained (T : Top K mg) : FnOk P w K mg base (L2.CX P w) 2 T._law_gained.f T._law_gained.fd ["units", "leak"] (spV ⟨K, mg⟩ 2 d__law_gained) :=
  fnV_ok (sb := b__law_gained) T._law_gained.fn sc__law_gained rfl rfl fun cdv A outer s H E hr => (ss_cons (s_set (i := 2) sc__law_gained.nd rfl (by first | exact .inl rfl | exact .inr rfl) (e_call (ok_gain T) (hr.mono (by decide)) (takes_of rfl rfl rfl rfl) rfl T.gain.gm T.gain.fn.kp T.gain.bd (a_cons (v_ 0) (a_cons (v_ 1) a_nil))))
  (ss_cons (s_if (PW.pt (w_or (t_not (t_of rfl (e_isi (t := .int) rfl T.z_isinstance rfl T.z_int (by decide +kernel) rfl (v_ 2)))) (w_or1 (t_of rfl (e_isi (t := .bool) rfl T.z_isinstance rfl T.z_bool (by decide +kernel) rfl (v_ 2))))))
  (ss_one (s_ret e_bl))
  ss_nil)
  (ss_cons (s_set (i := 3) sc__law_gained.nd rfl (by first | exact .inl rfl | exact .inr rfl) (e_op op_sub k_sub (v_ 0) (v_ 2)))
  (ss_cons (s_if (t_cmp2 (op_eqG hr.units) k2_eqG (v_ 1) e_int (nomark _))
  (ss_one (s_ret (e_cmp2 (op_eqG hr.units) k2_eqG (v_ 3) e_int (nomark _))))
  ss_nil)
  (ss_one (s_ret (e_and (e_cmp op_le k_le (e_op2 op_mulU k2_mulU (v_ 3) (v_ 1)) (v_ 0) (nomark _)) (e_one (e_cmp (op_ltU hr.units0) k_ltU (v_ 0) (e_op2 op_mulU k2_mulU (e_op2 op_addU k2_addU (v_ 3) e_int) (v_ 1)) (nomark _))))))))))
theorem sc_law : FnScope ["script", "pool", "wide", "count", "wants", "t", "degrees", "total", "spare", "units", "due", "other", "leak", "flow", "room", "speed", "held", "takes", "u", "x"] ["script"] (defScope s_law) := ⟨rfl, rfl, rfl, by decide +kernel, rfl, by decide +kernel, by decide +kernel⟩
theorem ok_law (T : Top K mg) : FnOk P w K mg base (L2.CX P w) 14 T.law.f T.law.fd ["script"] (spV ⟨K, mg⟩ 1 d_law) :=
  fnV_ok (sb := b_law) T.law.fn sc_law rfl rfl fun cdv A outer s H E hr => (ss_cons (s_set (i := 1) sc_law.nd rfl (by first | exact .inl rfl | exact .inr rfl) (e_live (l_call (ok__law_pool T) (hr.mono (by decide)) (takes_of rfl rfl rfl rfl) rfl T._law_pool.gm T._law_pool.fn.kp T._law_pool.bd (a_cons (v_ 0) (a_cons e_int a_nil)))))
  (ss_cons (s_set (i := 2) sc_law.nd rfl (by first | exact .inl rfl | exact .inr rfl) (e_cmp2 (op_eqG hr.units) k2_eqG (e_call (ok__law_draw T) (hr.mono (by decide)) (takes_of rfl rfl rfl rfl) rfl T._law_draw.gm T._law_draw.fn.kp T._law_draw.bd (a_cons (v_ 1) (a_cons e_int a_nil))) e_int (nomark _)))
  (ss_cons (s_set (i := 3) sc_law.nd rfl (by first | exact .inl rfl | exact .inr rfl) (e_call (ok__law_up T) (hr.mono (by decide)) (takes_of rfl rfl rfl rfl) rfl T._law_up.gm T._law_up.fn.kp T._law_up.bd (a_cons (v_ 1) (a_cons e_int (a_cons e_int a_nil)))))
  (ss_cons (s_set (i := 4) sc_law.nd rfl (by first | exact .inl rfl | exact .inr rfl) (e_tuple rfl T.z_tuple rfl (e_frz (l_comp (own := [("t", 5)]) rfl sc_law.nd (i_range1 rfl T.z_range (v_ 3)) (blkOk_by (by kernel_rfl)) (fun _ _ _ _ _ => (gn_ 5 sc_law.nd)) (fun _ _ _ _ _ => ts_nil) (fun _ _ _ _ _ => (e_call (ok__law_units T) (hr.mono (by decide)) takes0 rfl T._law_units.gm T._law_units.fn.kp T._law_units.bd (a_cons (v_ 1) (a_cons (v_ 2) a_nil))))))))
  (ss_cons (s_set (i := 6) sc_law.nd rfl (by first | exact .inl rfl | exact .inr rfl) (e_tuple rfl T.z_tuple rfl (e_frz (l_comp (own := [("t", 5)]) rfl sc_law.nd (i_range1 rfl T.z_range (v_ 3)) (blkOk_by (by kernel_rfl)) (fun _ _ _ _ _ => (gn_ 5 sc_law.nd)) (fun _ _ _ _ _ => ts_nil) (fun _ _ _ _ _ => (e_op2 op_addU k2_addU e_int (e_call (ok__law_up T) (hr.mono (by decide)) takes0 rfl T._law_up.gm T._law_up.fn.kp T._law_up.bd (a_cons (v_ 1) (a_cons e_int (a_cons e_int a_nil))))))))))
  (ss_cons (s_set (i := 7) sc_law.nd rfl (by first | exact .inl rfl | exact .inr rfl) (e_callB (cr_sumB rfl) k_sumB rfl T.z_sum (by decide +kernel) (a_cons (v_ 4) a_nil)))
  (ss_cons (s_set (i := 8) sc_law.nd rfl (by first | exact .inl rfl | exact .inr rfl) (e_call (ok__law_draw T) (hr.mono (by decide)) (takes_of rfl rfl rfl rfl) rfl T._law_draw.gm T._law_draw.fn.kp T._law_draw.bd (a_cons (v_ 1) (a_cons (e_op2 op_addU k2_addU (v_ 7) e_int) a_nil))))
  (ss_cons (s_set (i := 9) sc_law.nd rfl (by first | exact .inl rfl | exact .inr rfl) (e_call (ok__law_pick T) (hr.mono (by decide)) (takes_of rfl rfl rfl rfl) rfl T._law_pick.gm T._law_pick.fn.kp T._law_pick.bd (a_cons (v_ 1) (a_cons (e_frz (l_disp (a_cons e_int (a_cons (v_ 7) (a_cons (e_callB (call_max2 rfl) k_max2 rfl T.z_max (by decide +kernel) (a_cons e_int (a_cons (e_op op_sub k_sub (v_ 7) e_int) a_nil))) (a_cons (e_op2 op_addU k2_addU (v_ 7) e_int) (a_cons (v_ 8) (a_cons (v_ 8) (a_cons (e_call (ok__law_units T) (hr.mono (by decide)) (takes_of rfl rfl rfl rfl) rfl T._law_units.gm T._law_units.fn.kp T._law_units.bd (a_cons (v_ 1) (a_cons e_bl a_nil))) a_nil))))))))) a_nil))))
  (ss_cons (s_set (i := 9) sc_law.nd rfl (by first | exact .inl rfl | exact .inr rfl) (e_callB (call_min2 rfl) k_min2 rfl T.z_min (by decide +kernel) (a_cons (e_op op_pow k_pow e_int e_int) (a_cons (v_ 9) a_nil))))
  (ss_cons (s_set (i := 8) sc_law.nd rfl (by first | exact .inl rfl | exact .inr rfl) (e_callB (call_min2 rfl) k_min2 rfl T.z_min (by decide +kernel) (a_cons (e_op op_pow k_pow e_int e_int) (a_cons (v_ 8) a_nil))))
  (ss_cons (s_set (i := 10) sc_law.nd rfl (by first | exact .inl rfl | exact .inr rfl) (e_call (ok__law_filled T) (hr.mono (by decide)) (takes_of rfl rfl rfl rfl) rfl T._law_filled.gm T._law_filled.fn.kp T._law_filled.bd (a_cons (v_ 4) (a_cons (v_ 6) (a_cons (v_ 9) a_nil)))))
  (ss_cons (s_set (i := 11) sc_law.nd rfl (by first | exact .inl rfl | exact .inr rfl) (e_call (ok__law_filled T) (hr.mono (by decide)) (takes_of rfl rfl rfl rfl) rfl T._law_filled.gm T._law_filled.fn.kp T._law_filled.bd (a_cons (v_ 4) (a_cons (v_ 6) (a_cons (v_ 8) a_nil)))))
  (ss_cons (s_set (i := 12) sc_law.nd rfl (by first | exact .inl rfl | exact .inr rfl) (e_call (ok__law_pick T) (hr.mono (by decide)) (takes_of rfl rfl rfl rfl) rfl T._law_pick.gm T._law_pick.fn.kp T._law_pick.bd (a_cons (v_ 1) (a_cons (e_frz (l_disp (a_cons e_int (a_cons e_int (a_cons e_int (a_cons (e_op2 op_addU k2_addU e_int (e_call (ok__law_draw T) (hr.mono (by decide)) (takes_of rfl rfl rfl rfl) rfl T._law_draw.gm T._law_draw.fn.kp T._law_draw.bd (a_cons (v_ 1) (a_cons e_int a_nil)))) a_nil)))))) a_nil))))
  (ss_cons (s_set (i := 13) sc_law.nd rfl (by first | exact .inl rfl | exact .inr rfl) (e_callB (call_min2 rfl) k_min2 rfl T.z_min (by decide +kernel) (a_cons (e_op op_sub k_sub (e_op op_pow k_pow e_int e_int) e_int) (a_cons (e_call (ok__law_units T) (hr.mono (by decide)) (takes_of rfl rfl rfl rfl) rfl T._law_units.gm T._law_units.fn.kp T._law_units.bd (a_cons (v_ 1) (a_cons (v_ 2) a_nil))) a_nil))))
  (ss_cons (s_set (i := 14) sc_law.nd rfl (by first | exact .inl rfl | exact .inr rfl) (e_call (ok__law_up T) (hr.mono (by decide)) (takes_of rfl rfl rfl rfl) rfl T._law_up.gm T._law_up.fn.kp T._law_up.bd (a_cons (v_ 1) (a_cons e_int (a_cons e_int a_nil)))))
  (ss_cons (s_set (i := 15) sc_law.nd rfl (by first | exact .inl rfl | exact .inr rfl) (e_call (ok__law_up T) (hr.mono (by decide)) (takes_of rfl rfl rfl rfl) rfl T._law_up.gm T._law_up.fn.kp T._law_up.bd (a_cons (v_ 1) (a_cons e_int (a_cons e_int a_nil)))))
  (ss_cons (s_if (t_of rfl (v_ 2))
  (ss_cons (s_set (i := 14) sc_law.nd rfl (by first | exact .inl rfl | exact .inr rfl) (e_call (ok__law_draw T) (hr.mono (by decide)) (takes_of rfl rfl rfl rfl) rfl T._law_draw.gm T._law_draw.fn.kp T._law_draw.bd (a_cons (v_ 1) (a_cons e_int a_nil))))
  (ss_one (s_set (i := 15) sc_law.nd rfl (by first | exact .inl rfl | exact .inr rfl) (e_call (ok__law_draw T) (hr.mono (by decide)) (takes_of rfl rfl rfl rfl) rfl T._law_draw.gm T._law_draw.fn.kp T._law_draw.bd (a_cons (v_ 1) (a_cons e_int a_nil))))))
  ss_nil)
  (ss_cons (s_set (i := 16) sc_law.nd rfl (by first | exact .inl rfl | exact .inr rfl) (e_call (ok__law_pick T) (hr.mono (by decide)) (takes_of rfl rfl rfl rfl) rfl T._law_pick.gm T._law_pick.fn.kp T._law_pick.bd (a_cons (v_ 1) (a_cons (e_frz (l_disp (a_cons (v_ 14) (a_cons (e_callB (call_max2 rfl) k_max2 rfl T.z_max (by decide +kernel) (a_cons e_int (a_cons (e_op op_sub k_sub (v_ 14) e_int) a_nil))) (a_cons e_int (a_cons (e_call (ok__law_draw T) (hr.mono (by decide)) (takes_of rfl rfl rfl rfl) rfl T._law_draw.gm T._law_draw.fn.kp T._law_draw.bd (a_cons (v_ 1) (a_cons (e_op2 op_addU k2_addU (v_ 14) e_int) a_nil))) a_nil)))))) a_nil))))
  (ss_cons (s_set (i := 17) sc_law.nd rfl (by first | exact .inl rfl | exact .inr rfl) (e_callB (cr_maxB rfl) k_maxB rfl T.z_max (by decide +kernel) (a_cons (e_frz (l_comp (own := [("u", 18)]) rfl sc_law.nd (i_range1 rfl T.z_range (e_op2 op_addU k2_addU (v_ 15) e_int)) (blkOk_by (by kernel_rfl)) (fun _ _ _ _ _ => (gn_ 18 sc_law.nd)) (fun _ _ _ _ _ => (ts_one (t_cmp op_le k_le (e_op2 op_addU k2_addU (v_ 16) (e_call (ok__law_kept T) (hr.mono (by decide)) takes0 rfl T._law_kept.gm T._law_kept.fn.kp T._law_kept.bd (a_cons (v_ 18) (a_cons (v_ 12) a_nil)))) (v_ 14) (nomark _)))) (fun _ _ _ _ _ => (v_ 18)))) a_nil)))
  (ss_cons (s_if (PW.pt (w_or (t_not (t_of rfl (e_call (ok__law_same T 12) (hr.mono (by decide)) (takes_of rfl rfl rfl rfl) rfl T._law_same.gm T._law_same.fn.kp T._law_same.bd (a_cons (e_call (ok_rank_fill T) (hr.mono (by decide)) (takes_of rfl rfl rfl rfl) rfl T.rank_fill.gm T.rank_fill.fn.kp T.rank_fill.bd (a_cons (v_ 4) (a_cons (v_ 6) (a_cons (v_ 9) a_nil)))) (a_cons (v_ 10) a_nil))))) (w_or1 (t_not (t_of rfl (e_call (ok__law_same T 12) (hr.mono (by decide)) (takes_of rfl rfl rfl rfl) rfl T._law_same.gm T._law_same.fn.kp T._law_same.bd (a_cons (e_call (ok_rank_fill T) (hr.mono (by decide)) (takes_of rfl rfl rfl rfl) rfl T.rank_fill.gm T.rank_fill.fn.kp T.rank_fill.bd (a_cons (v_ 4) (a_cons (v_ 6) (a_cons (v_ 8) a_nil)))) (a_cons (v_ 11) a_nil))))))))
  (ss_one (s_ret e_bl))
  ss_nil)
  (ss_cons (s_if (t_cmp2 (op_neG hr.units) k2_neG (e_frz (l_comp (own := [("x", 19)]) rfl sc_law.nd (i_range1 rfl T.z_range e_int) (blkOk_by (by kernel_rfl)) (fun _ _ _ _ _ => (gn_ 19 sc_law.nd)) (fun _ _ _ _ _ => (ts_one (t_not (t_of rfl (e_call (ok__law_gained T) (hr.mono (by decide)) takes0 rfl T._law_gained.gm T._law_gained.fn.kp T._law_gained.bd (a_cons (e_op2 op_addU k2_addU (v_ 13) (v_ 19)) (a_cons (v_ 12) a_nil))))))) (fun _ _ _ _ _ => (v_ 19)))) (e_frz (l_disp a_nil)) (nomark _))
  (ss_one (s_ret e_bl))
  ss_nil)
  (ss_cons (s_if (t_not (t_of rfl (e_call (ok__law_same T 12) (hr.mono (by decide)) (takes_of rfl rfl rfl rfl) rfl T._law_same.gm T._law_same.fn.kp T._law_same.bd (a_cons (e_call (ok_intake T) (hr.mono (by decide)) (takes_of rfl rfl rfl rfl) rfl T.intake.gm T.intake.fn.kp T.intake.bd (a_cons (v_ 14) (a_cons (v_ 15) (a_cons (v_ 12) (a_cons (v_ 16) a_nil))))) (a_cons (v_ 17) a_nil)))))
  (ss_one (s_ret e_bl))
  ss_nil)
  (ss_one (s_ret (e_call (ok__law_same T 12) (hr.mono (by decide)) (takes_of rfl rfl rfl rfl) rfl T._law_same.gm T._law_same.fn.kp T._law_same.bd (a_cons (e_call (ok_rank_fill T) (hr.mono (by decide)) (takes_of rfl rfl rfl rfl) rfl T.rank_fill.gm T.rank_fill.fn.kp T.rank_fill.bd (a_cons (v_ 4) (a_cons (v_ 6) (a_cons (v_ 9) a_nil)))) (a_cons (v_ 10) a_nil)))))))))))))))))))))))))))
end
theorem all_mk {l : PySem.W.OpenLaw} {w : World} {K : PySem.W.Frag} {h : Heap} {mg : Str → Option Value} {fa : Addr} (X : K.In h) (G : h.Ns mainGlobals mg) (hfa : mg "law" = some (.ref fa))
    {f0 : Addr} {od0 an0 : Option Addr} {sl0 : Array (Option Value)} {oc0 kV0 dc0 pm0 cd0 ct0 : Value}
    (a0 : PySem.W.nsIn K mainGlobals "rank_fill" = some (some (.ref f0))) (l0 : K.lookup f0 = some ⟨oc0, od0, .func (PySem.W.fnOf "rank_fill" "rank_fill" (defArgs s_rank_fill) (defBody s_rank_fill) (defScope s_rank_fill) .none kV0 dc0 pm0 an0 cd0 ct0), sl0⟩) (c0 : PySem.W.codeIn K cd0 "rank_fill" = true) (k0 : PySem.W.keepIn K (.ref f0) = true)
    {f1 : Addr} {od1 an1 : Option Addr} {sl1 : Array (Option Value)} {oc1 kV1 dc1 pm1 cd1 ct1 : Value}
    (a1 : PySem.W.nsIn K mainGlobals "gain" = some (some (.ref f1))) (l1 : K.lookup f1 = some ⟨oc1, od1, .func (PySem.W.fnOf "gain" "gain" (defArgs s_gain) (defBody s_gain) (defScope s_gain) .none kV1 dc1 pm1 an1 cd1 ct1), sl1⟩) (c1 : PySem.W.codeIn K cd1 "gain" = true) (k1 : PySem.W.keepIn K (.ref f1) = true)
    {f2 : Addr} {od2 an2 : Option Addr} {sl2 : Array (Option Value)} {oc2 kV2 dc2 pm2 cd2 ct2 : Value}
    (a2 : PySem.W.nsIn K mainGlobals "intake" = some (some (.ref f2))) (l2 : K.lookup f2 = some ⟨oc2, od2, .func (PySem.W.fnOf "intake" "intake" (defArgs s_intake) (defBody s_intake) (defScope s_intake) .none kV2 dc2 pm2 an2 cd2 ct2), sl2⟩) (c2 : PySem.W.codeIn K cd2 "intake" = true) (k2 : PySem.W.keepIn K (.ref f2) = true)
    {f3 : Addr} {od3 an3 : Option Addr} {sl3 : Array (Option Value)} {oc3 kV3 dc3 pm3 cd3 ct3 : Value}
    (a3 : PySem.W.nsIn K mainGlobals "_law_pool" = some (some (.ref f3))) (l3 : K.lookup f3 = some ⟨oc3, od3, .func (PySem.W.fnOf "_law_pool" "_law_pool" (defArgs s__law_pool) (defBody s__law_pool) (defScope s__law_pool) .none kV3 dc3 pm3 an3 cd3 ct3), sl3⟩) (c3 : PySem.W.codeIn K cd3 "_law_pool" = true) (k3 : PySem.W.keepIn K (.ref f3) = true)
    {f4 : Addr} {od4 an4 : Option Addr} {sl4 : Array (Option Value)} {oc4 kV4 dc4 pm4 cd4 ct4 : Value}
    (a4 : PySem.W.nsIn K mainGlobals "_law_draw" = some (some (.ref f4))) (l4 : K.lookup f4 = some ⟨oc4, od4, .func (PySem.W.fnOf "_law_draw" "_law_draw" (defArgs s__law_draw) (defBody s__law_draw) (defScope s__law_draw) .none kV4 dc4 pm4 an4 cd4 ct4), sl4⟩) (c4 : PySem.W.codeIn K cd4 "_law_draw" = true) (k4 : PySem.W.keepIn K (.ref f4) = true)
    {f5 : Addr} {od5 an5 : Option Addr} {sl5 : Array (Option Value)} {oc5 kV5 dc5 pm5 cd5 ct5 : Value}
    (a5 : PySem.W.nsIn K mainGlobals "_law_pick" = some (some (.ref f5))) (l5 : K.lookup f5 = some ⟨oc5, od5, .func (PySem.W.fnOf "_law_pick" "_law_pick" (defArgs s__law_pick) (defBody s__law_pick) (defScope s__law_pick) .none kV5 dc5 pm5 an5 cd5 ct5), sl5⟩) (c5 : PySem.W.codeIn K cd5 "_law_pick" = true) (k5 : PySem.W.keepIn K (.ref f5) = true)
    {f6 : Addr} {od6 an6 : Option Addr} {sl6 : Array (Option Value)} {oc6 kV6 dc6 pm6 cd6 ct6 : Value}
    (a6 : PySem.W.nsIn K mainGlobals "_law_up" = some (some (.ref f6))) (l6 : K.lookup f6 = some ⟨oc6, od6, .func (PySem.W.fnOf "_law_up" "_law_up" (defArgs s__law_up) (defBody s__law_up) (defScope s__law_up) .none kV6 dc6 pm6 an6 cd6 ct6), sl6⟩) (c6 : PySem.W.codeIn K cd6 "_law_up" = true) (k6 : PySem.W.keepIn K (.ref f6) = true)
    {f7 : Addr} {od7 an7 : Option Addr} {sl7 : Array (Option Value)} {oc7 kV7 dc7 pm7 cd7 ct7 : Value}
    (a7 : PySem.W.nsIn K mainGlobals "_law_same" = some (some (.ref f7))) (l7 : K.lookup f7 = some ⟨oc7, od7, .func (PySem.W.fnOf "_law_same" "_law_same" (defArgs s__law_same) (defBody s__law_same) (defScope s__law_same) .none kV7 dc7 pm7 an7 cd7 ct7), sl7⟩) (c7 : PySem.W.codeIn K cd7 "_law_same" = true) (k7 : PySem.W.keepIn K (.ref f7) = true)
    {f8 : Addr} {od8 an8 : Option Addr} {sl8 : Array (Option Value)} {oc8 kV8 dc8 pm8 cd8 ct8 : Value}
    (a8 : PySem.W.nsIn K mainGlobals "_law_units" = some (some (.ref f8))) (l8 : K.lookup f8 = some ⟨oc8, od8, .func (PySem.W.fnOf "_law_units" "_law_units" (defArgs s__law_units) (defBody s__law_units) (defScope s__law_units) .none kV8 dc8 pm8 an8 cd8 ct8), sl8⟩) (c8 : PySem.W.codeIn K cd8 "_law_units" = true) (k8 : PySem.W.keepIn K (.ref f8) = true)
    {f9 : Addr} {od9 an9 : Option Addr} {sl9 : Array (Option Value)} {oc9 kV9 dc9 pm9 cd9 ct9 : Value}
    (a9 : PySem.W.nsIn K mainGlobals "_law_filled" = some (some (.ref f9))) (l9 : K.lookup f9 = some ⟨oc9, od9, .func (PySem.W.fnOf "_law_filled" "_law_filled" (defArgs s__law_filled) (defBody s__law_filled) (defScope s__law_filled) .none kV9 dc9 pm9 an9 cd9 ct9), sl9⟩) (c9 : PySem.W.codeIn K cd9 "_law_filled" = true) (k9 : PySem.W.keepIn K (.ref f9) = true)
    {f10 : Addr} {od10 an10 : Option Addr} {sl10 : Array (Option Value)} {oc10 kV10 dc10 pm10 cd10 ct10 : Value}
    (a10 : PySem.W.nsIn K mainGlobals "_law_kept" = some (some (.ref f10))) (l10 : K.lookup f10 = some ⟨oc10, od10, .func (PySem.W.fnOf "_law_kept" "_law_kept" (defArgs s__law_kept) (defBody s__law_kept) (defScope s__law_kept) .none kV10 dc10 pm10 an10 cd10 ct10), sl10⟩) (c10 : PySem.W.codeIn K cd10 "_law_kept" = true) (k10 : PySem.W.keepIn K (.ref f10) = true)
    {f11 : Addr} {od11 an11 : Option Addr} {sl11 : Array (Option Value)} {oc11 kV11 dc11 pm11 cd11 ct11 : Value}
    (a11 : PySem.W.nsIn K mainGlobals "_law_gained" = some (some (.ref f11))) (l11 : K.lookup f11 = some ⟨oc11, od11, .func (PySem.W.fnOf "_law_gained" "_law_gained" (defArgs s__law_gained) (defBody s__law_gained) (defScope s__law_gained) .none kV11 dc11 pm11 an11 cd11 ct11), sl11⟩) (c11 : PySem.W.codeIn K cd11 "_law_gained" = true) (k11 : PySem.W.keepIn K (.ref f11) = true)
    {f12 : Addr} {od12 an12 : Option Addr} {sl12 : Array (Option Value)} {oc12 kV12 dc12 pm12 cd12 ct12 : Value}
    (a12 : PySem.W.nsIn K mainGlobals "law" = some (some (.ref f12))) (l12 : K.lookup f12 = some ⟨oc12, od12, .func (PySem.W.fnOf "law" "law" (defArgs s_law) (defBody s_law) (defScope s_law) .none kV12 dc12 pm12 an12 cd12 ct12), sl12⟩) (c12 : PySem.W.codeIn K cd12 "law" = true) (k12 : PySem.W.keepIn K (.ref f12) = true)
    (z_abs : PySem.W.nsIn K mainGlobals "abs" = some none)
    (z_bool : PySem.W.nsIn K mainGlobals "bool" = some none)
    (z_enumerate : PySem.W.nsIn K mainGlobals "enumerate" = some none)
    (z_int : PySem.W.nsIn K mainGlobals "int" = some none)
    (z_isinstance : PySem.W.nsIn K mainGlobals "isinstance" = some none)
    (z_len : PySem.W.nsIn K mainGlobals "len" = some none)
    (z_max : PySem.W.nsIn K mainGlobals "max" = some none)
    (z_min : PySem.W.nsIn K mainGlobals "min" = some none)
    (z_range : PySem.W.nsIn K mainGlobals "range" = some none)
    (z_sorted : PySem.W.nsIn K mainGlobals "sorted" = some none)
    (z_str : PySem.W.nsIn K mainGlobals "str" = some none)
    (z_sum : PySem.W.nsIn K mainGlobals "sum" = some none)
    (z_tuple : PySem.W.nsIn K mainGlobals "tuple" = some none)
    : ∃ fd : FuncData, (∀ (s : Shared) (v : Value), BindsTo s fd ⟨[v], []⟩ [("script", v)]) ∧ ∀ base : Heap, K.In base → base.Ns mainGlobals mg → FnOk l.prog w K mg base (L2.CX l.prog w) 14 fa fd ["script"] (spV ⟨K, mg⟩ 1 d_law) := by
  have e := hfa.symm.trans (PySem.W.mg_of X G a12)
  cases e
  have F0 := fun_mk (st := s_rank_fill) l0 c0 k0
  have F1 := fun_mk (st := s_gain) l1 c1 k1
  have F2 := fun_mk (st := s_intake) l2 c2 k2
  have F3 := fun_mk (st := s__law_pool) l3 c3 k3
  have F4 := fun_mk (st := s__law_draw) l4 c4 k4
  have F5 := fun_mk (st := s__law_pick) l5 c5 k5
  have F6 := fun_mk (st := s__law_up) l6 c6 k6
  have F7 := fun_mk (st := s__law_same) l7 c7 k7
  have F8 := fun_mk (st := s__law_units) l8 c8 k8
  have F9 := fun_mk (st := s__law_filled) l9 c9 k9
  have F10 := fun_mk (st := s__law_kept) l10 c10 k10
  have F11 := fun_mk (st := s__law_gained) l11 c11 k11
  have F12 := fun_mk (st := s_law) l12 c12 k12
  exact ⟨_, fun s v => .of_eq rfl, fun base _ _ => ok_law (P := l.prog) (w := w) (base := base) ⟨⟨_, _, F0, F0.binds (ps := ["wants", "ranks", "units"]) (fun _ _ _ _ _ _ us hl => match us, hl with | [_, _, _], _ => rfl), PySem.W.mg_of X G a0⟩, ⟨_, _, F1, F1.binds (ps := ["units", "loss"]) (fun _ _ _ _ _ _ us hl => match us, hl with | [_, _], _ => rfl), PySem.W.mg_of X G a1⟩, ⟨_, _, F2, F2.binds (ps := ["capacity", "power", "loss", "charge"]) (fun _ _ _ _ _ _ us hl => match us, hl with | [_, _, _, _], _ => rfl), PySem.W.mg_of X G a2⟩, ⟨_, _, F3, F3.binds (ps := ["script", "place"]) (fun _ _ _ _ _ _ us hl => match us, hl with | [_, _], _ => rfl), PySem.W.mg_of X G a3⟩, ⟨_, _, F4, F4.binds (ps := ["pool", "many"]) (fun _ _ _ _ _ _ us hl => match us, hl with | [_, _], _ => rfl), PySem.W.mg_of X G a4⟩, ⟨_, _, F5, F5.binds (ps := ["pool", "row"]) (fun _ _ _ _ _ _ us hl => match us, hl with | [_, _], _ => rfl), PySem.W.mg_of X G a5⟩, ⟨_, _, F6, F6.binds (ps := ["pool", "few", "many"]) (fun _ _ _ _ _ _ us hl => match us, hl with | [_, _, _], _ => rfl), PySem.W.mg_of X G a6⟩, ⟨_, _, F7, F7.binds (ps := ["got", "due"]) (fun _ _ _ _ _ _ us hl => match us, hl with | [_, _], _ => rfl), PySem.W.mg_of X G a7⟩, ⟨_, _, F8, F8.binds (ps := ["pool", "wide"]) (fun _ _ _ _ _ _ us hl => match us, hl with | [_, _], _ => rfl), PySem.W.mg_of X G a8⟩, ⟨_, _, F9, F9.binds (ps := ["wants", "degrees", "units"]) (fun _ _ _ _ _ _ us hl => match us, hl with | [_, _, _], _ => rfl), PySem.W.mg_of X G a9⟩, ⟨_, _, F10, F10.binds (ps := ["units", "leak"]) (fun _ _ _ _ _ _ us hl => match us, hl with | [_, _], _ => rfl), PySem.W.mg_of X G a10⟩, ⟨_, _, F11, F11.binds (ps := ["units", "leak"]) (fun _ _ _ _ _ _ us hl => match us, hl with | [_, _], _ => rfl), PySem.W.mg_of X G a11⟩, ⟨_, _, F12, F12.binds (ps := ["script"]) (fun _ _ _ _ _ _ us hl => match us, hl with | [_], _ => rfl), PySem.W.mg_of X G a12⟩, PySem.W.mg_none_of X G z_abs, PySem.W.mg_none_of X G z_bool, PySem.W.mg_none_of X G z_enumerate, PySem.W.mg_none_of X G z_int, PySem.W.mg_none_of X G z_isinstance, PySem.W.mg_none_of X G z_len, PySem.W.mg_none_of X G z_max, PySem.W.mg_none_of X G z_min, PySem.W.mg_none_of X G z_range, PySem.W.mg_none_of X G z_sorted, PySem.W.mg_none_of X G z_str, PySem.W.mg_none_of X G z_sum, PySem.W.mg_none_of X G z_tuple⟩⟩
end Pk02
open PySem PySem.W PyProof.Rows
set_option maxRecDepth 100000 in
set_option maxHeartbeats 0 in
theorem PySem.Challenge.cw_gridstead_k02_fill_by_rank_holds : PySem.Challenge.rw_gridstead_k02_fill_by_rank.Holds := by
  w_on; o_law; k_head; (case hw => w_witness2)
  k_fill
  refine Dn.walk_of (l := PySem.Challenge.rw_gridstead_k02_fill_by_rank) (k := 14) (g := Pk02.d_law) rfl rfl ⟨rfl, by decide, by decide⟩ (fun w h Y => PySem.W.kIn_of Y) ?F Pk02.law_true
  case F =>
    intro w mg fa h KX G hmg
    refine' Pk02.all_mk KX G hmg ?a0 ?l0 ?c0 ?k0 ?a1 ?l1 ?c1 ?k1 ?a2 ?l2 ?c2 ?k2 ?a3 ?l3 ?c3 ?k3 ?a4 ?l4 ?c4 ?k4 ?a5 ?l5 ?c5 ?k5 ?a6 ?l6 ?c6 ?k6 ?a7 ?l7 ?c7 ?k7 ?a8 ?l8 ?c8 ?k8 ?a9 ?l9 ?c9 ?k9 ?a10 ?l10 ?c10 ?k10 ?a11 ?l11 ?c11 ?k11 ?a12 ?l12 ?c12 ?k12 ?z_abs ?z_bool ?z_enumerate ?z_int ?z_isinstance ?z_len ?z_max ?z_min ?z_range ?z_sorted ?z_str ?z_sum ?z_tuple
    (case a0 => k_is)
    (case l0 => k_is)
    (case c0 => k_is)
    (case k0 => k_is)
    (case a1 => k_is)
    (case l1 => k_is)
    (case c1 => k_is)
    (case k1 => k_is)
    (case a2 => k_is)
    (case l2 => k_is)
    (case c2 => k_is)
    (case k2 => k_is)
    (case a3 => k_is)
    (case l3 => k_is)
    (case c3 => k_is)
    (case k3 => k_is)
    (case a4 => k_is)
    (case l4 => k_is)
    (case c4 => k_is)
    (case k4 => k_is)
    (case a5 => k_is)
    (case l5 => k_is)
    (case c5 => k_is)
    (case k5 => k_is)
    (case a6 => k_is)
    (case l6 => k_is)
    (case c6 => k_is)
    (case k6 => k_is)
    (case a7 => k_is)
    (case l7 => k_is)
    (case c7 => k_is)
    (case k7 => k_is)
    (case a8 => k_is)
    (case l8 => k_is)
    (case c8 => k_is)
    (case k8 => k_is)
    (case a9 => k_is)
    (case l9 => k_is)
    (case c9 => k_is)
    (case k9 => k_is)
    (case a10 => k_is)
    (case l10 => k_is)
    (case c10 => k_is)
    (case k10 => k_is)
    (case a11 => k_is)
    (case l11 => k_is)
    (case c11 => k_is)
    (case k11 => k_is)
    (case a12 => k_is)
    (case l12 => k_is)
    (case c12 => k_is)
    (case k12 => k_is)
    (case z_abs => k_is)
    (case z_bool => k_is)
    (case z_enumerate => k_is)
    (case z_int => k_is)
    (case z_isinstance => k_is)
    (case z_len => k_is)
    (case z_max => k_is)
    (case z_min => k_is)
    (case z_range => k_is)
    (case z_sorted => k_is)
    (case z_str => k_is)
    (case z_sum => k_is)
    (case z_tuple => k_is)
